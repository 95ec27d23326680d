import PyProof.Rows.All
import Wide.All
import OpenK.AllK
import Wide.FinOn
import HandS.ForMost
import HandS.Walk
import HandS.IsInst
import HandS.Wide
import HandS.TupAny
import HandS.Conv
import HandS.Style
import PyProof.WalksMore
import HandS.Defaults
import HandS.Zip
import KE.GoesMore
import HandS.SortInts
import KE.SortData
import HandS.Dict
import HandS.Iter
import HandS.ForDict
import HandS.Head0
import HandS.Head1
import HandS.Head2
import HandS.HeadEnd
import HandS.HeadHook1
import HandS.HeadHook2
import PyProof.Rows.TupDisplay
import PyProof.TupleOfSeq
import KE.SortCalls
import HandS.TupMul
import HandS.TupLe
import PySem.Challenge.RW_rowspushed_k35_whole_all_words_as_lattic
set_option Elab.async false
set_option linter.all false
set_option maxRecDepth 100000
set_option maxHeartbeats 1000000
/-! DL1: values as plain data, worlds, the state of a body, readings by pure functions. -/
namespace DL
open PySem PySem.Spec PyProof.Rows L2
abbrev D := PyData

/-! ### heaps that only grow -/
theorem same_upd {H : Hp} {p : Addr} {o : HO} (h : H p = none) : Same H (upd H p o) := fun b x e => by
  rw [upd_ne (ne_of_none e h)]
  exact e
theorem same_l {K : PySem.W.Frag} {H H' : Hp} {a : Addr} {xs : List V} (e : Same H H') (h : SqL K H a xs) : SqL K H' a xs := e.seq h
theorem same_t {K : PySem.W.Frag} {H H' : Hp} {a : Addr} {xs : List V} (e : Same H H') (h : SqT K H a xs) : SqT K H' a xs := by
  rcases h with (h | ⟨o, h⟩) | h
  · exact .inl (.inl (e _ _ h))
  · exact .inl (.inr ⟨o, e _ _ h⟩)
  · exact .inr h
/-- a list that stands at a: tracked, known, or an object of the module's -/
def LstAt (K : PySem.W.Frag) (H : Hp) (a : Addr) (xs : List V) : Prop :=
  Rd H a (.lst xs) ∨ ∃ (its : Array Value) (n : Nat), K.lookup a = some { cls := .type "list", data := .seq its n } ∧ its.size ≤ sizeLine ∧ Vals xs its.toList
theorem la_sql {K : PySem.W.Frag} {H : Hp} {a : Addr} {xs : List V} (h : LstAt K H a xs) : SqL K H a xs := by
  rcases h with h | ⟨its, n, h1, h2, h3⟩
  · exact .inl h
  · exact .inr ⟨_, its, n, h1, rfl, rfl, rfl, h2, h3⟩
/-- a key of a dict as data -/
def keyD : L2.Key → D
  | .inl i => .int i
  | .inr x => .str x
mutual
/-- what stands for plain data: a list is one that the layer knows by itself -/
inductive Dq (K : PySem.W.Frag) (H : Hp) : V → D → Prop
  | non : Dq K H .non .none
  | bl (b : Bool) : Dq K H (.bl b) (.bool b)
  | int (i : Int) : Dq K H (.int i) (.int i)
  | str (x : Str) : Dq K H (.str x) (.str x)
  | lst {a : Addr} {xs : List V} {ds : List D} : LstAt K H a xs → Da K H xs ds → Dq K H (.ref a) (.list ds)
  | tup {a : Addr} {xs : List V} {ds : List D} : H a = some (.tup xs) → Da K H xs ds → Dq K H (.ref a) (.tuple ds)
inductive Da (K : PySem.W.Frag) (H : Hp) : List V → List D → Prop
  | nil : Da K H [] []
  | cons {v : V} {vs : List V} {d : D} {ds : List D} : Dq K H v d → Da K H vs ds → Da K H (v :: vs) (d :: ds)
end
inductive Dk (K : PySem.W.Frag) (H : Hp) : List (List L2.Key × V) → List (D × D) → Prop
  | nil : Dk K H [] []
  | cons {k : List L2.Key} {v : V} {ks : List (List L2.Key × V)} {d : D} {es : List (D × D)} : Dq K H v d → Dk K H ks es → Dk K H ((k, v) :: ks) ((.tuple (k.map keyD), d) :: es)
inductive Dj (K : PySem.W.Frag) (H : Hp) : List (L2.Key × V) → List (D × D) → Prop
  | nil : Dj K H [] []
  | cons {k : L2.Key} {v : V} {ks : List (L2.Key × V)} {d : D} {es : List (D × D)} : Dq K H v d → Dj K H ks es → Dj K H ((k, v) :: ks) ((keyD k, d) :: es)
mutual
/-- no dict within -/
def noD : D → Bool
  | .list l => noDs l
  | .tuple l => noDs l
  | .dict _ => false
  | _ => true
def noDs : List D → Bool
  | [] => true
  | d :: ds => noD d && noDs ds
end
theorem noDs_cons {d : D} {ds : List D} (h : noDs (d :: ds) = true) : noD d = true ∧ noDs ds = true := by
  have h' : (noD d && noDs ds) = true := h
  rwa [Bool.and_eq_true] at h'
mutual
theorem noD_lay : ∀ {d : D}, d.canLay0 = true → noD d = true
  | .none, _ => rfl
  | .bool _, _ => rfl
  | .int _, _ => rfl
  | .str _, _ => rfl
  | .list l, h => noDs_lay (l := l) h
  | .tuple l, h => noDs_lay (l := l) h
  | .dict _, h => by cases h
theorem noDs_lay : ∀ {l : List D}, PyData.canLayAll0 l = true → noDs l = true
  | [], _ => rfl
  | d :: ds, h => by
    have h' : (d.canLay0 && PyData.canLayAll0 ds) = true := h
    rw [Bool.and_eq_true] at h'
    show (noD d && noDs ds) = true
    rw [noD_lay h'.1, noDs_lay h'.2]
    rfl
end
theorem rd_same {H H' : Hp} (e : Same H H') {a : Addr} {o : HO} (h : Rd H a o) : Rd H' a o := by
  rcases h with h | ⟨u, h⟩
  · exact .inl (e _ _ h)
  · exact .inr ⟨u, e _ _ h⟩
mutual
theorem dq_dp {K : PySem.W.Frag} {H : Hp} : ∀ {v : V} {d : D}, noD d = true → Dq K H v d → Dp K H v d
  | _, _, _, .non => .non
  | _, _, _, .bl b => .bl b
  | _, _, _, .int i => .int i
  | _, _, _, .str x => .str x
  | _, _, n, .lst h a => .lst (la_sql h) (da_dp n a)
  | _, _, n, .tup h a => .tup (.inl (.inl h)) (da_dp n a)
theorem da_dp {K : PySem.W.Frag} {H : Hp} : ∀ {vs : List V} {ds : List D}, noDs ds = true → Da K H vs ds → DpAll K H vs ds
  | _, _, _, .nil => .nil
  | _, _, n, .cons h t => .cons (dq_dp (noDs_cons n).1 h) (da_dp (noDs_cons n).2 t)
end
theorem la_same {K : PySem.W.Frag} {H H' : Hp} (e : Same H H') {a : Addr} {xs : List V} (h : LstAt K H a xs) : LstAt K H' a xs := by
  rcases h with h | h
  · exact .inl (rd_same e h)
  · exact .inr h
mutual
theorem dq_same {K : PySem.W.Frag} {H H' : Hp} (e : Same H H') : ∀ {v : V} {d : D}, Dq K H v d → Dq K H' v d
  | _, _, .non => .non
  | _, _, .bl b => .bl b
  | _, _, .int i => .int i
  | _, _, .str x => .str x
  | _, _, .lst h a => .lst (la_same e h) (dqAll_same e a)
  | _, _, .tup h a => .tup (e _ _ h) (dqAll_same e a)
theorem dqAll_same {K : PySem.W.Frag} {H H' : Hp} (e : Same H H') : ∀ {vs : List V} {ds : List D}, Da K H vs ds → Da K H' vs ds
  | _, _, .nil => .nil
  | _, _, .cons h t => .cons (dq_same e h) (dqAll_same e t)
end
theorem dk_same {K : PySem.W.Frag} {H H' : Hp} (e : Same H H') : ∀ {ks : List (List L2.Key × V)} {es : List (D × D)}, Dk K H ks es → Dk K H' ks es
  | _, _, .nil => .nil
  | _, _, .cons h t => .cons (dq_same e h) (dk_same e t)
theorem dj_same {K : PySem.W.Frag} {H H' : Hp} (e : Same H H') : ∀ {ks : List (L2.Key × V)} {es : List (D × D)}, Dj K H ks es → Dj K H' ks es
  | _, _, .nil => .nil
  | _, _, .cons h t => .cons (dq_same e h) (dj_same e t)
def isDct : D → Bool
  | .dict _ => true
  | _ => false
theorem tup_sqt {K : PySem.W.Frag} {H : Hp} {a : Addr} {xs : List V} (h : H a = some (.tup xs)) : SqT K H a xs := .inl (.inl h)
/-- dicts as data: a mark of the kind of their keys (tuples; ints and texts), then the pairs -/
abbrev tD (es : List (D × D)) : D := .dict ((.none, .none) :: es)
abbrev kD (es : List (D × D)) : D := .dict ((.bool true, .none) :: es)
/-- what an own object holds -/
inductive OwD (K : PySem.W.Frag) (F : Hp) : HO → D → Prop
  | lst {vs : List V} {l : List D} : Da K F vs l → OwD K F (.lst vs) (.list l)
  | dctT {ks : List (List L2.Key × V)} {es : List (D × D)} : Dk K F ks es → OwD K F (.dT ks) (tD es)
  | dctK {ks : List (L2.Key × V)} {es : List (D × D)} : Dj K F ks es → OwD K F (.dK ks) (kD es)
theorem ow_same {K : PySem.W.Frag} {F F' : Hp} (e : Same F F') {o : HO} {c : D} (h : OwD K F o c) : OwD K F' o c := by
  cases h with
  | lst h => exact .lst (dqAll_same e h)
  | dctT h => exact .dctT (dk_same e h)
  | dctK h => exact .dctK (dj_same e h)
/-- frozen it stands for the same data -/
theorem ow_dq {K : PySem.W.Frag} {F : Hp} {o : HO} {c : D} {a : Addr} (nd : isDct c = false) (h : OwD K F o c) (k : F a = some o) : Dq K F (.ref a) c := by
  cases h with
  | lst h => exact .lst (.inl (.inl k)) h
  | dctT h => cases nd
  | dctK h => cases nd
theorem ow_ntup {K : PySem.W.Frag} {F : Hp} {xs : List V} {c : D} (h : OwD K F (.tup xs) c) : False := by cases h
theorem ow_lst {K : PySem.W.Frag} {F : Hp} {o : HO} {l : List D} (h : OwD K F o (.list l)) : ∃ vs, o = .lst vs ∧ Da K F vs l := by
  cases h with
  | lst h => exact ⟨_, rfl, h⟩
section
variable {K : PySem.W.Frag} {H : Hp}
theorem da_len : ∀ {vs : List V} {ds : List D}, Da K H vs ds → vs.length = ds.length
  | _, _, .nil => rfl
  | _, _, .cons _ t => by rw [List.length_cons, List.length_cons, da_len t]
theorem da_get : ∀ {vs : List V} {ds : List D} {i : Nat} {d : D}, Da K H vs ds → ds[i]? = some d → ∃ v, vs[i]? = some v ∧ Dq K H v d
  | _, _, _, _, .nil, e => by simp at e
  | _, _, 0, _, .cons h _, e => by simp at e; subst e; exact ⟨_, rfl, h⟩
  | _, _, i + 1, d, .cons _ t, e => by
    obtain ⟨v, h1, h2⟩ := da_get (i := i) (d := d) t (by simpa using e)
    exact ⟨v, by simpa using h1, h2⟩
theorem da_getV : ∀ {vs : List V} {ds : List D} {i : Nat} {v : V}, Da K H vs ds → vs[i]? = some v → ∃ d, ds[i]? = some d ∧ Dq K H v d
  | _, _, _, _, .nil, e => by simp at e
  | _, _, 0, _, .cons h _, e => by simp at e; subst e; exact ⟨_, rfl, h⟩
  | _, _, i + 1, d, .cons _ t, e => by
    obtain ⟨v, h1, h2⟩ := da_getV (i := i) (v := d) t (by simpa using e)
    exact ⟨v, by simpa using h1, h2⟩
theorem da_append : ∀ {vs us : List V} {ds es : List D}, Da K H vs ds → Da K H us es → Da K H (vs ++ us) (ds ++ es)
  | _, _, _, _, .nil, s => s
  | _, _, _, _, .cons h t, s => .cons h (da_append t s)
theorem da_take : ∀ {vs : List V} {ds : List D} (n : Nat), Da K H vs ds → Da K H (vs.take n) (ds.take n)
  | _, _, 0, _ => .nil
  | _, _, _ + 1, .nil => .nil
  | _, _, n + 1, .cons h t => .cons h (da_take n t)
theorem da_drop : ∀ {vs : List V} {ds : List D} (n : Nat), Da K H vs ds → Da K H (vs.drop n) (ds.drop n)
  | _, _, 0, r => r
  | _, _, _ + 1, .nil => .nil
  | _, _, n + 1, .cons _ t => da_drop n t
theorem da_set {v : V} {d : D} (r : Dq K H v d) : ∀ {vs : List V} {ds : List D} (i : Nat), Da K H vs ds → Da K H (vs.set i v) (ds.set i d)
  | _, _, _, .nil => .nil
  | _, _, 0, .cons _ t => .cons r t
  | _, _, i + 1, .cons q t => .cons q (da_set r i t)
theorem da_reverse : ∀ {vs : List V} {ds : List D}, Da K H vs ds → Da K H vs.reverse ds.reverse
  | _, _, .nil => .nil
  | _, _, .cons h t => by
    rw [List.reverse_cons, List.reverse_cons]
    exact da_append (da_reverse t) (.cons h .nil)
theorem da_dropLast : ∀ {vs : List V} {ds : List D}, Da K H vs ds → Da K H vs.dropLast ds.dropLast := fun {vs ds} h => by
  rw [List.dropLast_eq_take, List.dropLast_eq_take, da_len h]
  exact da_take _ h
theorem da_replicate (n : Nat) {vs : List V} {ds : List D} (h : Da K H vs ds) : Da K H (List.replicate n vs).flatten (List.replicate n ds).flatten := by
  induction n with
  | zero => exact .nil
  | succ n ih =>
    rw [List.replicate_succ, List.replicate_succ, List.flatten_cons, List.flatten_cons]
    exact da_append h ih
theorem da_cons_inv {vs : List V} {d : D} {ds : List D} (h : Da K H vs (d :: ds)) : ∃ v r, vs = v :: r ∧ Dq K H v d ∧ Da K H r ds := by
  cases h with
  | cons a b => exact ⟨_, _, rfl, a, b⟩
theorem da_nil_inv {vs : List V} (h : Da K H vs []) : vs = [] := by
  cases h
  rfl
theorem da_ints : ∀ {ns : List Int} {vs : List V}, Da K H vs (ns.map PyData.int) → vs = ns.map V.int
  | [], vs, h => by cases h; rfl
  | n :: ns, vs, h => by
    obtain ⟨v, r, rfl, a, b⟩ := da_cons_inv (show Da K H vs (PyData.int n :: ns.map PyData.int) from h)
    cases a
    rw [da_ints b]
    rfl
theorem da_bools : ∀ {bs : List Bool} {vs : List V}, Da K H vs (bs.map PyData.bool) → vs = bs.map V.bl
  | [], vs, h => by cases h; rfl
  | n :: ns, vs, h => by
    obtain ⟨v, r, rfl, a, b⟩ := da_cons_inv (show Da K H vs (PyData.bool n :: ns.map PyData.bool) from h)
    cases a
    rw [da_bools b]
    rfl
end

/-! ### slots, worlds -/
/-- what a body's slot holds: nothing; a frozen value; a list of the body's own (or lent to it), that may change. b: lent (a parameter that is not stored again) -/
inductive Slot where
  | dead
  | val (b : Bool) (d : D)
  | own (b : Bool) (c : D)
  /-- a dict of the body's own while a loop walks it -/
  | lck (c : D)
abbrev En := List Slot
def Slot.pin : Slot → Bool
  | .dead => false
  | .val b _ => b
  | .own b _ => b
  | .lck _ => true
/-- frozen part, heap, the addresses of the lists that may change -/
structure Wd where
  F : Hp
  H : Hp
  O : Addr → Prop
structure Le (w w' : Wd) : Prop where
  fz : Same w.F w'.F
  keep : ∀ a o, w.H a = some o → ¬ w.O a → w'.H a = some o
  new : ∀ a o, w'.F a = some o → w.F a = some o ∨ w.H a = none ∨ w.O a ∨ ∃ xs, w.H a = some (.tup xs)
  own : ∀ a, w'.O a → w.O a ∨ w.H a = none
  dom : ∀ a, w'.H a = none → w.H a = none
theorem Le.refl (w : Wd) : Le w w := ⟨Same.refl _, fun _ _ h _ => h, fun _ _ h => .inl h, fun _ h => .inl h, fun _ h => h⟩
theorem Le.trans {w w1 w2 : Wd} (a : Le w w1) (b : Le w1 w2) : Le w w2 where
  fz := a.fz.trans b.fz
  keep := fun x o h n => b.keep x o (a.keep x o h n) fun z => by
    rcases a.own x z with z | z
    · exact n z
    · rw [h] at z; cases z
  new := fun x o h => by
    rcases b.new x o h with z | z | z | ⟨xs, z⟩
    · exact a.new x o z
    · exact .inr (.inl (a.dom x z))
    · rcases a.own x z with z | z
      · exact .inr (.inr (.inl z))
      · exact .inr (.inl z)
    · cases q : w.H x with
      | none => exact .inr (.inl rfl)
      | some u =>
        by_cases n : w.O x
        · exact .inr (.inr (.inl n))
        · have k := a.keep x u q n
          rw [z] at k
          cases k
          exact .inr (.inr (.inr ⟨xs, rfl⟩))
  own := fun x h => by
    rcases b.own x h with z | z
    · exact a.own x z
    · exact .inr (a.dom x z)
  dom := fun x h => a.dom x (b.dom x h)
/-- a body's constants: the heap at its start, which slots are lent, their values -/
structure Bd where
  H0 : Hp
  p : List Bool
  s0 : L2.St
def SlotOK (K : PySem.W.Frag) (w : Wd) (x : Option (Option V)) : Slot → Prop
  | .dead => True
  | .val _ d => ∃ v, x = some (some v) ∧ Dq K w.F v d
  | .own _ c => ∃ a o, x = some (some (.ref a)) ∧ w.H a = some o ∧ w.F a = none ∧ OwD K w.F o c
  | .lck c => ∃ a od u, x = some (some (.ref a)) ∧ w.F a = some (.frz od u) ∧ OwD K w.F u c
structure Stt (K : PySem.W.Frag) (B : Bd) (w : Wd) (σ : L2.St) (e : En) : Prop where
  sub : Same w.F w.H
  len : σ.length = e.length
  sl : ∀ (i : Nat) s, e[i]? = some s → SlotOK K w σ[i]? s
  inj : ∀ (i j : Nat) b l b' l', e[i]? = some (.own b l) → e[j]? = some (.own b' l') → σ[i]? = σ[j]? → i = j
  ow : ∀ a, w.O a ↔ ∃ (i : Nat) (b : Bool) (l : D), e[i]? = some (.own b l) ∧ σ[i]? = some (some (.ref a))
  pin : e.map Slot.pin = B.p
  pins : ∀ (i : Nat), B.p[i]? = some true → σ[i]? = B.s0[i]?
  dom : ∀ a, w.H a = none → B.H0 a = none
  fr : ∀ (i : Nat) l a, e[i]? = some (.own false l) → σ[i]? = some (some (.ref a)) → B.H0 a = none
section
variable {K : PySem.W.Frag} {B : Bd} {w w' : Wd} {σ σ' : L2.St} {e e' : En}
theorem Stt.own_at (h : Stt K B w σ e) {i : Nat} {b : Bool} {l : D} (hi : e[i]? = some (.own b l)) : ∃ a o, σ[i]? = some (some (.ref a)) ∧ w.H a = some o ∧ w.F a = none ∧ OwD K w.F o l ∧ w.O a := by
  obtain ⟨a, vs, h1, h2, h3, h4⟩ := h.sl i _ hi
  exact ⟨a, vs, h1, h2, h3, h4, (h.ow a).mpr ⟨i, b, l, hi, h1⟩⟩
/-- a later world in which nothing of the own lists has changed -/
theorem Stt.later (h : Stt K B w σ e) (le : Le w w') (hO : ∀ a, w'.O a ↔ w.O a) (hk : ∀ a o, w.H a = some o → w'.H a = some o) (hn : ∀ a, w.O a → w'.F a = none) (hs : Same w'.F w'.H) : Stt K B w' σ e where
  sub := hs
  len := h.len
  sl := fun i s hi => by
    have q := h.sl i s hi
    cases s with
    | dead => trivial
    | val b d => obtain ⟨v, h1, h2⟩ := q; exact ⟨v, h1, dq_same le.fz h2⟩
    | own b l =>
      obtain ⟨a, vs, h1, h2, h3, h4⟩ := q
      exact ⟨a, vs, h1, hk a _ h2, hn a ((h.ow a).mpr ⟨i, b, l, hi, h1⟩), ow_same le.fz h4⟩
    | lck c => obtain ⟨a, od, u, h1, h2, h3⟩ := q; exact ⟨a, od, u, h1, le.fz _ _ h2, ow_same le.fz h3⟩
  inj := h.inj
  ow := fun a => (hO a).trans (h.ow a)
  pin := h.pin
  pins := h.pins
  dom := fun a q => h.dom a (le.dom a q)
  fr := h.fr
/-- a new frozen object -/
def Wd.add (w : Wd) (p : Addr) (o : HO) : Wd := ⟨upd w.F p o, upd w.H p o, w.O⟩
theorem Stt.add (h : Stt K B w σ e) {p : Addr} {o : HO} (np : w.H p = none) : Le w (w.add p o) ∧ Stt K B (w.add p o) σ e ∧ (w.add p o).F p = some o := by
  have nF : w.F p = none := by
    cases q : w.F p with
    | none => rfl
    | some u => rw [h.sub p u q] at np; cases np
  have nO : ¬ w.O p := fun z => by
    obtain ⟨i, b, l, h1, h2⟩ := (h.ow p).mp z
    obtain ⟨a, vs, k1, k2, _⟩ := h.own_at h1
    rw [h2] at k1
    cases k1
    rw [np] at k2
    cases k2
  have le : Le w (w.add p o) := by
    refine ⟨same_upd nF, fun a u q _ => same_upd np a u q, fun a u q => ?_, fun a q => .inl q, fun a q => ?_⟩
    · by_cases z : a = p
      · subst z; exact .inr (.inl np)
      · have q' : upd w.F p o a = some u := q
        rw [upd_ne z] at q'; exact .inl q'
    · by_cases z : a = p
      · subst z; exact np
      · have q' : upd w.H p o a = none := q
        rw [upd_ne z] at q'; exact q'
  refine ⟨le, h.later le (fun a => Iff.rfl) (fun a u q => same_upd np a u q) (fun a q => ?_) (fun a u q => ?_), upd_same⟩
  · show upd w.F p o a = none
    obtain ⟨i, b, l, h1, h2⟩ := (h.ow a).mp q
    obtain ⟨a', vs, k1, k2, k3, _⟩ := h.own_at h1
    rw [h2] at k1
    cases k1
    rw [upd_ne (fun z => nO (by rw [← z]; exact q))]
    exact k3
  · by_cases z : a = p
    · subst z
      have q' : upd w.F a o a = some u := q
      rw [upd_same] at q'
      show upd w.H a o a = some u
      rw [upd_same]
      exact q'
    · have q' : upd w.F p o a = some u := q
      rw [upd_ne z] at q'
      show upd w.H p o a = some u
      rw [upd_ne z]
      exact h.sub a u q'
end

section
variable {K : PySem.W.Frag} {B : Bd} {w : Wd} {σ : L2.St} {e : En}
/-- a tuple that stands is frozen -/
theorem Stt.addT (h : Stt K B w σ e) {q : Addr} {xs : List V} (hq : w.H q = some (.tup xs)) : Le w ⟨upd w.F q (.tup xs), w.H, w.O⟩ ∧ Stt K B ⟨upd w.F q (.tup xs), w.H, w.O⟩ σ e := by
  have sf : Same w.F (upd w.F q (.tup xs)) := fun a o z => by
    by_cases c : a = q
    · subst c
      have := h.sub a o z
      rw [hq] at this
      cases this
      exact upd_same
    · rw [upd_ne c]; exact z
  have le : Le w ⟨upd w.F q (.tup xs), w.H, w.O⟩ := ⟨sf, fun a o z _ => z, fun a o z => by
    by_cases c : a = q
    · subst c; exact .inr (.inr (.inr ⟨xs, hq⟩))
    · have z' : upd w.F q (.tup xs) a = some o := z
      rw [upd_ne c] at z'; exact .inl z', fun a z => .inl z, fun a z => z⟩
  refine ⟨le, h.later le (fun a => Iff.rfl) (fun a o z => z) (fun a z => ?_) fun a o z => ?_⟩
  · obtain ⟨i, b, l, h1, h2⟩ := (h.ow a).mp z
    obtain ⟨a', o, k1, k2, k3, k4, _⟩ := h.own_at h1
    rw [h2] at k1
    cases k1
    show upd w.F q (.tup xs) a = none
    rw [upd_ne fun c => by subst c; rw [hq] at k2; cases k2; exact ow_ntup k4]
    exact k3
  · by_cases c : a = q
    · subst c
      have z' : upd w.F a (.tup xs) a = some o := z
      rw [upd_same] at z'
      cases z'
      exact hq
    · have z' : upd w.F q (.tup xs) a = some o := z
      rw [upd_ne c] at z'; exact h.sub a o z'
end
/-! ### results -/
/-- a value, or what a slot's name stands for -/
inductive R where
  | val (d : D)
  | slot (i : Nat)
/-- a value, or a new list that nobody else holds -/
inductive Res where
  | val (d : D)
  | fresh (c : D)
def look (e : En) : R → Option D
  | .val d => some d
  | .slot i => match e[i]? with
    | some (.val _ d) => some d
    | some (.own _ c) => some c
    | _ => none
def RepR (K : PySem.W.Frag) (w : Wd) (σ : L2.St) (v : V) : R → Prop
  | .val d => Dq K w.F v d
  | .slot i => σ[i]? = some (some v)
/-- a value that may be read now: frozen, or an own list with frozen items -/
def DpT (K : PySem.W.Frag) (w : Wd) (v : V) (d : D) : Prop :=
  Dq K w.F v d ∨ ∃ a o, v = .ref a ∧ w.H a = some o ∧ OwD K w.F o d
def ResOK (K : PySem.W.Frag) (H0 : Hp) (w : Wd) (v : V) : Res → Prop
  | .val d => Dq K w.F v d
  | .fresh c => ∃ a o, v = .ref a ∧ w.H a = some o ∧ w.F a = none ∧ ¬ w.O a ∧ H0 a = none ∧ OwD K w.F o c
section
variable {K : PySem.W.Frag} {B : Bd} {w w' : Wd} {σ σ' : L2.St} {e e' : En} {v : V} {d : D}
theorem look_ok (h : Stt K B w σ e) {r : R} (q : look e r = some d) (p : RepR K w σ v r) : DpT K w v d := by
  cases r with
  | val d' =>
    have e1 : d' = d := Option.some.inj q
    rw [← e1]
    exact .inl p
  | slot i =>
    have p' : σ[i]? = some (some v) := p
    have q' : (match e[i]? with | some (.val _ d) => some d | some (.own _ l) => some l | _ => none) = some d := q
    cases hs : e[i]? with
    | none => rw [hs] at q'; cases q'
    | some s =>
      rw [hs] at q'
      have k := h.sl i s hs
      cases s with
      | dead => cases q'
      | val b d' =>
        cases q'
        obtain ⟨v', h1, h2⟩ := k
        rw [p'] at h1
        cases h1
        exact .inl h2
      | own b l =>
        cases q'
        obtain ⟨a, vs, h1, h2, h3, h4⟩ := k
        rw [p'] at h1
        cases h1
        exact .inr ⟨a, vs, rfl, h2, h4⟩
      | lck c => cases q'
theorem RepR.later (le : Le w w') {r : R} (p : RepR K w σ v r) : RepR K w' σ v r := by
  cases r with
  | val d => exact dq_same le.fz p
  | slot i => exact p
theorem DpT.dp (nd : isDct d = false) (h : Same w.F w.H) (q : DpT K w v d) : Dq K w.H v d := by
  rcases q with q | ⟨a, o, rfl, q1, q2⟩
  · exact dq_same h q
  · exact ow_dq nd (ow_same h q2) q1
theorem DpT.list (h : Same w.F w.H) {l : List D} (q : DpT K w v (.list l)) : ∃ a vs, v = .ref a ∧ LstAt K w.H a vs ∧ Da K w.F vs l := by
  rcases q with q | ⟨a, o, rfl, q1, q2⟩
  · cases q with
    | lst q1 q2 => exact ⟨_, _, rfl, la_same h q1, q2⟩
  · cases q2 with
    | lst q2 => exact ⟨a, _, rfl, .inl (.inl q1), q2⟩
theorem DpT.tuple (h : Same w.F w.H) {l : List D} (q : DpT K w v (.tuple l)) : ∃ a vs, v = .ref a ∧ SqT K w.H a vs ∧ Da K w.F vs l := by
  rcases q with q | ⟨a, o, rfl, q1, q2⟩
  · cases q with
    | tup q1 q2 => exact ⟨_, _, rfl, .inl (.inl (h _ _ q1)), q2⟩
  · cases q2
theorem DpT.int {i : Int} (q : DpT K w v (.int i)) : v = .int i := by
  rcases q with q | ⟨a, o, rfl, q1, q2⟩
  · cases q; rfl
  · cases q2
theorem DpT.bool {i : Bool} (q : DpT K w v (.bool i)) : v = .bl i := by
  rcases q with q | ⟨a, o, rfl, q1, q2⟩
  · cases q; rfl
  · cases q2
theorem DpT.str {i : Str} (q : DpT K w v (.str i)) : v = .str i := by
  rcases q with q | ⟨a, o, rfl, q1, q2⟩
  · cases q; rfl
  · cases q2
theorem DpT.none (q : DpT K w v .none) : v = .non := by
  rcases q with q | ⟨a, o, rfl, q1, q2⟩
  · cases q; rfl
  · cases q2
end

/-! ### readings by pure functions -/
abbrev FE := En → Option (R × En)
abbrev FV := En → Option (Res × En)
abbrev FT := En → Option (Bool × En)
abbrev FA := En → Option (List R × En)
/-- statements -/
inductive Fl where
  | next (e : En)
  | brk (e : En)
  | cont (e : En)
  | ret (r : Res) (e : En)
abbrev FS := En → Option Fl
section
variable (K : PySem.W.Frag)
def tE (f : FE) : TE := fun σ H Q => ∃ B w e r e', w.H = H ∧ Stt K B w σ e ∧ f e = some (r, e') ∧ ∀ v w', Stt K B w' σ e' → Le w w' → RepR K w' σ v r → Q v w'.H
def tV (f : FV) : TE := fun σ H Q => ∃ B w e r e', w.H = H ∧ Stt K B w σ e ∧ f e = some (r, e') ∧ ∀ v w', Stt K B w' σ e' → Le w w' → ResOK K w.H w' v r → Q v w'.H
def tT (f : FT) : TT := fun σ H Q => ∃ B w e b e', w.H = H ∧ Stt K B w σ e ∧ f e = some (b, e') ∧ ∀ w', Stt K B w' σ e' → Le w w' → Q b w'.H
def RepRs (w : Wd) (σ : L2.St) : List V → List R → Prop
  | [], [] => True
  | v :: vs, r :: rs => RepR K w σ v r ∧ RepRs w σ vs rs
  | _, _ => False
def tA (f : FA) : TA := fun σ H Q => ∃ B w e rs e', w.H = H ∧ Stt K B w σ e ∧ f e = some (rs, e') ∧ ∀ vs w', Stt K B w' σ e' → Le w w' → RepRs K w' σ vs rs → Q vs w'.H
def Post (B : Bd) (w : Wd) (D : Ends) : Fl → Prop
  | .next e => ∀ σ' w', Stt K B w' σ' e → Le w w' → D.nx σ' w'.H
  | .brk e => ∀ σ' w', Stt K B w' σ' e → Le w w' → D.bk σ' w'.H
  | .cont e => ∀ σ' w', Stt K B w' σ' e → Le w w' → D.ct σ' w'.H
  | .ret r e => ∀ v σ' w', Stt K B w' σ' e → Le w w' → ResOK K B.H0 w' v r → D.rt v w'.H
def tS (g : FS) : TS := fun D σ H => ∃ B w e fl, w.H = H ∧ Stt K B w σ e ∧ g e = some fl ∧ Post K B w D fl
end
theorem RepRs.later {K : PySem.W.Frag} {w w' : Wd} {σ : L2.St} (le : Le w w') : ∀ {vs : List V} {rs : List R}, RepRs K w σ vs rs → RepRs K w' σ vs rs
  | [], [], _ => trivial
  | v :: vs, r :: rs, h => ⟨h.1.later le, RepRs.later le h.2⟩
  | [], _ :: _, h => h.elim
  | _ :: _, [], h => h.elim
/-- a stronger reading -/
theorem pe_imp {X : Cx} {e : Expr} {t u : TE} (h : PE X e t) (q : ∀ σ H Q, u σ H Q → t σ H Q) : PE X e u := ⟨fun pins s σ H Q I hw => h.run pins s σ H Q I (q _ _ _ hw)⟩
theorem pt_imp {X : Cx} {e : Expr} {t u : TT} (h : PT X e t) (q : ∀ σ H Q, u σ H Q → t σ H Q) : PT X e u := ⟨fun pins s σ H Q I hw => h.run pins s σ H Q I (q _ _ _ hw)⟩
theorem pa_imp {X : Cx} {e : List Expr} {t u : TA} (h : PA X e t) (q : ∀ σ H Q, u σ H Q → t σ H Q) : PA X e u := ⟨fun pos pins s σ H Q I hw => h.run pos pins s σ H Q I (q _ _ _ hw)⟩
theorem ps_imp {X : Cx} {e : Stmt} {t u : TS} (h : PS X e t) (q : ∀ D σ H, u D σ H → t D σ H) : PS X e u := ⟨fun pins s σ H D I hw => h.run pins s σ H D I (q _ _ _ hw)⟩
theorem pss_imp {X : Cx} {e : List Stmt} {t u : TS} (h : PSs X e t) (q : ∀ D σ H, u D σ H → t D σ H) : PSs X e u := ⟨fun pins s σ H D I hw => h.run pins s σ H D I (q _ _ _ hw)⟩
theorem pi_imp {X : Cx} {tg e : Expr} {t u : TI} (h : PI X tg e t) (q : ∀ σ H R, u σ H R → t σ H R) : PI X tg e u := ⟨fun pins s σ H R I hw => h.run pins s σ H R I (q _ _ _ hw)⟩
theorem pg_imp {X : Cx} {tg : Expr} {t u : TG} (h : PG X tg t) (q : ∀ v σ H Q, u v σ H Q → t v σ H Q) : PG X tg u := ⟨fun pins s σ H v u' Q I r hw => h.run pins s σ H v u' Q I r (q _ _ _ _ hw)⟩
end DL

set_option Elab.async false
set_option linter.all false
set_option maxRecDepth 100000
set_option maxHeartbeats 1000000
/-! DL2: expressions. -/
namespace DL
open PySem PySem.Spec PyProof.Rows L2

/-! ### more worlds -/
section
variable {K : PySem.W.Frag} {B : Bd} {w w' : Wd} {σ σ' : L2.St} {e e' : En} {v : V} {d : D}
theorem Stt.nO (h : Stt K B w σ e) {p : Addr} (np : w.H p = none) : ¬ w.O p := fun z => by
  obtain ⟨i, b, l, h1, h2⟩ := (h.ow p).mp z
  obtain ⟨a, vs, k1, k2, _⟩ := h.own_at h1
  rw [h2] at k1
  cases k1
  rw [np] at k2
  cases k2
theorem Stt.nF (h : Stt K B w σ e) {p : Addr} (np : w.H p = none) : w.F p = none := by
  cases q : w.F p with
  | none => rfl
  | some u => rw [h.sub p u q] at np; cases np
/-- a new list that nobody holds yet -/
def Wd.addL (w : Wd) (p : Addr) (o : HO) : Wd := ⟨w.F, upd w.H p o, w.O⟩
theorem Stt.addL (h : Stt K B w σ e) {p : Addr} {o : HO} (np : w.H p = none) : Le w (w.addL p o) ∧ Stt K B (w.addL p o) σ e := by
  have le : Le w (w.addL p o) := by
    refine ⟨Same.refl _, fun a u q _ => same_upd np a u q, fun a u q => .inl q, fun a q => .inl q, fun a q => ?_⟩
    by_cases z : a = p
    · subst z; exact np
    · have q' : upd w.H p o a = none := q
      rw [upd_ne z] at q'; exact q'
  exact ⟨le, h.later le (fun a => Iff.rfl) (fun a u q => same_upd np a u q) (fun a q => by
    obtain ⟨i, b, l, h1, h2⟩ := (h.ow a).mp q
    obtain ⟨a', vs, k1, k2, k3, _⟩ := h.own_at h1
    rw [h2] at k1
    cases k1
    exact k3) (fun a u q => same_upd np a u (h.sub a u q))⟩
/-- the list that nobody holds is frozen -/
theorem Stt.frzNew (h : Stt K B w' σ e) (le : Le w w') {a : Addr} {ob : HO} (h1 : w'.H a = some ob) (h2 : w'.F a = none) (h3 : ¬ w'.O a) (h4 : w.H a = none) :
    Le w ⟨upd w'.F a ob, w'.H, w'.O⟩ ∧ Stt K B ⟨upd w'.F a ob, w'.H, w'.O⟩ σ e := by
  have sf : Same w'.F (upd w'.F a ob) := same_upd h2
  refine ⟨⟨le.fz.trans sf, le.keep, fun x o q => ?_, le.own, le.dom⟩, ?_⟩
  · by_cases z : x = a
    · subst z; exact .inr (.inl h4)
    · have q' : upd w'.F a ob x = some o := q
      rw [upd_ne z] at q'; exact le.new x o q'
  · refine ⟨fun x o q => ?_, h.len, fun i s hi => ?_, h.inj, h.ow, h.pin, h.pins, h.dom, h.fr⟩
    · by_cases z : x = a
      · subst z
        have q' : upd w'.F x ob x = some o := q
        rw [upd_same] at q'; cases q'; exact h1
      · have q' : upd w'.F a ob x = some o := q
        rw [upd_ne z] at q'; exact h.sub x o q'
    · have q := h.sl i s hi
      cases s with
      | dead => trivial
      | val b d => obtain ⟨v, k1, k2⟩ := q; exact ⟨v, k1, dq_same sf k2⟩
      | lck c => obtain ⟨a', od, u, k1, k2, k3⟩ := q; exact ⟨a', od, u, k1, sf _ _ k2, ow_same sf k3⟩
      | own b l =>
        obtain ⟨c, us, k1, k2, k3, k4⟩ := q
        refine ⟨c, us, k1, k2, ?_, ow_same sf k4⟩
        have oc : w'.O c := (h.ow c).mpr ⟨i, b, l, hi, k1⟩
        show upd w'.F a ob c = none
        rw [upd_ne (fun z => h3 (by rw [← z]; exact oc))]
        exact k3
theorem get_set {α : Type} {l : List α} {i j : Nat} {x : α} : (l.set i x)[j]? = if i = j ∧ i < l.length then some x else l[j]? := by
  by_cases h : i = j
  · subst h
    by_cases q : i < l.length
    · rw [if_pos ⟨rfl, q⟩]; exact List.getElem?_set_self q
    · rw [if_neg fun z => q z.2, List.getElem?_eq_none (by simpa using q), List.getElem?_eq_none (by simpa using q)]
  · rw [if_neg fun z => h z.1]; exact List.getElem?_set_ne h
theorem lt_of_get {α : Type} {l : List α} {i : Nat} {x : α} (h : l[i]? = some x) : i < l.length := by
  rcases Nat.lt_or_ge i l.length with q | q
  · exact q
  · rw [List.getElem?_eq_none q] at h; cases h
/-- a slot's own list is frozen -/
theorem Stt.frzSlot (h : Stt K B w σ e) {i : Nat} {b : Bool} {l : D} (nd : isDct l = false) (hi : e[i]? = some (.own b l)) : ∃ a vs w', σ[i]? = some (some (.ref a)) ∧ w'.H = w.H ∧ w'.F = upd w.F a vs ∧ Le w w' ∧
    Stt K B w' σ (e.set i (.val b l)) ∧ Dq K w'.F (.ref a) l := by
  obtain ⟨a, vs, h1, h2, h3, h4, h5⟩ := h.own_at hi
  have sf : Same w.F (upd w.F a vs) := same_upd h3
  have hl := lt_of_get hi
  have dd : Dq K (upd w.F a vs) (.ref a) l := ow_dq nd (ow_same sf h4) upd_same
  refine ⟨a, vs, ⟨upd w.F a vs, w.H, fun x => w.O x ∧ x ≠ a⟩, h1, rfl, rfl, ⟨sf, fun x o q _ => q, fun x o q => ?_, fun x q => .inl q.1, fun x q => q⟩, ?_, dd⟩
  · by_cases z : x = a
    · subst z; exact .inr (.inr (.inl h5))
    · have q' : upd w.F a vs x = some o := q
      rw [upd_ne z] at q'; exact .inl q'
  · refine ⟨fun x o q => ?_, by rw [List.length_set]; exact h.len, fun j s hj => ?_, fun j k b1 l1 b2 l2 hj hk => ?_, fun x => ⟨fun q => ?_, fun q => ?_⟩, ?_, h.pins, h.dom, fun j l1 x hj => ?_⟩
    · by_cases z : x = a
      · subst z
        have q' : upd w.F x vs x = some o := q
        rw [upd_same] at q'; cases q'; exact h2
      · have q' : upd w.F a vs x = some o := q
        rw [upd_ne z] at q'; exact h.sub x o q'
    · rw [get_set] at hj
      by_cases c : i = j
      · subst c
        rw [if_pos ⟨rfl, hl⟩] at hj
        cases hj
        exact ⟨_, h1, dd⟩
      · rw [if_neg fun z => c z.1] at hj
        have q := h.sl j s hj
        cases s with
        | dead => trivial
        | val b d => obtain ⟨v, k1, k2⟩ := q; exact ⟨v, k1, dq_same sf k2⟩
        | lck c => obtain ⟨a', od, u, k1, k2, k3⟩ := q; exact ⟨a', od, u, k1, sf _ _ k2, ow_same sf k3⟩
        | own b2 l2 =>
          obtain ⟨c2, us, k1, k2, k3, k4⟩ := q
          refine ⟨c2, us, k1, k2, ?_, ow_same sf k4⟩
          show upd w.F a vs c2 = none
          rw [upd_ne (fun z => c (h.inj i j _ _ _ _ hi hj (by rw [h1, k1, z])))]
          exact k3
    · rw [get_set] at hj hk
      by_cases c : i = j
      · rw [if_pos ⟨c, hl⟩] at hj; cases hj
      · by_cases c2 : i = k
        · rw [if_pos ⟨c2, hl⟩] at hk; cases hk
        · rw [if_neg fun z => c z.1] at hj
          rw [if_neg fun z => c2 z.1] at hk
          exact h.inj j k _ _ _ _ hj hk
    · obtain ⟨q1, q2⟩ := q
      obtain ⟨j, b1, l1, k1, k2⟩ := (h.ow x).mp q1
      have c : ¬ i = j := fun z => by
        subst z
        rw [h1] at k2
        cases k2
        exact q2 rfl
      exact ⟨j, b1, l1, by rw [get_set, if_neg fun z => c z.1]; exact k1, k2⟩
    · obtain ⟨j, b1, l1, k1, k2⟩ := q
      rw [get_set] at k1
      by_cases c : i = j
      · rw [if_pos ⟨c, hl⟩] at k1; cases k1
      · rw [if_neg fun z => c z.1] at k1
        exact ⟨(h.ow x).mpr ⟨j, b1, l1, k1, k2⟩, fun z => c (h.inj i j _ _ _ _ hi k1 (by rw [h1, k2, z]))⟩
    · rw [← h.pin, List.map_set]
      refine List.ext_getElem? fun k => ?_
      rw [get_set]
      split
      · rename_i q
        rw [← q.1, List.getElem?_map, hi]
        rfl
      · rfl
    · rw [get_set] at hj
      by_cases c : i = j
      · rw [if_pos ⟨c, hl⟩] at hj; cases hj
      · rw [if_neg fun z => c z.1] at hj
        exact h.fr j l1 x hj
/-- freezing what stands in a result -/
def frz (e : En) : R → Option (D × En)
  | .val d => some (d, e)
  | .slot i => match e[i]? with
    | some (.val _ d) => some (d, e)
    | some (.own b l) => if isDct l = true then none else some (l, e.set i (.val b l))
    | _ => none
theorem frz_ok (h : Stt K B w σ e) {r : R} {d : D} {e' : En} (q : frz e r = some (d, e')) (p : RepR K w σ v r) : ∃ w', w'.H = w.H ∧ Stt K B w' σ e' ∧ Le w w' ∧ Dq K w'.F v d := by
  cases r with
  | val d' =>
    have e1 : (d', e) = (d, e') := Option.some.inj q
    cases e1
    exact ⟨w, rfl, h, Le.refl w, p⟩
  | slot i =>
    have p' : σ[i]? = some (some v) := p
    have q' : (match e[i]? with | some (.val _ d) => some (d, e) | some (.own b l) => if isDct l = true then none else some (l, e.set i (.val b l)) | _ => none) = some (d, e') := q
    cases hs : e[i]? with
    | none => rw [hs] at q'; cases q'
    | some s =>
      rw [hs] at q'
      cases s with
      | dead => cases q'
      | lck c => cases q'
      | val b d' =>
        cases q'
        obtain ⟨v', h1, h2⟩ := h.sl i _ hs
        rw [p'] at h1
        cases h1
        exact ⟨w, rfl, h, Le.refl w, h2⟩
      | own b l =>
        have q2 : (if isDct l = true then none else some (l, e.set i (.val b l))) = some (d, e') := q'
        split at q2
        case isTrue => cases q2
        rename_i nd
        have nd : isDct l = false := by simpa using nd
        cases q2
        obtain ⟨a, vs, w', h1, h2, _, h3, h4, h5⟩ := h.frzSlot nd hs
        rw [p'] at h1
        cases h1
        exact ⟨w', h2, h4, h3, h5⟩
def frzs (e : En) : List R → Option (List D × En)
  | [] => some ([], e)
  | r :: rs => (frz e r).bind fun p => (frzs p.2 rs).map fun q => (p.1 :: q.1, q.2)
theorem frzs_ok : ∀ {rs : List R} {vs : List V} {ds : List D} {w : Wd} {e e' : En}, Stt K B w σ e → frzs e rs = some (ds, e') → RepRs K w σ vs rs → ∃ w', w'.H = w.H ∧ Stt K B w' σ e' ∧ Le w w' ∧ Da K w'.F vs ds
  | [], [], ds, w, e, e', h, q, _ => by
    cases q
    exact ⟨w, rfl, h, Le.refl w, .nil⟩
  | r :: rs, v :: vs, ds, w, e, e', h, q, p => by
    unfold frzs at q
    obtain ⟨⟨d, e1⟩, q1, q2⟩ := Option.bind_eq_some_iff.mp q
    obtain ⟨⟨ds2, e2⟩, q3, q4⟩ := Option.map_eq_some_iff.mp q2
    cases q4
    obtain ⟨w1, k1, k2, k3, k4⟩ := frz_ok h q1 p.1
    obtain ⟨w2, j1, j2, j3, j4⟩ := frzs_ok k2 q3 (p.2.later k3)
    exact ⟨w2, j1.trans k1, j2, k3.trans j3, .cons (dq_same j3.fz k4) j4⟩
  | [], _ :: _, _, _, _, _, _, _, p => p.elim
  | _ :: _, [], _, _, _, _, _, _, p => p.elim
theorem ResOK.mono {H0 H1 : Hp} {r : Res} (h : ResOK K H1 w v r) (k : ∀ a, H1 a = none → H0 a = none) : ResOK K H0 w v r := by
  cases r with
  | val d => exact h
  | fresh l => obtain ⟨a, vs, h1, h2, h3, h4, h5, h6⟩ := h; exact ⟨a, vs, h1, h2, h3, h4, k a h5, h6⟩
end

/-! ### names, constants, freezing -/
section
variable {X : Cx} {x : Expr} {pos : Pos}
def fVar (i : Nat) : FE := fun e => match e[i]? with
  | some (.val _ _) => some (.slot i, e)
  | some (.own _ _) => some (.slot i, e)
  | some (.lck _) => some (.slot i, e)
  | _ => none
theorem d_var {i : Nat} {y : Str} (h : PE X (.Name y pos) (tVar i)) : PE X (.Name y pos) (tE X.K (fVar i)) := by
  refine pe_imp h fun σ H Q ⟨B, w, e, r, e', hH, st, hf, q⟩ => ?_
  have key : ∀ s, e[i]? = some s → s ≠ .dead → fVar i e = some (.slot i, e) ∧ ∃ v, σ[i]? = some (some v) := fun s hs nd => by
    have k := st.sl i s hs
    unfold fVar
    rw [hs]
    cases s with
    | dead => exact absurd rfl nd
    | val b d => obtain ⟨v, h1, _⟩ := k; exact ⟨rfl, v, h1⟩
    | own b l => obtain ⟨a, vs, h1, _⟩ := k; exact ⟨rfl, _, h1⟩
    | lck c => obtain ⟨a, od, u, h1, _⟩ := k; exact ⟨rfl, _, h1⟩
  cases hs : e[i]? with
  | none => unfold fVar at hf; rw [hs] at hf; cases hf
  | some s =>
    by_cases nd : s = .dead
    · subst nd; unfold fVar at hf; rw [hs] at hf; cases hf
    · obtain ⟨k1, v, k2⟩ := key s hs nd
      rw [k1] at hf
      cases hf
      subst hH
      exact ⟨v, k2, q v w st (Le.refl w) k2⟩
def fCst (d : D) : FE := fun e => some (.val d, e)
theorem d_cst {v : V} {d : D} (h : PE X x (tC v)) (r : ∀ K H, Dq K H v d) : PE X x (tE X.K (fCst d)) := by
  refine pe_imp h fun σ H Q ⟨B, w, e, r', e', hH, st, hf, q⟩ => ?_
  cases hf
  subst hH
  exact q v w st (Le.refl w) (r _ _)
/-- a new list is frozen where it is used within an expression -/
def toE (f : FV) : FE := fun e => (f e).bind fun p => match p.1 with | .val d => some (.val d, p.2) | .fresh l => if isDct l = true then none else some (.val l, p.2)
theorem d_toE {f : FV} (h : PE X x (tV X.K f)) : PE X x (tE X.K (toE f)) := by
  refine pe_imp h fun σ H Q ⟨B, w, e, r, e', hH, st, hf, q⟩ => ?_
  unfold toE at hf
  obtain ⟨⟨r1, e1⟩, k1, k2⟩ := Option.bind_eq_some_iff.mp hf
  refine ⟨B, w, e, r1, e1, hH, st, k1, fun v w' st' le ok => ?_⟩
  cases r1 with
  | val d => cases k2; exact q v w' st' le ok
  | fresh l =>
    have k2 : (if isDct l = true then none else some (R.val l, e1)) = some (r, e') := k2
    split at k2
    case isTrue => cases k2
    rename_i nd
    have nd : isDct l = false := by simpa using nd
    cases k2
    obtain ⟨a, vs, rfl, h2, h3, h4, h5, h6⟩ := ok
    obtain ⟨j1, j2⟩ := st'.frzNew le h2 h3 h4 h5
    exact q _ ⟨upd w'.F a vs, w'.H, w'.O⟩ j2 j1 (ow_dq nd (ow_same (same_upd h3) h6) upd_same)
/-- a value is taken as a result: an own list is frozen -/
def toV (f : FE) : FV := fun e => (f e).bind fun p => (frz p.2 p.1).map fun q => (.val q.1, q.2)
theorem d_toV {f : FE} (h : PE X x (tE X.K f)) : PE X x (tV X.K (toV f)) := by
  refine pe_imp h fun σ H Q ⟨B, w, e, r, e', hH, st, hf, q⟩ => ?_
  unfold toV at hf
  obtain ⟨⟨r1, e1⟩, k1, k2⟩ := Option.bind_eq_some_iff.mp hf
  obtain ⟨⟨d, e2⟩, k3, k4⟩ := Option.map_eq_some_iff.mp k2
  cases k4
  refine ⟨B, w, e, r1, e1, hH, st, k1, fun v w' st' le ok => ?_⟩
  obtain ⟨w2, j1, j2, j3, j4⟩ := frz_ok st' k3 ok
  have z := q v w2 j2 (le.trans j3) j4
  rw [j1] at z
  exact z
end

/-! ### operators by values -/
/-- a two-place operation does what op says -/
structure R2Is (K : PySem.W.Frag) (r : R2) (op : D → D → Option Res) : Prop where
  run : ∀ {B : Bd} {w : Wd} {σ : L2.St} {e : En} {x y : V} {a b : D} {res : Res} {Q : VK}, Stt K B w σ e → DpT K w x a → DpT K w y b → op a b = some res →
    (∀ v w', Stt K B w' σ e → Le w w' → ResOK K w.H w' v res → Q v w'.H) → r x y w.H Q
def fBin (op : D → D → Option Res) (f g : FE) : FV := fun e =>
  (f e).bind fun p => (g p.2).bind fun q => (look q.2 p.1).bind fun a => (look q.2 q.1).bind fun b => (op a b).map fun r => (r, q.2)
section
variable {X : Cx} {a b c : Expr} {fa fb fc : FE} {pos : Pos}
theorem bin_run {r : R2} {op : D → D → Option Res} (h : R2Is X.K r op) {σ : L2.St} {H : Hp} {Q : VK} (q : tV X.K (fBin op fa fb) σ H Q) : tOp r (tE X.K fa) (tE X.K fb) σ H Q := by
  obtain ⟨B, w, e, res, e', hH, st, hf, q⟩ := q
  unfold fBin at hf
  obtain ⟨⟨r1, e1⟩, k1, k2⟩ := Option.bind_eq_some_iff.mp hf
  obtain ⟨⟨r2, e2⟩, k3, k4⟩ := Option.bind_eq_some_iff.mp k2
  obtain ⟨d1, k5, k6⟩ := Option.bind_eq_some_iff.mp k4
  obtain ⟨d2, k7, k8⟩ := Option.bind_eq_some_iff.mp k6
  obtain ⟨rr, k9, k10⟩ := Option.map_eq_some_iff.mp k8
  cases k10
  refine ⟨B, w, e, r1, e1, hH, st, k1, fun v1 w1 s1 l1 p1 => ?_⟩
  refine ⟨B, w1, e1, r2, e2, rfl, s1, k3, fun v2 w2 s2 l2 p2 => ?_⟩
  exact h.run s2 (look_ok s2 k5 (p1.later l2)) (look_ok s2 k7 p2) k9 fun v w3 s3 l3 ok => q v w3 s3 ((l1.trans l2).trans l3) (ok.mono fun a z => l1.dom a (l2.dom a z))
theorem d_bin {op : Operator} {r : R2} {f : D → D → Option Res} (ho : OpR X (binaryOp op) r) (h : R2Is X.K r f) (ha : PE X a (tE X.K fa)) (hb : PE X b (tE X.K fb)) : PE X (.BinOp a op b pos) (tV X.K (fBin f fa fb)) :=
  pe_imp (pe_op ho ha hb) fun _ _ _ q => bin_run h q
theorem d_cmp {op : CmpOp} {r : R2} {f : D → D → Option Res} (ho : OpR X (compareOp op) r) (h : R2Is X.K r f) (ha : PE X a (tE X.K fa)) (hb : PE X b (tE X.K fb)) (hm : behindInMarks op b = false) : PE X (.Compare a [op] [b] pos) (tV X.K (fBin f fa fb)) :=
  pe_imp (pe_cmpR ho ha hb hm) fun _ _ _ q => bin_run h q
theorem r2_or {K : PySem.W.Frag} {r r' : R2} {f g : D → D → Option Res} (h : R2Is K r f) (h' : R2Is K r' g) : R2Is K (fun x y H Q => r x y H Q ∨ r' x y H Q) (fun a b => (f a b).or (g a b)) := by
  constructor
  intro B w σ e x y a b res Q st h1 h2 q k
  cases z : f a b with
  | some u =>
    simp only [z, Option.some_or] at q
    cases q
    exact .inl (h.run st h1 h2 z k)
  | none =>
    simp only [z, Option.none_or] at q
    exact .inr (h'.run st h1 h2 q k)
/-- operations on ints -/
def iop (g : Int → Int → Option D) : D → D → Option Res
  | .int i, .int j => (g i j).map .val
  | _, _ => none
theorem r2_int {K : PySem.W.Frag} {C : Int → Int → Prop} {gv : Int → Int → V} {g : Int → Int → Option D} (h : ∀ i j d, g i j = some d → C i j ∧ ∀ H, Dq K H (gv i j) d) : R2Is K (rI C gv) (iop g) := by
  constructor
  intro B w σ e x y a b res Q st h1 h2 q k
  cases a <;> try cases q
  cases b <;> try cases q
  rename_i i j
  obtain ⟨d, q1, q2⟩ := Option.map_eq_some_iff.mp q
  cases q2
  obtain ⟨hc, hd⟩ := h i j d q1
  exact ⟨i, j, h1.int, h2.int, hc, k _ w st (Le.refl w) (hd _)⟩
theorem r2_int0 {K : PySem.W.Frag} {gv : Int → Int → V} {g : Int → Int → D} (h : ∀ i j H, Dq K H (gv i j) (g i j)) : R2Is K (rI0 gv) (iop fun i j => some (g i j)) := by
  constructor
  intro B w σ e x y a b res Q st h1 h2 q k
  cases a <;> try cases q
  cases b <;> try cases q
  rename_i i j
  exact ⟨i, j, h1.int, h2.int, k _ w st (Le.refl w) (h i j _)⟩
def pAdd : D → D → Option Res := iop fun i j => some (.int (i + j))
def pSub : D → D → Option Res := iop fun i j => some (.int (i - j))
def pDiv : D → D → Option Res := iop fun i j => if 0 < j ∧ j < 1073741824 then some (.int (i / j)) else none
def pMod : D → D → Option Res := iop fun i j => if 0 < j then some (.int (i % j)) else none
def pPow : D → D → Option Res := iop fun i j => if 0 ≤ j ∧ j ≤ 1000000 ∧ i.natAbs < 2 ^ 64 then some (.int (i ^ j.toNat)) else none
def mulOk (i j : Int) : Prop := CMul i j ∨ CMulW i j
instance (i j : Int) : Decidable (mulOk i j) := by unfold mulOk CMul CMulW; infer_instance
def pMul : D → D → Option Res := iop fun i j => if mulOk i j then some (.int (i * j)) else none
def pLt : D → D → Option Res := iop fun i j => some (.bool (decide (i < j)))
def pLe : D → D → Option Res := iop fun i j => some (.bool (decide (i ≤ j)))
def pGt : D → D → Option Res := iop fun i j => some (.bool (decide (j < i)))
def pGe : D → D → Option Res := iop fun i j => some (.bool (decide (j ≤ i)))
theorem r_add {K} : R2Is K (rI0 fun i j => .int (i + j)) pAdd := r2_int0 fun _ _ _ => .int _
theorem r_sub {K} : R2Is K (rI0 fun i j => .int (i - j)) pSub := r2_int0 fun _ _ _ => .int _
theorem r_lt {K} : R2Is K (rI0 fun i j => .bl (decide (i < j))) pLt := r2_int0 fun _ _ _ => .bl _
theorem r_le {K} : R2Is K (rI0 fun i j => .bl (decide (i ≤ j))) pLe := r2_int0 fun _ _ _ => .bl _
theorem r_gt {K} : R2Is K (rI0 fun i j => .bl (decide (j < i))) pGt := r2_int0 fun _ _ _ => .bl _
theorem r_ge {K} : R2Is K (rI0 fun i j => .bl (decide (j ≤ i))) pGe := r2_int0 fun _ _ _ => .bl _
theorem r_div {K} : R2Is K (rI CDiv fun i j => .int (i / j)) pDiv := r2_int fun i j d h => by
  split at h
  · rename_i q; cases h; exact ⟨q, fun _ => .int _⟩
  · cases h
theorem r_mod {K} : R2Is K (rI (fun _ j => 0 < j) fun i j => .int (i % j)) pMod := r2_int fun i j d h => by
  split at h
  · rename_i q; cases h; exact ⟨q, fun _ => .int _⟩
  · cases h
theorem r_pow {K} : R2Is K (rI CPow fun i j => .int (i ^ j.toNat)) pPow := r2_int fun i j d h => by
  split at h
  · rename_i q; cases h; exact ⟨q, fun _ => .int _⟩
  · cases h
theorem op_mulA : OpR X (binaryOp .Mult) (rI mulOk fun i j => .int (i * j)) := by
  intro pins s σ H x y v u Q I rx ry h
  obtain ⟨i, j, e1, e2, hc, q⟩ := h
  rcases hc with hc | hc
  · exact op_mul pins s σ H x y v u Q I rx ry ⟨i, j, e1, e2, hc, q⟩
  · exact op_mulW pins s σ H x y v u Q I rx ry ⟨i, j, e1, e2, hc, q⟩
theorem r_mul {K} : R2Is K (rI mulOk fun i j => .int (i * j)) pMul := r2_int fun i j d h => by
  split at h
  · rename_i q; cases h; exact ⟨q, fun _ => .int _⟩
  · cases h
end
end DL

set_option Elab.async false
set_option linter.all false
set_option maxRecDepth 100000
set_option maxHeartbeats 1000000
/-! DL3: more expressions. -/
namespace DL
open PySem PySem.Spec PyProof.Rows L2

/-- the line of sizes, written -/
abbrev SZ : Nat := 16777216
theorem sz_le {n : Nat} (h : n ≤ SZ) : n ≤ sizeLine := by rw [sizeLine_eq]; exact h
theorem sz_lt {n : Nat} (h : n < SZ) : n < sizeLine := by rw [sizeLine_eq]; exact h

/-! ### tracked or known lists -/
section
variable {X : Cx} {pins : List (Addr × Obj)} {σ : L2.St} {H : Hp} {s : Shared} {l : Addr} {xs : List V}
theorem lstR (I : Inv X pins σ H s) (h : LstAt X.K H l xs) : xs.length ≤ sizeLine ∧ ∃ (its : List Value) (n : Nat), Vals xs its ∧ xs.length = its.length ∧ s.heap.get? l = some { cls := .type "list", data := .seq its.toArray n } := by
  rcases h with h | ⟨its, n, h1, h2, h3⟩
  · have z : ObjOk X.prog X.w H s.heap l (.lst xs) := h.ok I.hok
    obtain ⟨z, its, n, r, e⟩ := z
    exact ⟨z, its, n, r, r.length, e⟩
  · have e : xs.length = its.size := by rw [← Array.length_toList]; exact h3.length
    exact ⟨by rw [e]; exact h2, its.toList, n, h3, h3.length, by rw [Array.toArray_toList]; exact I.kIn l _ h1⟩
def rCatR (K : PySem.W.Frag) : R2 := fun x y H Q => ∃ l b xs zs, x = .ref l ∧ y = .ref b ∧ LstAt K H l xs ∧ LstAt K H b zs ∧ xs.length + zs.length ≤ sizeLine ∧ ∀ p, H p = none → Q (.ref p) (upd H p (.lst (xs ++ zs)))
theorem op_catR : OpR X (binaryOp .Add) (rCatR X.K) := by
  intro pins s σ H x y v u Q I rx ry ⟨l, b, xs, zs, e1, e2, h1, h2, hz, q⟩
  subst e1 e2
  cases rx
  cases ry
  obtain ⟨_, i1, n1, r1, l1, g1⟩ := lstR I h1
  obtain ⟨_, i2, n2, r2, l2, g2⟩ := lstR I h2
  refine PySem.P.add_list g1 g2 ?_ (by simp only [List.size_toArray]; omega)
  rw [show i1.toArray ++ i2.toArray = (i1 ++ i2).toArray by simp]
  exact ⟨.ref s.heap.objs.size, _, I.lnew (t' := s.toks) (r1.append r2) (by simp only [List.length_append]; exact hz), rfl, q _ I.fresh⟩
def rRepR (K : PySem.W.Frag) : R2 := fun x y H Q => ∃ l k xs, x = .ref l ∧ y = .int k ∧ LstAt K H l xs ∧ (-(2 ^ 63) ≤ k ∧ k < 2 ^ 63) ∧ xs.length * k.toNat ≤ sizeLine ∧
  ∀ p, H p = none → Q (.ref p) (upd H p (.lst (List.replicate k.toNat xs).flatten))
theorem fold_rep0 (its : List Value) (m : Nat) : List.foldl (fun x1 x2 => x1 ++ x2) #[] (List.replicate m its.toArray) = (List.replicate m its).flatten.toArray := by
  have z := foldl_rep its m []
  simpa using z
theorem op_repR : OpR X (binaryOp .Mult) (rRepR X.K) := by
  intro pins s σ H x y v u Q I rx ry ⟨l, k, xs, e1, e2, hR, hb, hz, q⟩
  subst e1 e2
  cases rx
  obtain ⟨t, et⟩ := ry
  subst et
  obtain ⟨_, its, n, r, hl, g⟩ := lstR I hR
  have sz : its.toArray.size * k.toNat ≤ sizeLine := by simp only [List.size_toArray]; rw [← hl]; exact hz
  have c1 : ¬ (!Builtin.List.listFitsIndex k) = true := by simp [fitsIndex_both hb.1 hb.2]
  have c2 : ¬ its.toArray.size * k.toNat > (2 ^ 63 - 1) / 8 := by
    have : (sizeLine : Nat) ≤ (2 ^ 63 - 1) / 8 := by decide
    omega
  have c3 : ¬ Builtin.List.listTooLong (its.toArray.size * k.toNat) = true := by rw [notLongL sz]; exact Bool.false_ne_true
  have e : List.foldl (fun x1 x2 => x1 ++ x2) #[] (List.replicate (if its.toArray.isEmpty = true then 0 else k.toNat) its.toArray) = (List.replicate k.toNat its).flatten.toArray := by
    rw [fold_rep0]
    cases its with
    | nil => simp
    | cons a b => simp
  have tl : s.TypeIs (.ref l) "list" := ⟨_, g, rfl⟩
  have mulL := AutoListH.list___mul___list_int_3 l its.toArray n k t c1 c2 c3
  refine wpAny_binaryOp_repeat_ref (T := "list") (U := "int") (by decide) tl (fun z => typeIs_int z k t) noFill_list_mul F.fills_int_mul F.slot_int_rmul repeat_list F.slot_int_index.lookup ?_
  refine call_meets F.slot_int_rmul (typeIs_int s k t) F.entry_int_rmul (F.args_int_rmul_2 _ _) (int___rmul___int_list k t l its.toArray n) ⟨g, rfl, tl, ?_⟩
  refine call_meets F.slot_list_mul tl F.entry_list_mul (F.args_list_mul_2 _ _) mulL ⟨g, ?_⟩
  rw [e]
  have hl2 : (List.replicate k.toNat xs).flatten.length ≤ sizeLine := by rw [PyProof.Rows.lm_len_rep_flat, Nat.mul_comm]; exact hz
  exact ⟨.ref s.heap.objs.size, _, I.lnew (t' := s.toks) (r.rep k.toNat) hl2, rfl, q _ I.fresh⟩
end

/-! ### sequences by operators -/
def okLen (n : Nat) (r : Res) : Option Res := if n ≤ SZ then some r else none
theorem okLen_some {n : Nat} {r r' : Res} (h : okLen n r = some r') : n ≤ SZ ∧ r = r' := by
  unfold okLen at h
  split at h
  · rename_i q; exact ⟨q, Option.some.inj h⟩
  · cases h
def sAddT : D → D → Option Res
  | .tuple a, .tuple b => okLen (a.length + b.length) (.val (.tuple (a ++ b)))
  | _, _ => none
def sAddL : D → D → Option Res
  | .list a, .list b => okLen (a.length + b.length) (.fresh (.list (a ++ b)))
  | _, _ => none
def sMulL : D → D → Option Res
  | .list a, .int k => if -(2 ^ 63) ≤ k ∧ k < 2 ^ 63 then okLen (a.length * k.toNat) (.fresh (.list (List.replicate k.toNat a).flatten)) else none
  | _, _ => none
section
variable {K : PySem.W.Frag} {B : Bd} {w w' : Wd} {σ : L2.St} {e : En} {v : V} {d : D}
/-- a new frozen tuple as a result -/
theorem res_tup (st : Stt K B w σ e) {vs : List V} {ds : List D} (h : Da K w.F vs ds) {Q : VK} (q : ∀ v w', Stt K B w' σ e → Le w w' → ResOK K w.H w' v (.val (.tuple ds)) → Q v w'.H) (p : Addr) (np : w.H p = none) : Q (.ref p) (upd w.H p (.tup vs)) := by
  obtain ⟨k1, k2, k3⟩ := st.add (o := .tup vs) np
  exact q _ (w.add p (.tup vs)) k2 k1 (.tup k3 (dqAll_same k1.fz h))
theorem res_lst (st : Stt K B w σ e) {vs : List V} {ds : List D} (h : Da K w.F vs ds) {Q : VK} (q : ∀ v w', Stt K B w' σ e → Le w w' → ResOK K w.H w' v (.fresh (.list ds)) → Q v w'.H) (p : Addr) (np : w.H p = none) : Q (.ref p) (upd w.H p (.lst vs)) := by
  obtain ⟨k1, k2⟩ := st.addL (o := .lst vs) np
  exact q _ (w.addL p (.lst vs)) k2 k1 ⟨p, _, rfl, upd_same, st.nF np, st.nO np, np, .lst h⟩
theorem r_addT : R2Is K (rCatA K) sAddT := by
  constructor
  intro B w σ e x y a b res Q st h1 h2 q k
  cases a <;> try cases q
  cases b <;> try cases q
  rename_i a b
  obtain ⟨hz, q1⟩ := okLen_some q
  subst q1
  obtain ⟨p, vs, e1, s1, d1⟩ := h1.tuple st.sub
  obtain ⟨r, us, e2, s2, d2⟩ := h2.tuple st.sub
  have l1 := da_len d1
  have l2 := da_len d2
  refine ⟨p, r, vs, us, e1, e2, s1, s2, sz_le (by omega), fun z => ?_, fun _ z => ?_, fun _ _ t nt => res_tup st (da_append d1 d2) k t nt⟩
  · subst z
    cases d1
    rw [← e2]
    exact k y w st (Le.refl w) (by
      rcases h2 with h2 | ⟨_, _, _, _, z⟩
      · exact h2
      · cases z)
  · subst z
    cases d2
    rw [← e1]
    exact k x w st (Le.refl w) (by
      rw [List.append_nil]
      rcases h1 with h1 | ⟨_, _, _, _, z⟩
      · exact h1
      · cases z)
theorem r_addL : R2Is K (rCatR K) sAddL := by
  constructor
  intro B w σ e x y a b res Q st h1 h2 q k
  cases a <;> try cases q
  cases b <;> try cases q
  rename_i a b
  obtain ⟨hz, q1⟩ := okLen_some q
  subst q1
  obtain ⟨p, vs, e1, s1, d1⟩ := h1.list st.sub
  obtain ⟨r, us, e2, s2, d2⟩ := h2.list st.sub
  have l1 := da_len d1
  have l2 := da_len d2
  exact ⟨p, r, vs, us, e1, e2, s1, s2, sz_le (by omega), fun t nt => res_lst st (da_append d1 d2) k t nt⟩
theorem r_mulL : R2Is K (rRepR K) sMulL := by
  constructor
  intro B w σ e x y a b res Q st h1 h2 q k
  cases a <;> try cases q
  cases b <;> try cases q
  rename_i a b
  have q' : (if -(2 ^ 63) ≤ b ∧ b < 2 ^ 63 then okLen (a.length * b.toNat) (.fresh (.list (List.replicate b.toNat a).flatten)) else none) = some res := q
  split at q'
  · rename_i hb
    obtain ⟨hz, q1⟩ := okLen_some q'
    subst q1
    obtain ⟨p, vs, e1, s1, d1⟩ := h1.list st.sub
    have l1 := da_len d1
    exact ⟨p, b, vs, e1, h2.int, s1, hb, sz_le (by rw [l1]; exact hz), fun t nt => res_lst st (da_replicate _ d1) k t nt⟩
  · cases q'
end
/-- +: ints, tuples, lists -/
def vAdd : D → D → Option Res := fun a b => (pAdd a b).or ((sAddT a b).or (sAddL a b))
def vMul : D → D → Option Res := fun a b => (pMul a b).or (sMulL a b)
section
variable {X : Cx} {a b c : Expr} {fa fb fc : FE} {pos : Pos}
theorem d_add (ha : PE X a (tE X.K fa)) (hb : PE X b (tE X.K fb)) : PE X (.BinOp a .Add b pos) (tV X.K (fBin vAdd fa fb)) :=
  d_bin (op_add.or (op_catA.or op_catR)) (r2_or r_add (r2_or r_addT r_addL)) ha hb
theorem d_mul (ha : PE X a (tE X.K fa)) (hb : PE X b (tE X.K fb)) : PE X (.BinOp a .Mult b pos) (tV X.K (fBin vMul fa fb)) :=
  d_bin (op_mulA.or op_repR) (r2_or r_mul r_mulL) ha hb
theorem d_sub (ha : PE X a (tE X.K fa)) (hb : PE X b (tE X.K fb)) : PE X (.BinOp a .Sub b pos) (tV X.K (fBin pSub fa fb)) := d_bin op_sub r_sub ha hb
theorem d_div (ha : PE X a (tE X.K fa)) (hb : PE X b (tE X.K fb)) : PE X (.BinOp a .FloorDiv b pos) (tV X.K (fBin pDiv fa fb)) := d_bin op_fdiv r_div ha hb
theorem d_mod (ha : PE X a (tE X.K fa)) (hb : PE X b (tE X.K fb)) : PE X (.BinOp a .Mod b pos) (tV X.K (fBin pMod fa fb)) := d_bin op_mod r_mod ha hb
theorem d_pow (ha : PE X a (tE X.K fa)) (hb : PE X b (tE X.K fb)) : PE X (.BinOp a .Pow b pos) (tV X.K (fBin pPow fa fb)) := d_bin op_pow r_pow ha hb

/-! ### comparisons -/
def sEq : D → D → Option Res := fun a b => if SeqAt.shaped a = true ∧ SeqAt.shaped b = true then some (.val (.bool (PyData.eqv a b))) else none
def sNe : D → D → Option Res := fun a b => if SeqAt.shaped a = true ∧ SeqAt.shaped b = true then some (.val (.bool (!PyData.eqv a b))) else none
theorem nd_shaped {d : D} (h : SeqAt.shaped d = true) : isDct d = false := by
  cases d <;> first | rfl | (have := SeqAt.canLay_of_shaped h; cases this)
theorem r_eq {K} : R2Is K (rEqD K) sEq := by
  constructor
  intro B w σ e x y a b res Q st h1 h2 q k
  unfold sEq at q
  split at q
  · rename_i z
    cases q
    exact ⟨a, b, dq_dp (noD_lay (SeqAt.canLay_of_shaped z.1)) (h1.dp (nd_shaped z.1) st.sub), dq_dp (noD_lay (SeqAt.canLay_of_shaped z.2)) (h2.dp (nd_shaped z.2) st.sub), z.1, z.2, k _ w st (Le.refl w) (.bl _)⟩
  · cases q
theorem r_ne {K} : R2Is K (rNeD K) sNe := by
  constructor
  intro B w σ e x y a b res Q st h1 h2 q k
  unfold sNe at q
  split at q
  · rename_i z
    cases q
    exact ⟨a, b, dq_dp (noD_lay (SeqAt.canLay_of_shaped z.1)) (h1.dp (nd_shaped z.1) st.sub), dq_dp (noD_lay (SeqAt.canLay_of_shaped z.2)) (h2.dp (nd_shaped z.2) st.sub), z.1, z.2, k _ w st (Le.refl w) (.bl _)⟩
  · cases q
theorem d_eq (hu : X.A.units + 64 < cLine) (ha : PE X a (tE X.K fa)) (hb : PE X b (tE X.K fb)) : PE X (.Compare a [.Eq] [b] pos) (tV X.K (fBin sEq fa fb)) := d_cmp (op_eqD hu) r_eq ha hb (nomark _)
theorem d_ne (hu : X.A.units + 64 < cLine) (ha : PE X a (tE X.K fa)) (hb : PE X b (tE X.K fb)) : PE X (.Compare a [.NotEq] [b] pos) (tV X.K (fBin sNe fa fb)) := d_cmp (op_neD hu) r_ne ha hb (nomark _)
theorem d_lt (ha : PE X a (tE X.K fa)) (hb : PE X b (tE X.K fb)) : PE X (.Compare a [.Lt] [b] pos) (tV X.K (fBin pLt fa fb)) := d_cmp op_lt r_lt ha hb (nomark _)
theorem d_le (ha : PE X a (tE X.K fa)) (hb : PE X b (tE X.K fb)) : PE X (.Compare a [.LtE] [b] pos) (tV X.K (fBin pLe fa fb)) := d_cmp op_le r_le ha hb (nomark _)
theorem d_gt (ha : PE X a (tE X.K fa)) (hb : PE X b (tE X.K fb)) : PE X (.Compare a [.Gt] [b] pos) (tV X.K (fBin pGt fa fb)) := d_cmp op_gt r_gt ha hb (nomark _)
theorem d_ge (ha : PE X a (tE X.K fa)) (hb : PE X b (tE X.K fb)) : PE X (.Compare a [.GtE] [b] pos) (tV X.K (fBin pGe fa fb)) := d_cmp op_ge r_ge ha hb (nomark _)
/-- is None -/
def isN : D → Bool
  | .none => true
  | _ => false
def sIsN (neg : Bool) : D → D → Option Res
  | a, .none => some (.val (.bool (if neg then !isN a else isN a)))
  | _, _ => none
theorem isN_of {K : PySem.W.Frag} {w : Wd} {v : V} {d : D} (h : DpT K w v d) : decide (v = .non) = isN d := by
  rcases h with h | ⟨a, o, rfl, _, z⟩
  · cases h <;> rfl
  · cases z <;> rfl
theorem r_isN {K} : R2Is K (fun x y H Q => y = .non ∧ Q (.bl (decide (x = .non))) H) (sIsN false) := by
  constructor
  intro B w σ e x y a b res Q st h1 h2 q k
  cases b <;> try cases q
  refine ⟨h2.none, k _ w st (Le.refl w) ?_⟩
  rw [isN_of h1]
  exact Dq.bl _
theorem r_notN {K} : R2Is K (fun x y H Q => y = .non ∧ Q (.bl (!decide (x = .non))) H) (sIsN true) := by
  constructor
  intro B w σ e x y a b res Q st h1 h2 q k
  cases b <;> try cases q
  refine ⟨h2.none, k _ w st (Le.refl w) ?_⟩
  rw [isN_of h1]
  exact Dq.bl _
theorem d_isN (ha : PE X a (tE X.K fa)) (hb : PE X b (tE X.K fb)) : PE X (.Compare a [.Is] [b] pos) (tV X.K (fBin (sIsN false) fa fb)) := d_cmp op_isN r_isN ha hb (nomark _)
theorem d_notN (ha : PE X a (tE X.K fa)) (hb : PE X b (tE X.K fb)) : PE X (.Compare a [.IsNot] [b] pos) (tV X.K (fBin (sIsN true) fa fb)) := d_cmp op_notN r_notN ha hb (nomark _)
end
/-! in, not in: flat items -/
def flatD : D → Bool
  | .none => true
  | .bool _ => true
  | .int _ => true
  | .str _ => true
  | _ => false
theorem flat_of {K : PySem.W.Frag} {H : Hp} {v : V} {d : D} (h : Dq K H v d) (f : flatD d = true) : flatV v = true := by
  cases h <;> first | rfl | cases f
theorem eqv_flat {K : PySem.W.Frag} {H : Hp} {x y : V} {a b : D} (h1 : Dq K H x a) (h2 : Dq K H y b) (fa : flatD a = true) (fb : flatD b = true) : eqV y x = PyData.eqv b a := by
  cases h1 <;> cases h2 <;> first
    | rfl
    | (simp only [flatD, Bool.false_eq_true] at fa)
    | (simp only [flatD, Bool.false_eq_true] at fb)
theorem flats_of {K : PySem.W.Frag} {H : Hp} : ∀ {vs : List V} {ds : List D}, Da K H vs ds → ds.all flatD = true → vs.all flatV = true
  | _, _, .nil, _ => rfl
  | _, _, .cons h t, f => by
    rw [List.all_cons, Bool.and_eq_true] at f ⊢
    exact ⟨flat_of h f.1, flats_of t f.2⟩
theorem inV_of {K : PySem.W.Frag} {H : Hp} {x : V} {a : D} (h : Dq K H x a) (fa : flatD a = true) : ∀ {vs : List V} {ds : List D}, Da K H vs ds → ds.all flatD = true → inV x vs = ds.any fun y => PyData.eqv y a
  | _, _, .nil, _ => rfl
  | _, _, .cons h1 t, f => by
    rw [List.all_cons, Bool.and_eq_true] at f
    have ih := inV_of h fa t f.2
    unfold inV at ih ⊢
    rw [List.any_cons, List.any_cons, ih, eqv_flat h h1 fa f.1]
def seqOf : D → Option (List D)
  | .list l => some l
  | .tuple l => some l
  | _ => none
def sIn (neg : Bool) : D → D → Option Res := fun a b => (seqOf b).bind fun l => if flatD a = true ∧ l.all flatD = true then some (.val (.bool (if neg then !(l.any fun y => PyData.eqv y a) else l.any fun y => PyData.eqv y a))) else none
theorem seq_of {K : PySem.W.Frag} {w : Wd} {v : V} {d : D} {l : List D} (s : Same w.F w.H) (h : DpT K w v d) (q : seqOf d = some l) : ∃ a vs, v = .ref a ∧ (LstAt K w.H a vs ∨ SqT K w.H a vs) ∧ Da K w.F vs l := by
  cases d <;> try cases q
  · obtain ⟨a, vs, e1, e2, e3⟩ := h.list s
    exact ⟨a, vs, e1, .inl e2, e3⟩
  · obtain ⟨a, vs, e1, e2, e3⟩ := h.tuple s
    exact ⟨a, vs, e1, .inr e2, e3⟩
theorem r_in {K neg} : R2Is K (rIn K neg) (sIn neg) := by
  constructor
  intro B w σ e x y a b res Q st h1 h2 q k
  unfold sIn at q
  obtain ⟨l, q1, q2⟩ := Option.bind_eq_some_iff.mp q
  split at q2
  · rename_i z
    cases q2
    obtain ⟨p, vs, e1, e2, e3⟩ := seq_of st.sub h2 q1
    have h1' : Dq K w.F x a := by
      rcases h1 with h1 | ⟨_, _, _, _, e⟩
      · exact h1
      · cases e <;> cases z.1
    refine ⟨p, vs, e1, ?_, flat_of h1' z.1, flats_of e3 z.2, k _ w st (Le.refl w) ?_⟩
    · rcases e2 with e2 | e2
      · exact .inl (la_sql e2)
      · exact .inr e2
    · rw [inV_of h1' z.1 e3 z.2]
      cases neg <;> exact .bl _
  · cases q2
section
variable {X : Cx} {a b c : Expr} {fa fb fc : FE} {pos : Pos}
theorem d_in (ha : PE X a (tE X.K fa)) (hb : PE X b (tE X.K fb)) (hm : behindInMarks .In b = false) : PE X (.Compare a [.In] [b] pos) (tV X.K (fBin (sIn false) fa fb)) := d_cmp op_in_seq r_in ha hb hm
theorem d_notIn (ha : PE X a (tE X.K fa)) (hb : PE X b (tE X.K fb)) (hm : behindInMarks .NotIn b = false) : PE X (.Compare a [.NotIn] [b] pos) (tV X.K (fBin (sIn true) fa fb)) := d_cmp op_notIn_seq r_in ha hb hm
end
end DL

set_option Elab.async false
set_option linter.all false
set_option maxRecDepth 100000
set_option maxHeartbeats 1000000
/-! DL4: tests, displays, subscripts, slices, built-in calls. -/
namespace DL
open PySem PySem.Spec PyProof.Rows L2
section
variable {X : Cx} {a b c : Expr} {fa fb fc : FE} {ta tb tc : FT} {pos : Pos} {rest : List Expr}
/-! ### and, or, not, if as values -/
def fAnd (f g : FE) : FE := fun e => (f e).bind fun p => match look p.2 p.1 with
  | some (.bool true) => g p.2
  | some (.bool false) => some (.val (.bool false), p.2)
  | _ => none
def fOr (f g : FE) : FE := fun e => (f e).bind fun p => match look p.2 p.1 with
  | some (.bool false) => g p.2
  | some (.bool true) => some (.val (.bool true), p.2)
  | _ => none
def fNot (f : FE) : FV := fun e => (f e).bind fun p => match look p.2 p.1 with
  | some (.bool b) => some (.val (.bool (!b)), p.2)
  | _ => none
theorem d_one {op} (h : PE X a (tE X.K fa)) : PE X (.BoolOp op [a] pos) (tE X.K fa) := pe_one h
theorem d_and (ha : PE X a (tE X.K fa)) (hb : PE X (.BoolOp .And (b :: rest) pos) (tE X.K fb)) : PE X (.BoolOp .And (a :: b :: rest) pos) (tE X.K (fAnd fa fb)) := by
  refine pe_imp (pe_and ha hb) fun σ H Q ⟨B, w, e, r, e', hH, st, hf, q⟩ => ?_
  obtain ⟨⟨r1, e1⟩, k1, k2⟩ := Option.bind_eq_some_iff.mp hf
  refine ⟨B, w, e, r1, e1, hH, st, k1, fun v w1 s1 l1 p1 => ?_⟩
  cases hl : look e1 r1 with
  | none => simp only [hl] at k2; cases k2
  | some d =>
    have t := look_ok s1 hl p1
    simp only [hl] at k2
    cases d <;> try cases k2
    rename_i z
    refine ⟨z, t.bool, ?_⟩
    cases z with
    | true => exact ⟨B, w1, e1, r, e', rfl, s1, k2, fun v2 w2 s2 l2 p2 => q v2 w2 s2 (l1.trans l2) p2⟩
    | false =>
      cases k2
      exact q _ w1 s1 l1 (Dq.bl _)
theorem d_or (ha : PE X a (tE X.K fa)) (hb : PE X (.BoolOp .Or (b :: rest) pos) (tE X.K fb)) : PE X (.BoolOp .Or (a :: b :: rest) pos) (tE X.K (fOr fa fb)) := by
  refine pe_imp (pe_or ha hb) fun σ H Q ⟨B, w, e, r, e', hH, st, hf, q⟩ => ?_
  obtain ⟨⟨r1, e1⟩, k1, k2⟩ := Option.bind_eq_some_iff.mp hf
  refine ⟨B, w, e, r1, e1, hH, st, k1, fun v w1 s1 l1 p1 => ?_⟩
  cases hl : look e1 r1 with
  | none => simp only [hl] at k2; cases k2
  | some d =>
    have t := look_ok s1 hl p1
    simp only [hl] at k2
    cases d <;> try cases k2
    rename_i z
    refine ⟨z, t.bool, ?_⟩
    cases z with
    | false => exact ⟨B, w1, e1, r, e', rfl, s1, k2, fun v2 w2 s2 l2 p2 => q v2 w2 s2 (l1.trans l2) p2⟩
    | true =>
      cases k2
      exact q _ w1 s1 l1 (Dq.bl _)
theorem d_not (ha : PE X a (tE X.K fa)) : PE X (.UnaryOp .Not a pos) (tV X.K (fNot fa)) := by
  refine pe_imp (pe_not ha) fun σ H Q ⟨B, w, e, r, e', hH, st, hf, q⟩ => ?_
  obtain ⟨⟨r1, e1⟩, k1, k2⟩ := Option.bind_eq_some_iff.mp hf
  refine ⟨B, w, e, r1, e1, hH, st, k1, fun v w1 s1 l1 p1 => ?_⟩
  cases hl : look e1 r1 with
  | none => simp only [hl] at k2; cases k2
  | some d =>
    have t := look_ok s1 hl p1
    simp only [hl] at k2
    cases d <;> try cases k2
    rename_i z
    exact ⟨z, t.bool, q _ w1 s1 l1 (Dq.bl _)⟩
def fNeg (f : FE) : FV := fun e => (f e).bind fun p => match look p.2 p.1 with
  | some (.int b) => some (.val (.int (-b)), p.2)
  | _ => none
theorem d_neg (ha : PE X a (tE X.K fa)) : PE X (.UnaryOp .USub a pos) (tV X.K (fNeg fa)) := by
  refine pe_imp (pe_un un_neg ha) fun σ H Q ⟨B, w, e, r, e', hH, st, hf, q⟩ => ?_
  obtain ⟨⟨r1, e1⟩, k1, k2⟩ := Option.bind_eq_some_iff.mp hf
  refine ⟨B, w, e, r1, e1, hH, st, k1, fun v w1 s1 l1 p1 => ?_⟩
  cases hl : look e1 r1 with
  | none => simp only [hl] at k2; cases k2
  | some d =>
    have t := look_ok s1 hl p1
    simp only [hl] at k2
    cases d <;> try cases k2
    rename_i z
    exact ⟨z, t.int, q _ w1 s1 l1 (Dq.int _)⟩

/-! ### tests -/
def fTestV (h : FV) : FT := fun e => (h e).bind fun p => match p.1 with
  | .val (.bool b) => some (b, p.2)
  | _ => none
theorem test_run {K : PySem.W.Frag} {h : FV} {σ : L2.St} {H : Hp} {Q : Bool → Hp → Prop} (q : tT K (fTestV h) σ H Q) : tV K h σ H fun x H' => ∃ k, x = .bl k ∧ Q k H' := by
  obtain ⟨B, w, e, b, e', hH, st, hf, q⟩ := q
  obtain ⟨⟨r1, e1⟩, k1, k2⟩ := Option.bind_eq_some_iff.mp hf
  refine ⟨B, w, e, r1, e1, hH, st, k1, fun v w1 s1 l1 p1 => ?_⟩
  cases r1 with
  | fresh l => cases k2
  | val d =>
    cases d <;> try cases k2
    have p1' : Dq K w1.F v (.bool b) := p1
    cases p1'
    exact ⟨b, rfl, q w1 s1 l1⟩
theorem t_cmp {op : CmpOp} {r : R2} {f : D → D → Option Res} (ho : OpR X (compareOp op) r) (h : R2Is X.K r f) (ha : PE X a (tE X.K fa)) (hb : PE X b (tE X.K fb)) (hm : behindInMarks op b = false) : PT X (.Compare a [op] [b] pos) (tT X.K (fTestV (fBin f fa fb))) :=
  pt_imp (pt_cmpR ho ha hb hm) fun _ _ _ q => bin_run h (test_run q)
theorem t_eq (hu : X.A.units + 64 < cLine) (ha : PE X a (tE X.K fa)) (hb : PE X b (tE X.K fb)) : PT X (.Compare a [.Eq] [b] pos) (tT X.K (fTestV (fBin sEq fa fb))) := t_cmp (op_eqD hu) r_eq ha hb (nomark _)
theorem t_ne (hu : X.A.units + 64 < cLine) (ha : PE X a (tE X.K fa)) (hb : PE X b (tE X.K fb)) : PT X (.Compare a [.NotEq] [b] pos) (tT X.K (fTestV (fBin sNe fa fb))) := t_cmp (op_neD hu) r_ne ha hb (nomark _)
theorem t_lt (ha : PE X a (tE X.K fa)) (hb : PE X b (tE X.K fb)) : PT X (.Compare a [.Lt] [b] pos) (tT X.K (fTestV (fBin pLt fa fb))) := t_cmp op_lt r_lt ha hb (nomark _)
theorem t_le (ha : PE X a (tE X.K fa)) (hb : PE X b (tE X.K fb)) : PT X (.Compare a [.LtE] [b] pos) (tT X.K (fTestV (fBin pLe fa fb))) := t_cmp op_le r_le ha hb (nomark _)
theorem t_gt (ha : PE X a (tE X.K fa)) (hb : PE X b (tE X.K fb)) : PT X (.Compare a [.Gt] [b] pos) (tT X.K (fTestV (fBin pGt fa fb))) := t_cmp op_gt r_gt ha hb (nomark _)
theorem t_ge (ha : PE X a (tE X.K fa)) (hb : PE X b (tE X.K fb)) : PT X (.Compare a [.GtE] [b] pos) (tT X.K (fTestV (fBin pGe fa fb))) := t_cmp op_ge r_ge ha hb (nomark _)
theorem t_isN (ha : PE X a (tE X.K fa)) (hb : PE X b (tE X.K fb)) : PT X (.Compare a [.Is] [b] pos) (tT X.K (fTestV (fBin (sIsN false) fa fb))) := t_cmp op_isN r_isN ha hb (nomark _)
theorem t_notN (ha : PE X a (tE X.K fa)) (hb : PE X b (tE X.K fb)) : PT X (.Compare a [.IsNot] [b] pos) (tT X.K (fTestV (fBin (sIsN true) fa fb))) := t_cmp op_notN r_notN ha hb (nomark _)
theorem t_in (ha : PE X a (tE X.K fa)) (hb : PE X b (tE X.K fb)) (hm : behindInMarks .In b = false) : PT X (.Compare a [.In] [b] pos) (tT X.K (fTestV (fBin (sIn false) fa fb))) := t_cmp op_in_seq r_in ha hb hm
theorem t_notIn (ha : PE X a (tE X.K fa)) (hb : PE X b (tE X.K fb)) (hm : behindInMarks .NotIn b = false) : PT X (.Compare a [.NotIn] [b] pos) (tT X.K (fTestV (fBin (sIn true) fa fb))) := t_cmp op_notIn_seq r_in ha hb hm
/-- a value's truth -/
def truthD : D → Option Bool
  | .none => some false
  | .bool b => some b
  | .int i => some (i != 0)
  | .list l => some (!l.isEmpty)
  | .tuple l => some (!l.isEmpty)
  | _ => none
def fTruth (f : FE) : FT := fun e => (f e).bind fun p => (look p.2 p.1).bind fun d => (truthD d).map fun b => (b, p.2)
theorem empty_of {K : PySem.W.Frag} {H : Hp} {vs : List V} {ds : List D} (h : Da K H vs ds) : vs.isEmpty = ds.isEmpty := by cases h <;> rfl
theorem tru_of {K : PySem.W.Frag} {w : Wd} {v : V} {d : D} {b : Bool} (s : Same w.F w.H) (h : DpT K w v d) (q : truthD d = some b) : TruV K v w.H b := by
  cases d <;> try cases q
  · rw [h.none]; rfl
  · rw [h.bool]; rfl
  · rw [h.int]; rfl
  · obtain ⟨a, vs, e1, e2, e3⟩ := h.list s
    subst e1
    exact .inl ⟨vs, la_sql e2, by rw [empty_of e3]⟩
  · obtain ⟨a, vs, e1, e2, e3⟩ := h.tuple s
    subst e1
    exact .inr (.inl ⟨vs, e2, by rw [empty_of e3]⟩)
theorem t_truth (ha : PE X a (tE X.K fa)) (he : ∀ whole, isTrue a X.env whole = (do let v ← whole; standAt a.pos; holding [v] (truthy v))) : PT X a (tT X.K (fTruth fa)) := by
  refine pt_imp (pt_truth ha he) fun σ H Q ⟨B, w, e, b, e', hH, st, hf, q⟩ => ?_
  obtain ⟨⟨r1, e1⟩, k1, k2⟩ := Option.bind_eq_some_iff.mp hf
  obtain ⟨d, k3, k4⟩ := Option.bind_eq_some_iff.mp k2
  obtain ⟨b', k5, k6⟩ := Option.map_eq_some_iff.mp k4
  cases k6
  exact ⟨B, w, e, r1, e1, hH, st, k1, fun v w1 s1 l1 p1 => ⟨b, tru_of s1.sub (look_ok s1 k3 p1) k5, q w1 s1 l1⟩⟩
def gAnd (f g : FT) : FT := fun e => (f e).bind fun p => if p.1 = true then g p.2 else some (false, p.2)
def gOr (f g : FT) : FT := fun e => (f e).bind fun p => if p.1 = true then some (true, p.2) else g p.2
def gNot (f : FT) : FT := fun e => (f e).map fun p => (!p.1, p.2)
theorem tt_two {K : PySem.W.Frag} {f g : FT} {σ : L2.St} {H : Hp} {Q : Bool → Hp → Prop} {k : Bool} (q : tT K (fun e => (f e).bind fun p => if p.1 = k then g p.2 else some (p.1, p.2)) σ H Q) :
    tT K f σ H fun c H1 => if c = k then tT K g σ H1 Q else Q c H1 := by
  obtain ⟨B, w, e, b, e', hH, st, hf, q⟩ := q
  obtain ⟨⟨b1, e1⟩, k1, k2⟩ := Option.bind_eq_some_iff.mp hf
  refine ⟨B, w, e, b1, e1, hH, st, k1, fun w1 s1 l1 => ?_⟩
  by_cases z : b1 = k
  · simp only [z, if_pos] at k2 ⊢
    exact ⟨B, w1, e1, b, e', rfl, s1, k2, fun w2 s2 l2 => q w2 s2 (l1.trans l2)⟩
  · simp only [z, if_false] at k2 ⊢
    cases k2
    exact q w1 s1 l1
theorem w_and1 (ha : PT X a (tT X.K ta)) : PW X (.BoolOp .And [a] pos) (tT X.K ta) := pw_and1 ha
theorem w_or1 (ha : PT X a (tT X.K ta)) : PW X (.BoolOp .Or [a] pos) (tT X.K ta) := pw_or1 ha
theorem w_and (ha : PT X a (tT X.K ta)) (hb : PW X (.BoolOp .And (b :: rest) pos) (tT X.K tb)) : PW X (.BoolOp .And (a :: b :: rest) pos) (tT X.K (gAnd ta tb)) := by
  refine ⟨fun wh pins s σ H Q I h => (pw_and ha hb).run wh pins s σ H Q I ?_⟩
  have h' : tT X.K (fun e => (ta e).bind fun p => if p.1 = true then tb p.2 else some (p.1, p.2)) σ H Q := by
    have e : gAnd ta tb = fun e => (ta e).bind fun p => if p.1 = true then tb p.2 else some (p.1, p.2) := by
      funext e
      unfold gAnd
      congr 1
      funext p
      obtain ⟨p1, p2⟩ := p
      cases p1 <;> rfl
    rw [← e]; exact h
  obtain ⟨B, w, e, b, e', hH, st, hf, q⟩ := tt_two h'
  refine ⟨B, w, e, b, e', hH, st, hf, fun w1 s1 l1 => ?_⟩
  have z := q w1 s1 l1
  cases b <;> exact z
theorem w_or (ha : PT X a (tT X.K ta)) (hb : PW X (.BoolOp .Or (b :: rest) pos) (tT X.K tb)) : PW X (.BoolOp .Or (a :: b :: rest) pos) (tT X.K (gOr ta tb)) := by
  refine ⟨fun wh pins s σ H Q I h => (pw_or ha hb).run wh pins s σ H Q I ?_⟩
  have h' : tT X.K (fun e => (ta e).bind fun p => if p.1 = false then tb p.2 else some (p.1, p.2)) σ H Q := by
    have e : gOr ta tb = fun e => (ta e).bind fun p => if p.1 = false then tb p.2 else some (p.1, p.2) := by
      funext e
      unfold gOr
      congr 1
      funext p
      obtain ⟨p1, p2⟩ := p
      cases p1 <;> rfl
    rw [← e]; exact h
  obtain ⟨B, w, e, b, e', hH, st, hf, q⟩ := tt_two h'
  refine ⟨B, w, e, b, e', hH, st, hf, fun w1 s1 l1 => ?_⟩
  have z := q w1 s1 l1
  cases b <;> exact z
theorem t_not (ha : PT X a (tT X.K ta)) : PT X (.UnaryOp .Not a pos) (tT X.K (gNot ta)) := by
  refine pt_imp (pt_not ha) fun σ H Q ⟨B, w, e, b, e', hH, st, hf, q⟩ => ?_
  obtain ⟨⟨b1, e1⟩, k1, k2⟩ := Option.map_eq_some_iff.mp hf
  cases k2
  exact ⟨B, w, e, b1, e1, hH, st, k1, q⟩
def fIf (t : FT) (f g : FE) : FE := fun e => (t e).bind fun p => if p.1 = true then f p.2 else g p.2
theorem d_if (ht : PT X c (tT X.K tc)) (ha : PE X a (tE X.K fa)) (hb : PE X b (tE X.K fb)) : PE X (.IfExp c a b pos) (tE X.K (fIf tc fa fb)) := by
  refine pe_imp (pe_ifExp ht ha hb) fun σ H Q ⟨B, w, e, r, e', hH, st, hf, q⟩ => ?_
  obtain ⟨⟨b1, e1⟩, k1, k2⟩ := Option.bind_eq_some_iff.mp hf
  refine ⟨B, w, e, b1, e1, hH, st, k1, fun w1 s1 l1 => ?_⟩
  by_cases z : b1 = true
  · simp only [z, if_true] at k2 ⊢
    exact ⟨B, w1, e1, r, e', rfl, s1, k2, fun v2 w2 s2 l2 => q v2 w2 s2 (l1.trans l2)⟩
  · simp only [z, if_false] at k2 ⊢
    exact ⟨B, w1, e1, r, e', rfl, s1, k2, fun v2 w2 s2 l2 => q v2 w2 s2 (l1.trans l2)⟩
/-- low <= x < high and the like -/
def fChain (op op' : D → D → Option Res) (f g h : FE) : FV := fun e =>
  (f e).bind fun p => (g p.2).bind fun q => (look q.2 p.1).bind fun a => (look q.2 q.1).bind fun b => match op a b with
    | some (.val (.bool true)) => (h q.2).bind fun r => (look r.2 q.1).bind fun b => (look r.2 r.1).bind fun c => (op' b c).map fun z => (z, r.2)
    | some (.val (.bool false)) => some (.val (.bool false), q.2)
    | _ => none
theorem chain_run {r r' : R2} {op op' : D → D → Option Res} (h : R2Is X.K r op) (h' : R2Is X.K r' op') {σ : L2.St} {H : Hp} {Q : VK} (q : tV X.K (fChain op op' fa fb fc) σ H Q) : tChain r r' (tE X.K fa) (tE X.K fb) (tE X.K fc) σ H Q := by
  obtain ⟨B, w, e, res, e', hH, st, hf, q⟩ := q
  obtain ⟨⟨r1, e1⟩, k1, k2⟩ := Option.bind_eq_some_iff.mp hf
  obtain ⟨⟨r2, e2⟩, k3, k4⟩ := Option.bind_eq_some_iff.mp k2
  obtain ⟨d1, k5, k6⟩ := Option.bind_eq_some_iff.mp k4
  obtain ⟨d2, k7, k8⟩ := Option.bind_eq_some_iff.mp k6
  refine ⟨B, w, e, r1, e1, hH, st, k1, fun v1 w1 s1 l1 p1 => ?_⟩
  refine ⟨B, w1, e1, r2, e2, rfl, s1, k3, fun v2 w2 s2 l2 p2 => ?_⟩
  cases ho : op d1 d2 with
  | none => simp only [ho] at k8; cases k8
  | some z =>
    simp only [ho] at k8
    cases z with
    | fresh l => cases k8
    | val z =>
      cases z <;> try cases k8
      rename_i z
      refine h.run s2 (look_ok s2 k5 (p1.later l2)) (look_ok s2 k7 p2) ho fun v w3 s3 l3 ok => ?_
      have ok' : Dq X.K w3.F v (.bool z) := ok
      cases ok'
      refine ⟨z, rfl, ?_⟩
      cases z with
      | false =>
        cases k8
        exact q _ w3 s3 ((l1.trans l2).trans l3) (Dq.bl _)
      | true =>
        obtain ⟨⟨r3, e3⟩, j1, j2⟩ := Option.bind_eq_some_iff.mp k8
        obtain ⟨d3, j3, j4⟩ := Option.bind_eq_some_iff.mp j2
        obtain ⟨d4, j5, j6⟩ := Option.bind_eq_some_iff.mp j4
        obtain ⟨zz, j7, j8⟩ := Option.map_eq_some_iff.mp j6
        cases j8
        have l123 := (l1.trans l2).trans l3
        refine ⟨B, w3, e2, r3, e3, rfl, s3, j1, fun v4 w4 s4 l4 p4 => ?_⟩
        exact h'.run s4 (look_ok s4 j3 (p2.later (l3.trans l4))) (look_ok s4 j5 p4) j7 fun v w5 s5 l5 ok => q v w5 s5 ((l123.trans l4).trans l5) (ok.mono fun a z => l123.dom a (l4.dom a z))
theorem d_chain {op op' : CmpOp} {r r' : R2} {f f' : D → D → Option Res} (ho : OpR X (compareOp op) r) (h : R2Is X.K r f) (ho' : OpR X (compareOp op') r') (h' : R2Is X.K r' f') (ha : PE X a (tE X.K fa)) (hb : PE X b (tE X.K fb)) (hc : PE X c (tE X.K fc))
    (hm : lastMarks [op, op'] [b, c] = false) : PE X (.Compare a [op, op'] [b, c] pos) (tV X.K (fChain f f' fa fb fc)) := pe_imp (pe_chain ho ho' ha hb hc hm) fun _ _ _ q => chain_run h h' q
theorem t_chain {op op' : CmpOp} {r r' : R2} {f f' : D → D → Option Res} (ho : OpR X (compareOp op) r) (h : R2Is X.K r f) (ho' : OpR X (compareOp op') r') (h' : R2Is X.K r' f') (ha : PE X a (tE X.K fa)) (hb : PE X b (tE X.K fb)) (hc : PE X c (tE X.K fc))
    (hm : lastMarks [op, op'] [b, c] = false) : PT X (.Compare a [op, op'] [b, c] pos) (tT X.K (fTestV (fChain f f' fa fb fc))) := pt_imp (pt_chain ho ho' ha hb hc hm) fun _ _ _ q => chain_run h h' (test_run q)
end
/-! ### arguments, displays -/
section
variable {X : Cx} {a : Expr} {es : List Expr} {f : FE} {fs : FA} {pos : Pos}
def fNil : FA := fun e => some ([], e)
def fCons (f : FE) (g : FA) : FA := fun e => (f e).bind fun p => (g p.2).map fun q => (p.1 :: q.1, q.2)
theorem a_nil : PA X [] (tA X.K fNil) := by
  refine pa_imp pa_nil fun σ H Q ⟨B, w, e, rs, e', hH, st, hf, q⟩ => ?_
  cases hf
  subst hH
  exact q [] w st (Le.refl w) trivial
theorem a_cons (ha : PE X a (tE X.K f)) (hr : PA X es (tA X.K fs)) (hs : starEach (a :: es) X.env = (false, eval a X.env) :: starEach es X.env := by rfl) : PA X (a :: es) (tA X.K (fCons f fs)) := by
  refine pa_imp (pa_cons ha hr hs) fun σ H Q ⟨B, w, e, rs, e', hH, st, hf, q⟩ => ?_
  obtain ⟨⟨r1, e1⟩, k1, k2⟩ := Option.bind_eq_some_iff.mp hf
  obtain ⟨⟨r2, e2⟩, k3, k4⟩ := Option.map_eq_some_iff.mp k2
  cases k4
  refine ⟨B, w, e, r1, e1, hH, st, k1, fun v1 w1 s1 l1 p1 => ?_⟩
  exact ⟨B, w1, e1, r2, e2, rfl, s1, k3, fun v2 w2 s2 l2 p2 => q (v1 :: v2) w2 s2 (l1.trans l2) ⟨p1.later l2, p2⟩⟩
def fTup (g : FA) : FV := fun e => (g e).bind fun p => (frzs p.2 p.1).bind fun q => (okLen q.1.length (.val (.tuple q.1))).map fun r => (r, q.2)
def fLst (g : FA) : FV := fun e => (g e).bind fun p => (frzs p.2 p.1).bind fun q => (okLen q.1.length (.fresh (.list q.1))).map fun r => (r, q.2)
theorem d_tup {k} (h : PA X es (tA X.K fs)) : PE X (.Tuple es k pos) (tV X.K (fTup fs)) := by
  refine pe_imp (pe_tup h) fun σ H Q ⟨B, w, e, r, e', hH, st, hf, q⟩ => ?_
  obtain ⟨⟨rs, e1⟩, k1, k2⟩ := Option.bind_eq_some_iff.mp hf
  obtain ⟨⟨ds, e2⟩, k3, k4⟩ := Option.bind_eq_some_iff.mp k2
  obtain ⟨rr, k5, k6⟩ := Option.map_eq_some_iff.mp k4
  cases k6
  obtain ⟨hz, k7⟩ := okLen_some k5
  subst k7
  refine ⟨B, w, e, rs, e1, hH, st, k1, fun vs w1 s1 l1 p1 => ?_⟩
  obtain ⟨w2, j1, s2, l2, dd⟩ := frzs_ok s1 k3 p1
  refine ⟨sz_le (by rw [da_len dd]; exact hz), fun p np => ?_⟩
  have z := res_tup s2 dd (Q := Q) (fun v w3 s3 l3 ok => q v w3 s3 ((l1.trans l2).trans l3) ok) p (by rw [j1]; exact np)
  rw [j1] at z
  exact z
theorem d_lst (h : PA X es (tA X.K fs)) : PE X (.List es pos) (tV X.K (fLst fs)) := by
  refine pe_imp (pe_lst h) fun σ H Q ⟨B, w, e, r, e', hH, st, hf, q⟩ => ?_
  obtain ⟨⟨rs, e1⟩, k1, k2⟩ := Option.bind_eq_some_iff.mp hf
  obtain ⟨⟨ds, e2⟩, k3, k4⟩ := Option.bind_eq_some_iff.mp k2
  obtain ⟨rr, k5, k6⟩ := Option.map_eq_some_iff.mp k4
  cases k6
  obtain ⟨hz, k7⟩ := okLen_some k5
  subst k7
  refine ⟨B, w, e, rs, e1, hH, st, k1, fun vs w1 s1 l1 p1 => ?_⟩
  obtain ⟨w2, j1, s2, l2, dd⟩ := frzs_ok s1 k3 p1
  refine ⟨sz_le (by rw [da_len dd]; exact hz), fun p np => ?_⟩
  have z := res_lst s2 dd (Q := Q) (fun v w3 s3 l3 ok => q v w3 s3 ((l1.trans l2).trans l3) (ok.mono fun a z => l1.dom a (l2.dom a z))) p (by rw [j1]; exact np)
  rw [j1] at z
  exact z
end
end DL

set_option Elab.async false
set_option linter.all false
set_option maxRecDepth 100000
set_option maxHeartbeats 1000000
/-! DL5: subscripts, slices, built-in calls. -/
namespace DL
open PySem PySem.Spec PyProof.Rows L2

/-! ### subscripts -/
def sIx : D → D → Option Res
  | .list l, .int i => (atI l i).map .val
  | .tuple l, .int i => (atI l i).map .val
  | _, _ => none
theorem at_of {K : PySem.W.Frag} {H : Hp} {vs : List V} {ds : List D} {i : Int} {d : D} (h : Da K H vs ds) (q : atI ds i = some d) : ∃ v, atI vs i = some v ∧ Dq K H v d := by
  unfold atI at q ⊢
  rw [da_len h]
  obtain ⟨j, k1, k2⟩ := Option.bind_eq_some_iff.mp q
  obtain ⟨v, k3, k4⟩ := da_get h k2
  exact ⟨v, by rw [k1]; exact k3, k4⟩
theorem r_ix {K} : R2Is K (rIx K) sIx := by
  constructor
  intro B w σ e x y a b res Q st h1 h2 q k
  cases a <;> try cases q
  · cases b <;> try cases q
    obtain ⟨d, k1, k2⟩ := Option.map_eq_some_iff.mp q
    subst k2
    obtain ⟨p, vs, e1, e2, e3⟩ := h1.list st.sub
    obtain ⟨v, k3, k4⟩ := at_of e3 k1
    exact .inl ⟨p, vs, _, v, e1, h2.int, la_sql e2, k3, k v w st (Le.refl w) k4⟩
  · cases b <;> try cases q
    obtain ⟨d, k1, k2⟩ := Option.map_eq_some_iff.mp q
    subst k2
    obtain ⟨p, vs, e1, e2, e3⟩ := h1.tuple st.sub
    obtain ⟨v, k3, k4⟩ := at_of e3 k1
    exact .inr (.inl ⟨p, vs, _, v, e1, h2.int, e2, k3, k v w st (Le.refl w) k4⟩)
section
variable {X : Cx} {a b : Expr} {fa fb : FE} {pos p2 : Pos} {lo hi : Option Expr}
theorem d_ix (ha : PE X a (tE X.K fa)) (hb : PE X b (tE X.K fb)) (hs : PlainIx b) : PE X (.Subscript a b pos) (tV X.K (fBin sIx fa fb)) := pe_imp (pe_ix ix_seq ha hb hs) fun _ _ _ q => bin_run r_ix q

/-! ### slices -/
abbrev FO := En → Option (Option Int × En)
def fNo : FO := fun e => some (none, e)
def fAt (f : FE) : FO := fun e => (f e).bind fun p => match look p.2 p.1 with
  | some (.int i) => some (some i, p.2)
  | _ => none
def tO (K : PySem.W.Frag) (f : FO) : TO := fun σ H Q => ∃ B w e o e', w.H = H ∧ Stt K B w σ e ∧ f e = some (o, e') ∧ ∀ w', Stt K B w' σ e' → Le w w' → Q o w'.H
theorem o_imp {x : Option Expr} {t u : TO} (h : PO X x t) (q : ∀ σ H Q, u σ H Q → t σ H Q) : PO X x u := ⟨fun pins s σ H Q I hw => h.run pins s σ H Q I (q _ _ _ hw)⟩
theorem o_none : PO X none (tO X.K fNo) := o_imp po_none fun σ H Q ⟨B, w, e, o, e', hH, st, hf, q⟩ => by
  cases hf
  subst hH
  exact q w st (Le.refl w)
theorem o_some (h : PE X a (tE X.K fa)) : PO X (some a) (tO X.K (fAt fa)) := o_imp (po_some h) fun σ H Q ⟨B, w, e, o, e', hH, st, hf, q⟩ => by
  obtain ⟨⟨r1, e1⟩, k1, k2⟩ := Option.bind_eq_some_iff.mp hf
  refine ⟨B, w, e, r1, e1, hH, st, k1, fun v w1 s1 l1 p1 => ?_⟩
  cases hl : look e1 r1 with
  | none => simp only [hl] at k2; cases k2
  | some d =>
    have t := look_ok s1 hl p1
    simp only [hl] at k2
    cases d <;> try cases k2
    exact ⟨_, t.int, q w1 s1 l1⟩
def cutD (ds : List D) (lo hi : Option Int) : List D := (ds.drop (HT.sIx ds.length 0 lo)).take (HT.sIx ds.length ds.length hi - HT.sIx ds.length 0 lo)
theorem cut_of {K : PySem.W.Frag} {H : Hp} {vs : List V} {ds : List D} (lo hi : Option Int) (h : Da K H vs ds) : Da K H (cutV vs lo hi) (cutD ds lo hi) := by
  unfold cutV cutD
  rw [da_len h]
  exact da_take _ (da_drop _ h)
theorem cut_all {ds : List D} {lo hi : Option Int} (h : HT.sIx ds.length 0 lo = 0 ∧ HT.sIx ds.length ds.length hi = ds.length) : cutD ds lo hi = ds := by
  unfold cutD
  rw [h.1, h.2]
  simp
/-- xs[lo:hi] -/
def sCut : D → Option Int → Option Int → Option Res
  | .list l, lo, hi => some (.fresh (.list (cutD l lo hi)))
  | .tuple l, lo, hi => some (.val (.tuple (cutD l lo hi)))
  | _, _, _ => none
def fCut (f : FE) (g h : FO) : FV := fun e => (f e).bind fun p => (g p.2).bind fun q => (h q.2).bind fun r => (look r.2 p.1).bind fun a => (sCut a q.1 r.1).map fun z => (z, r.2)
def rSlR (K : PySem.W.Frag) : V → Option Int → Option Int → Hp → VK → Prop := fun x lo hi H Q => rSlL K x lo hi H Q ∨ rSlA K x lo hi H Q
theorem d_cut {fl fh : FO} (ha : PE X a (tE X.K fa)) (hl : PO X lo (tO X.K fl)) (hh : PO X hi (tO X.K fh)) : PE X (.Subscript a (.Slice lo hi none p2) pos) (tV X.K (fCut fa fl fh)) := by
  refine pe_imp (pe_slice (sl_list.or sl_tupA) ha hl hh) fun σ H Q ⟨B, w, e, r, e', hH, st, hf, q⟩ => ?_
  obtain ⟨⟨r1, e1⟩, k1, k2⟩ := Option.bind_eq_some_iff.mp hf
  obtain ⟨⟨o1, e2⟩, k3, k4⟩ := Option.bind_eq_some_iff.mp k2
  obtain ⟨⟨o2, e3⟩, k5, k6⟩ := Option.bind_eq_some_iff.mp k4
  obtain ⟨d, k7, k8⟩ := Option.bind_eq_some_iff.mp k6
  obtain ⟨z, k9, k10⟩ := Option.map_eq_some_iff.mp k8
  cases k10
  refine ⟨B, w, e, r1, e1, hH, st, k1, fun v w1 s1 l1 p1 => ?_⟩
  refine ⟨B, w1, e1, o1, e2, rfl, s1, k3, fun w2 s2 l2 => ?_⟩
  refine ⟨B, w2, e2, o2, e3, rfl, s2, k5, fun w3 s3 l3 => ?_⟩
  have t := look_ok s3 k7 (p1.later (l2.trans l3))
  have l13 := (l1.trans l2).trans l3
  have qq : ∀ v w', Stt X.K B w' σ e3 → Le w3 w' → ResOK X.K w3.H w' v r → Q v w'.H := fun v w4 s4 l4 ok => q v w4 s4 (l13.trans l4) (ok.mono fun a z => l13.dom a z)
  cases d <;> try cases k9
  · obtain ⟨p, vs, j1, j2, j3⟩ := t.list s3.sub
    exact .inl ⟨p, vs, j1, la_sql j2, fun c nc => res_lst s3 (cut_of o1 o2 j3) qq c nc⟩
  · obtain ⟨p, vs, j1, j2, j3⟩ := t.tuple s3.sub
    refine .inr ⟨p, vs, j1, j2, fun hw => ?_, fun _ c nc => res_tup s3 (cut_of o1 o2 j3) qq c nc⟩
    subst j1
    refine qq _ w3 s3 (Le.refl w3) ?_
    rw [da_len j3] at hw
    rw [cut_all hw]
    rcases t with t | ⟨_, _, _, _, z⟩
    · exact t
    · cases z
/-! xs[::-1] -/
def sRev : D → Option Res
  | .list l => some (.fresh (.list l.reverse))
  | .tuple l => some (.val (.tuple l.reverse))
  | _ => none
def fUn (op : D → Option Res) (f : FE) : FV := fun e => (f e).bind fun p => (look p.2 p.1).bind fun a => (op a).map fun z => (z, p.2)
end

/-! ### built-in calls -/
def looks (e : En) : List R → Option (List D)
  | [] => some []
  | r :: rs => (look e r).bind fun d => (looks e rs).map fun ds => d :: ds
def DTs (K : PySem.W.Frag) (w : Wd) : List V → List D → Prop
  | [], [] => True
  | v :: vs, d :: ds => DpT K w v d ∧ DTs K w vs ds
  | _, _ => False
theorem looks_ok {K : PySem.W.Frag} {B : Bd} {w : Wd} {σ : L2.St} {e : En} (st : Stt K B w σ e) : ∀ {rs : List R} {vs : List V} {ds : List D}, looks e rs = some ds → RepRs K w σ vs rs → DTs K w vs ds
  | [], [], _, q, _ => by cases q; trivial
  | r :: rs, v :: vs, _, q, p => by
    obtain ⟨d, k1, k2⟩ := Option.bind_eq_some_iff.mp q
    obtain ⟨ds, k3, k4⟩ := Option.map_eq_some_iff.mp k2
    cases k4
    exact ⟨look_ok st k1 p.1, looks_ok st k3 p.2⟩
  | [], _ :: _, _, _, p => p.elim
  | _ :: _, [], _, _, p => p.elim
/-- a call by values does what op says -/
structure RCIs (K : PySem.W.Frag) (r : List V → Hp → VK → Prop) (op : List D → Option Res) : Prop where
  run : ∀ {B : Bd} {w : Wd} {σ : L2.St} {e : En} {vs : List V} {ds : List D} {res : Res} {Q : VK}, Stt K B w σ e → DTs K w vs ds → op ds = some res →
    (∀ v w', Stt K B w' σ e → Le w w' → ResOK K w.H w' v res → Q v w'.H) → r vs w.H Q
def fBlt (op : List D → Option Res) (g : FA) : FV := fun e => (g e).bind fun p => (looks p.2 p.1).bind fun ds => (op ds).map fun z => (z, p.2)
section
variable {X : Cx} {a : Expr} {es : List Expr} {fs : FA} {pos p : Pos} {x : Str} {id T : String} {r : List V → Hp → VK → Prop} {op : List D → Option Res}
theorem blt_run {K : PySem.W.Frag} (h : RCIs K r op) {σ : L2.St} {H : Hp} {Q : VK} (q : tV K (fBlt op fs) σ H Q) : tCB r (tA K fs) σ H Q := by
  obtain ⟨B, w, e, res, e', hH, st, hf, q⟩ := q
  obtain ⟨⟨rs, e1⟩, k1, k2⟩ := Option.bind_eq_some_iff.mp hf
  obtain ⟨ds, k3, k4⟩ := Option.bind_eq_some_iff.mp k2
  obtain ⟨z, k5, k6⟩ := Option.map_eq_some_iff.mp k4
  cases k6
  exact ⟨B, w, e, rs, e1, hH, st, k1, fun vs w1 s1 l1 p1 => h.run s1 (looks_ok s1 k3 p1) k5 fun v w2 s2 l2 ok => q v w2 s2 (l1.trans l2) (ok.mono fun a z => l1.dom a z)⟩
theorem d_blt (hc : CallR X (.builtin id) r) (h : RCIs X.K r op) (hg : Gl X x) (hm : X.mg x = none) (hv : bootBuiltins x = some (.builtin id)) (ha : PA X (a :: es) (tA X.K fs)) (hn : x ≠ "__name__" := by decide) (hdb : (x == ("__debug__" : Str)) = false := by decide)
    (he : starEach (a :: es) X.env = (false, eval a X.env) :: starEach es X.env := by rfl) (hpl : (backTo pos (starEach es X.env)).any (·.1) = false := by rfl) : PE X (.Call (.Name x p) (a :: es) [] pos) (tV X.K (fBlt op fs)) :=
  pe_imp (pe_callB hc hg hm hv ha hn hdb he hpl) fun _ _ _ q => blt_run h q
theorem d_ty (hc : CallR X (.type T) r) (h : RCIs X.K r op) (hg : Gl X x) (hm : X.mg x = none) (hv : bootBuiltins x = some (.type T)) (ha : PA X (a :: es) (tA X.K fs)) (hn : x ≠ "__name__" := by decide) (hdb : (x == ("__debug__" : Str)) = false := by decide)
    (he : starEach (a :: es) X.env = (false, eval a X.env) :: starEach es X.env := by rfl) (hpl : (backTo pos (starEach es X.env)).any (·.1) = false := by rfl) : PE X (.Call (.Name x p) (a :: es) [] pos) (tV X.K (fBlt op fs)) :=
  pe_imp (pe_callTy hc hg hm hv ha hn hdb he hpl) fun _ _ _ q => blt_run h q
end
theorem dts1 {K : PySem.W.Frag} {w : Wd} {vs : List V} {d : D} (h : DTs K w vs [d]) : ∃ v, vs = [v] ∧ DpT K w v d := by
  cases vs with
  | nil => exact h.elim
  | cons v r =>
    cases r with
    | nil => exact ⟨v, rfl, h.1⟩
    | cons _ _ => exact h.2.elim
theorem dts2 {K : PySem.W.Frag} {w : Wd} {vs : List V} {d c : D} (h : DTs K w vs [d, c]) : ∃ v u, vs = [v, u] ∧ DpT K w v d ∧ DpT K w u c := by
  cases vs with
  | nil => exact h.elim
  | cons v r =>
    obtain ⟨u, e, k⟩ := dts1 h.2
    subst e
    exact ⟨v, u, rfl, h.1, k⟩
def one (f : D → Option Res) : List D → Option Res
  | [d] => f d
  | _ => none
theorem rc_one {K : PySem.W.Frag} {r : List V → Hp → VK → Prop} {f : D → Option Res} (h : ∀ {B : Bd} {w : Wd} {σ : L2.St} {e : En} {v : V} {d : D} {res : Res} {Q : VK}, Stt K B w σ e → DpT K w v d → f d = some res →
    (∀ v w', Stt K B w' σ e → Le w w' → ResOK K w.H w' v res → Q v w'.H) → r [v] w.H Q) : RCIs K r (one f) := by
  constructor
  intro B w σ e vs ds res Q st hd q k
  cases ds with
  | nil => cases q
  | cons d ds =>
    cases ds with
    | cons _ _ => cases q
    | nil =>
      obtain ⟨v, e1, t⟩ := dts1 hd
      subst e1
      exact h st t q k
/-- len -/
def sLen : D → Option Res := fun d => (seqOf d).map fun l => .val (.int l.length)
theorem rc_len {K} : RCIs K (fun xs H Q => ∃ x n, xs = [x] ∧ LenV K x H n ∧ Q (.int n) H) (one sLen) := rc_one fun {B w σ e v d res Q} st t q k => by
  obtain ⟨l, k1, k2⟩ := Option.map_eq_some_iff.mp q
  subst k2
  obtain ⟨a, vs, e1, e2, e3⟩ := seq_of st.sub t k1
  subst e1
  refine ⟨.ref a, vs.length, rfl, ?_, k _ w st (Le.refl w) ?_⟩
  · rcases e2 with e2 | e2
    · exact .inl ⟨vs, la_sql e2, rfl⟩
    · exact .inr ⟨vs, e2, rfl⟩
  · rw [da_len e3]
    exact Dq.int _
/-- int -/
def sInt : D → Option Res
  | .int i => some (.val (.int i))
  | _ => none
theorem rc_int {K} : RCIs K (fun xs H Q => (∃ i, xs = [.int i] ∧ Q (.int i) H) ∨ ∃ k, xs = [.bl k] ∧ Q (.int (if k then 1 else 0)) H) (one sInt) := rc_one fun {B w σ e v d res Q} st t q k => by
  cases d <;> try cases q
  rw [t.int]
  exact .inl ⟨_, rfl, k _ w st (Le.refl w) (Dq.int _)⟩
/-- max, min of two -/
def twoI (g : Int → Int → D) : List D → Option Res
  | [.int i, .int j] => some (.val (g i j))
  | _ => none
def sMax2 : List D → Option Res := twoI fun i j => .int (if j > i then j else i)
def sMin2 : List D → Option Res := twoI fun i j => .int (if j < i then j else i)
theorem two_ints {K : PySem.W.Frag} {w : Wd} {vs : List V} {ds : List D} {g : Int → Int → D} {res : Res} (h : DTs K w vs ds) (q : twoI g ds = some res) : ∃ i j, vs = [.int i, .int j] ∧ res = .val (g i j) := by
  unfold twoI at q
  split at q
  · cases q
    rename_i i j
    obtain ⟨v, u, e1, t1, t2⟩ := dts2 h
    exact ⟨i, j, by rw [e1, t1.int, t2.int], rfl⟩
  · cases q
theorem rc_max2 {K} : RCIs K (fun xs H Q => ∃ i j, xs = [.int i, .int j] ∧ Q (.int (if j > i then j else i)) H) sMax2 := by
  constructor
  intro B w σ e vs ds res Q st h q k
  obtain ⟨i, j, e1, e2⟩ := two_ints h q
  subst e2
  exact ⟨i, j, e1, k _ w st (Le.refl w) (Dq.int _)⟩
theorem rc_min2 {K} : RCIs K (fun xs H Q => ∃ i j, xs = [.int i, .int j] ∧ Q (.int (if j < i then j else i)) H) sMin2 := by
  constructor
  intro B w σ e vs ds res Q st h q k
  obtain ⟨i, j, e1, e2⟩ := two_ints h q
  subst e2
  exact ⟨i, j, e1, k _ w st (Le.refl w) (Dq.int _)⟩
/-- the ints of a list, the bools -/
def intsOf : List D → Option (List Int)
  | [] => some []
  | .int i :: r => (intsOf r).map fun l => i :: l
  | _ :: _ => none
def boolsOf : List D → Option (List Bool)
  | [] => some []
  | .bool i :: r => (boolsOf r).map fun l => i :: l
  | _ :: _ => none
theorem intsOf_eq : ∀ {ds : List D} {ns : List Int}, intsOf ds = some ns → ds = ns.map PyData.int
  | [], ns, h => by cases h; rfl
  | d :: ds, ns, h => by
    cases d <;> try cases h
    obtain ⟨l, k1, k2⟩ := Option.map_eq_some_iff.mp h
    subst k2
    rw [intsOf_eq k1]
    rfl
theorem boolsOf_eq : ∀ {ds : List D} {ns : List Bool}, boolsOf ds = some ns → ds = ns.map PyData.bool
  | [], ns, h => by cases h; rfl
  | d :: ds, ns, h => by
    cases d <;> try cases h
    obtain ⟨l, k1, k2⟩ := Option.map_eq_some_iff.mp h
    subst k2
    rw [boolsOf_eq k1]
    rfl
theorem intsOf_map (ns : List Int) : intsOf (ns.map PyData.int) = some ns := by
  induction ns with
  | nil => rfl
  | cons n ns ih => simp only [List.map_cons, intsOf, ih, Option.map_some]
theorem boolsOf_map (ns : List Bool) : boolsOf (ns.map PyData.bool) = some ns := by
  induction ns with
  | nil => rfl
  | cons n ns ih => simp only [List.map_cons, boolsOf, ih, Option.map_some]
/-- sum: of a list or a tuple of ints -/
def sSum : D → Option Res := fun d => (seqOf d).bind fun l => (intsOf l).map fun ns => .val (.int ns.sum)
def rSumA (K : PySem.W.Frag) : List V → Hp → VK → Prop := fun vs H Q => ∃ (a : Addr) (ns : List Int), vs = [V.ref a] ∧ (SqL K H a (ns.map V.int) ∨ SqT K H a (ns.map V.int)) ∧ Q (.int ns.sum) H
section
variable {X : Cx}
theorem sum_tup {prog : Program} {w : World} {A : Around} {E : Value → Shared → Prop} {s : Shared} {l : Addr} {its : List Value} {ns : List Int} {Q : Value → Shared → Prop} (hh : A.handled = none) (hl : s.heap.IsTuple l its.toArray) (hi : IntsAre its ns)
    (h : ∀ h' tk t', (∀ b o, s.heap.get? b = some o → h'.get? b = some o) → Q (.int ns.sum t') { s with heap := h', toks := tk }) : wpAny (model prog w) A (call (.builtin "sum") [.ref l]) Q E s := by
  obtain ⟨xs, e⟩ := hi.allInts.items
  have hn : numsOf (intItems xs).toList = ns := by rw [← e]; exact hi.numsOf
  rw [nums_intItems] at hn
  rw [e] at hl
  have hlt : l < s.heap.objs.size := by obtain ⟨_, e, _⟩ := hl; exact Heap.lt_size e
  refine call_sum_walkG (wpAny_pyIter_tuple hl ?_)
  refine ⟨s.heap.objs.size, _, _, _, _, _, numAt xs, rfl, Walks.tuple (A := A.in1) hh _ l (Nat.ne_of_lt hlt) (intItems xs), ⟨⟨_, Heap.get?_push_size _ rfl, rfl, rfl⟩, hl.push _⟩, fun b hb => ?_, (fun _ _ => intItems_at), fun h' tk t' hk => ?_⟩
  · show b < (s.heap.push _).objs.size
    rw [Heap.size_push]
    rcases List.mem_cons.mp hb with e1 | e1
    · rw [e1]; exact Nat.lt_succ_self _
    · rcases List.mem_cons.mp e1 with e1 | e1
      · rw [e1]; exact Nat.lt_succ_of_lt hlt
      · cases e1
  · have z := h h' tk t' fun b o eo => hk b o (fun hm => by
      rcases List.mem_cons.mp hm with e1 | e1
      · rw [e1] at eo; exact absurd (Heap.lt_size eo) (Nat.lt_irrefl _)
      · cases e1) (Heap.get?_push_of_some _ eo)
    have e2 : preSum (numAt xs) xs.size = ns.sum := by
      rw [preSum_eq, List.take_of_length_le (by simp), hn]
    simpa [intItems, e2] using z
theorem cr_sumA (hc : X.calm = true) : CallR X (.builtin "sum") (rSumA X.K) := by
  intro pins s σ H vs us Q I r ⟨a, ns, e1, hs, q⟩
  subst e1
  rcases hs with hs | hs
  · exact cr_sum hc pins s σ H _ us Q I r ⟨a, ns, rfl, hs, q⟩
  · obtain ⟨its, rv, hl, _⟩ := I.tuple hs
    rw [Vals.ref1 r]
    exact sum_tup (I.ok.hd hc) hl rv.ints fun h' tk t' hk => ⟨.int _, H, I.kept hk, ⟨_, rfl⟩, q⟩
end
theorem rc_sum {K} : RCIs K (rSumA K) (one sSum) := rc_one fun {B w σ e v d res Q} st t q k => by
  obtain ⟨l, k1, k2⟩ := Option.bind_eq_some_iff.mp q
  obtain ⟨ns, k3, k4⟩ := Option.map_eq_some_iff.mp k2
  subst k4
  obtain ⟨a, vs, e1, e2, e3⟩ := seq_of st.sub t k1
  subst e1
  rw [intsOf_eq k3] at e3
  rw [da_ints e3] at e2
  refine ⟨a, ns, rfl, ?_, k _ w st (Le.refl w) (Dq.int _)⟩
  rcases e2 with e2 | e2
  · exact .inl (la_sql e2)
  · exact .inr e2
/-- all, any of a list of bools -/
def listOf : D → Option (List D)
  | .list l => some l
  | _ => none
def sAll : D → Option Res := fun d => (listOf d).bind fun l => (boolsOf l).map fun bs => .val (.bool (bs.all id))
def sAny : D → Option Res := fun d => (listOf d).bind fun l => (boolsOf l).map fun bs => .val (.bool (bs.any id))
theorem list_of {K : PySem.W.Frag} {w : Wd} {v : V} {d : D} {l : List D} (s : Same w.F w.H) (h : DpT K w v d) (q : listOf d = some l) : ∃ a vs, v = .ref a ∧ LstAt K w.H a vs ∧ Da K w.F vs l := by
  cases d <;> try cases q
  exact h.list s
theorem rc_all {K} : RCIs K (rAll K) (one sAll) := rc_one fun {B w σ e v d res Q} st t q k => by
  obtain ⟨l, k1, k2⟩ := Option.bind_eq_some_iff.mp q
  obtain ⟨ns, k3, k4⟩ := Option.map_eq_some_iff.mp k2
  subst k4
  obtain ⟨a, vs, e1, e2, e3⟩ := list_of st.sub t k1
  subst e1
  rw [boolsOf_eq k3] at e3
  rw [da_bools e3] at e2
  exact ⟨a, ns, rfl, la_sql e2, k _ w st (Le.refl w) (Dq.bl _)⟩
theorem rc_any {K} : RCIs K (rAny K) (one sAny) := rc_one fun {B w σ e v d res Q} st t q k => by
  obtain ⟨l, k1, k2⟩ := Option.bind_eq_some_iff.mp q
  obtain ⟨ns, k3, k4⟩ := Option.map_eq_some_iff.mp k2
  subst k4
  obtain ⟨a, vs, e1, e2, e3⟩ := list_of st.sub t k1
  subst e1
  rw [boolsOf_eq k3] at e3
  rw [da_bools e3] at e2
  exact ⟨a, ns, rfl, la_sql e2, k _ w st (Le.refl w) (Dq.bl _)⟩
/-- max, min of a list of ints, not empty -/
def maxI : List Int → Int
  | [] => 0
  | [a] => a
  | a :: r => if maxI r > a then maxI r else a
def minI : List Int → Int
  | [] => 0
  | [a] => a
  | a :: r => if minI r < a then minI r else a
theorem maxI_mem : ∀ {ns : List Int}, ns ≠ [] → maxI ns ∈ ns ∧ ∀ y ∈ ns, y ≤ maxI ns
  | [], h => absurd rfl h
  | [a], _ => ⟨by simp [maxI], fun y hy => by simp at hy; subst hy; exact Int.le_refl _⟩
  | a :: b :: r, _ => by
    obtain ⟨h1, h2⟩ := maxI_mem (ns := b :: r) (by simp)
    unfold maxI
    split
    · exact ⟨List.mem_cons_of_mem _ h1, fun y hy => by
        rcases List.mem_cons.mp hy with e | e
        · omega
        · exact h2 y e⟩
    · exact ⟨List.mem_cons_self, fun y hy => by
        rcases List.mem_cons.mp hy with e | e
        · omega
        · have := h2 y e; omega⟩
theorem minI_mem : ∀ {ns : List Int}, ns ≠ [] → minI ns ∈ ns ∧ ∀ y ∈ ns, minI ns ≤ y
  | [], h => absurd rfl h
  | [a], _ => ⟨by simp [minI], fun y hy => by simp at hy; subst hy; exact Int.le_refl _⟩
  | a :: b :: r, _ => by
    obtain ⟨h1, h2⟩ := minI_mem (ns := b :: r) (by simp)
    unfold minI
    split
    · exact ⟨List.mem_cons_of_mem _ h1, fun y hy => by
        rcases List.mem_cons.mp hy with e | e
        · omega
        · exact h2 y e⟩
    · exact ⟨List.mem_cons_self, fun y hy => by
        rcases List.mem_cons.mp hy with e | e
        · omega
        · have := h2 y e; omega⟩
def sMax : D → Option Res := fun d => (listOf d).bind fun l => (intsOf l).bind fun ns => if ns.isEmpty then none else some (.val (.int (maxI ns)))
def sMin : D → Option Res := fun d => (listOf d).bind fun l => (intsOf l).bind fun ns => if ns.isEmpty then none else some (.val (.int (minI ns)))
theorem rc_max {K} : RCIs K (rMax K) (one sMax) := rc_one fun {B w σ e v d res Q} st t q k => by
  obtain ⟨l, k1, k2⟩ := Option.bind_eq_some_iff.mp q
  obtain ⟨ns, k3, k4⟩ := Option.bind_eq_some_iff.mp k2
  split at k4
  · cases k4
  · rename_i hne
    cases k4
    have hne' : ns ≠ [] := fun z => hne (by rw [z]; rfl)
    obtain ⟨a, vs, e1, e2, e3⟩ := list_of st.sub t k1
    subst e1
    rw [intsOf_eq k3] at e3
    rw [da_ints e3] at e2
    refine ⟨a, ns, rfl, la_sql e2, List.length_pos_iff.mpr hne', fun m hm hle => ?_⟩
    obtain ⟨h1, h2⟩ := maxI_mem hne'
    have e : m = maxI ns := Int.le_antisymm (h2 m hm) (hle _ h1)
    rw [e]
    exact k _ w st (Le.refl w) (Dq.int _)
theorem rc_min {K} : RCIs K (rMin K) (one sMin) := rc_one fun {B w σ e v d res Q} st t q k => by
  obtain ⟨l, k1, k2⟩ := Option.bind_eq_some_iff.mp q
  obtain ⟨ns, k3, k4⟩ := Option.bind_eq_some_iff.mp k2
  split at k4
  · cases k4
  · rename_i hne
    cases k4
    have hne' : ns ≠ [] := fun z => hne (by rw [z]; rfl)
    obtain ⟨a, vs, e1, e2, e3⟩ := list_of st.sub t k1
    subst e1
    rw [intsOf_eq k3] at e3
    rw [da_ints e3] at e2
    refine ⟨a, ns, rfl, la_sql e2, List.length_pos_iff.mpr hne', fun m hm hle => ?_⟩
    obtain ⟨h1, h2⟩ := minI_mem hne'
    have e : m = minI ns := Int.le_antisymm (hle _ h1) (h2 m hm)
    rw [e]
    exact k _ w st (Le.refl w) (Dq.int _)
/-- list(x), tuple(x) of a list or tuple -/
def sList : D → Option Res := fun d => (seqOf d).map fun l => .fresh (.list l)
def sTuple : D → Option Res := fun d => (seqOf d).map fun l => .val (.tuple l)
theorem rc_list {K} : RCIs K (fun xs H Q => ∃ p ys, xs = [.ref p] ∧ (SqL K H p ys ∨ SqT K H p ys) ∧ ∀ l, H l = none → Q (.ref l) (upd H l (.lst ys))) (one sList) := rc_one fun {B w σ e v d res Q} st t q k => by
  obtain ⟨l, k1, k2⟩ := Option.map_eq_some_iff.mp q
  subst k2
  obtain ⟨a, vs, e1, e2, e3⟩ := seq_of st.sub t k1
  subst e1
  refine ⟨a, vs, rfl, ?_, fun c nc => res_lst st e3 k c nc⟩
  rcases e2 with e2 | e2
  · exact .inl (la_sql e2)
  · exact .inr e2
theorem rc_tuple {K} : RCIs K (fun xs H Q => ∃ p ys, xs = [.ref p] ∧ ((SqL K H p ys ∧ ∀ l, H l = none → Q (.ref l) (upd H l (.tup ys))) ∨ (SqT K H p ys ∧ Q (.ref p) H))) (one sTuple) := rc_one fun {B w σ e v d res Q} st t q k => by
  obtain ⟨l, k1, k2⟩ := Option.map_eq_some_iff.mp q
  subst k2
  cases d <;> try cases k1
  · obtain ⟨a, vs, e1, e2, e3⟩ := t.list st.sub
    subst e1
    exact ⟨a, vs, rfl, .inl ⟨la_sql e2, fun c nc => res_tup st e3 k c nc⟩⟩
  · obtain ⟨a, vs, e1, e2, e3⟩ := t.tuple st.sub
    subst e1
    refine ⟨a, vs, rfl, .inr ⟨e2, k _ w st (Le.refl w) ?_⟩⟩
    rcases t with t | ⟨_, _, _, _, z⟩
    · exact t
    · cases z
end DL

set_option Elab.async false
set_option linter.all false
set_option maxRecDepth 100000
set_option maxHeartbeats 1000000
/-! DL6: xs[::-1], isinstance. -/
namespace DL
open PySem PySem.Spec PyProof.Rows L2 HT
section
variable {prog : Program} {w : World} {A : Around} {E : Value → Shared → Prop} {s : Shared}
theorem back_applied {sl : Addr} {tk : Tok} {n : Nat} {Q : Int × Int × Nat → Shared → Prop} (hs : s.heap.IsSliceOf sl .none .none (.int (-1) tk)) (h : Q ((n : Int) - 1, -1, n) s) : wpAny (model prog w) A (Builtin.Slice.sliceApplied (.ref sl) (pure (n : Int))) Q E s := by
  obtain ⟨os, hos, hcs, hds⟩ := id hs
  unfold Builtin.Slice.sliceApplied Builtin.Slice.sliceFields
  refine wpAny_bind (wpAny_bind (wpAny_field hos hds (x := .none) rfl (wpAny_bind (wpAny_field hos hds (x := .none) rfl (wpAny_bind (wpAny_field hos hds (x := .int (-1) tk) rfl (wpAny_pure ?_)))))))
  refine wpAny_bind (slicePart_int ?_)
  show wpAny _ _ (if ((-1 : Int) == 0) = true then _ else _) _ _ s
  rw [if_neg (by decide)]
  refine wpAny_bind (slicePart_none (wpAny_bind (slicePart_none (wpAny_bind (wpAny_pure ?_)))))
  show wpAny _ _ (match Builtin.Slice.sliceAdjust none none (-1) (n : Int) with | (lo, hi) => pure (lo, (-1 : Int), Builtin.Slice.slicePlaces lo hi (-1))) _ _ s
  have e : Builtin.Slice.sliceAdjust none none (-1) (n : Int) = ((n : Int) - 1, -1) := by
    simp [Builtin.Slice.sliceAdjust]
  have e2 : Builtin.Slice.slicePlaces ((n : Int) - 1) (-1) (-1) = n := by
    simp [Builtin.Slice.slicePlaces]
    omega
  rw [e]
  show wpAny _ _ (pure ((n : Int) - 1, (-1 : Int), Builtin.Slice.slicePlaces ((n : Int) - 1) (-1) (-1))) _ _ s
  rw [e2]
  exact wpAny_pure h
theorem fm_congr {α β : Type} {f g : α → Option β} : ∀ {l : List α}, (∀ x ∈ l, f x = g x) → l.filterMap f = l.filterMap g
  | [], _ => rfl
  | a :: l, h => by
    rw [List.filterMap_cons, List.filterMap_cons, h a List.mem_cons_self, fm_congr fun x hx => h x (List.mem_cons_of_mem _ hx)]
theorem range_self {α : Type} : ∀ l : List α, (List.range l.length).filterMap (fun k => l[k]?) = l
  | [] => rfl
  | a :: l => by
    rw [List.length_cons, List.range_succ_eq_map, List.filterMap_cons]
    simp only [List.getElem?_cons_zero, List.filterMap_map]
    have ih := range_self l
    congr 1
theorem back_pick (xs : Array Value) : ((List.range xs.size).filterMap fun (k : Nat) => xs[(((xs.size : Int) - 1) + (k : Int) * (-1)).toNat]?).toArray = xs.toList.reverse.toArray := by
  have e : ((List.range xs.size).filterMap fun (k : Nat) => xs[(((xs.size : Int) - 1) + (k : Int) * (-1)).toNat]?) = (List.range xs.size).filterMap fun k => xs.toList.reverse[k]? := by
    refine fm_congr fun k hk => ?_
    have hk' := List.mem_range.mp hk
    rw [List.getElem?_reverse (by simpa using hk'), Array.length_toList, Array.getElem?_toList]
    congr 1
    omega
  have e2 := range_self xs.toList.reverse
  rw [List.length_reverse, Array.length_toList] at e2
  rw [e, e2]
theorem getItem_tuple_back {t sl : Addr} {items : Array Value} {tk : Tok} {Q : Value → Shared → Prop} (ht : IsTup s.heap t items) (hs : s.heap.IsSliceOf sl .none .none (.int (-1) tk))
    (h : Q (.ref s.heap.objs.size) { s with heap := s.heap.push { cls := .type "tuple", data := .seq items.toList.reverse.toArray } }) (hsz : items.size ≤ sizeLine) : wpAny (model prog w) A (getItem (.ref t) (.ref sl)) Q E s := by
  have hz : sizeOk (.seq items.toList.reverse.toArray) := by
    show items.toList.reverse.toArray.size ≤ sizeLine
    simpa using hsz
  obtain ⟨os, hos, hcs, hds⟩ := id hs
  have hTs : s.TypeIs (.ref sl) "slice" := ⟨os, hos, hcs⟩
  unfold getItem
  try with_reducible refine wpAny_holding ?_
  first | refine wpAny_bind (wpAny_pure ?_) | skip
  refine wpAny_bind (wpAny_sequenceKey ht.typeIs (by decide) ?_)
  refine wpAny_bind (wpAny_callSpecial?_slot (name := Str.ofString "__getitem__") ht.typeIs PyProof.Rows.slot_tuple_getitem
    (wpAny_call_entry PyProof.Rows.slot_tuple_getitem ht.typeIs entry_tuple_getitem ?_ (args_tuple_getitem _ _)))
  show wpAny _ _ (Builtin.Tuple.tupleItemsOf (.ref t) >>= _) _ _ s
  refine wpAny_bind (tupleItemsOf_ ht ?_)
  refine wpAny_bind (wpAny_typeOf hTs ?_)
  rw [if_pos (by decide)]
  refine wpAny_bind (back_applied hs ?_)
  show wpAny _ _ (if (((items.size : Int) - 1) == 0 && (-1 : Int) == 1 && items.size == items.size) = true then _ else _) _ _ s
  rw [if_neg (by simp), back_pick]
  first
    | exact wpAny_bind (m := Builtin.Tuple.tupleExact _) (wpAny_newObj_type (wpAny_pure ⟨_, rfl, wpAny_pure h⟩) hz)
    | exact wpAny_bind (m := Builtin.Tuple.tupleExact _) (wpAny_newObj_type (wpAny_bind (wpAny_pure (wpAny_pure ⟨_, rfl, wpAny_pure h⟩))) hz)
    | exact wpAny_bind (wpAny_bind (m := Builtin.Tuple.tupleExact _) (wpAny_newObj_type (wpAny_pure (wpAny_pure ⟨_, rfl, wpAny_pure h⟩)) hz))
    | exact wpAny_bind (wpAny_bind (m := Builtin.Tuple.tupleExact _) (wpAny_newObj_type (wpAny_pure ⟨_, rfl, wpAny_pure h⟩) hz))
end
section
variable {X : Cx} {a : Expr} {fa : FE} {pos : Pos}
def tRevA (K : PySem.W.Frag) (te : TE) : TE := fun σ H Q => te σ H fun x H1 => ∃ a xs, x = .ref a ∧
  ((SqL K H1 a xs ∧ ∀ p, H1 p = none → Q (.ref p) (upd H1 p (.lst xs.reverse))) ∨ (SqT K H1 a xs ∧ ∀ p, H1 p = none → Q (.ref p) (upd H1 p (.tup xs.reverse))))
theorem pe_revA {e : Expr} {te : TE} {k : Nat} {p1 p2 p3 : Pos} (he : PE X e te) : PE X (.Subscript e (.Slice none none (some (.UnaryOp .USub (.Constant (.int 1) k p1) p2)) p3) pos) (tRevA X.K te) := by
  refine ⟨fun pins s σ H Q I h => ?_⟩
  refine Subscript_ (thn (he.run pins s σ H _ I h) fun v s1 ⟨x, H1, I1, r1, a, xs, ex, q⟩ => ?_)
  subst ex
  cases r1
  have hst : PO X (some (.UnaryOp .USub (.Constant (.int 1) k p1) p2)) (tPart (tUn (rU fun i => .int (-i)) (tC (.int 1)))) := po_some (pe_un un_neg pe_int)
  refine wpAny_Slice (thn (po_none.run pins s1 σ H1 (fun o H2 => o = none ∧ H2 = H1) I1 ⟨rfl, rfl⟩) fun vl s2 ⟨l, H2, I2, pl, el, e2⟩ => ?_)
  subst el e2
  refine thn (po_none.run pins s2 σ H2 (fun o H3 => o = none ∧ H3 = H2) I2 ⟨rfl, rfl⟩) fun vu s3 ⟨u, H3, I3, pu, eu, e3⟩ => ?_
  subst eu e3
  refine thn (hst.run pins s3 σ H3 (fun o H4 => o = some (-1) ∧ H4 = H3) I3 ⟨1, rfl, -1, rfl, rfl, rfl⟩) fun vs s4 ⟨o, H4, I4, ps, eo, e4⟩ => ?_
  subst eo e4
  cases pl
  cases pu
  obtain ⟨tk, etk⟩ : ∃ tk, vs = .int (-1) tk := by
    cases ps with
    | int i t => exact ⟨t, rfl⟩
  subst etk
  have I5 : Inv X pins σ H4 { s4 with heap := s4.heap.push { cls := .type "slice", data := .fields #[.none, .none, .int (-1) tk] } } := I4.kept (t' := s4.toks) fun b ob q => Heap.get?_push_of_some _ q
  show wpAny (model X.prog X.w) X.A (subscriptTail e (.Slice none none (some (.UnaryOp .USub (.Constant (.int 1) k p1) p2)) p3) (.ref a) (.ref s4.heap.objs.size)) (EP X pins σ Q) X.xe { s4 with heap := s4.heap.push { cls := .type "slice", data := .fields #[.none, .none, .int (-1) tk] } }
  rcases q with ⟨hx, q⟩ | ⟨hx, q⟩
  · obtain ⟨its, r, ht, hz⟩ := I5.list hx
    have hlen := r.length
    refine tail_any (ops := [.ref a, .ref s4.heap.objs.size]) ht.isList.typeIs (PySem.slot_list_getitem.lookup) ?_ (by with_unfolding_all rfl)
    refine wpAny_getItem_list_slice ht.isList (Heap.IsSliceOf.new _ _ _ _) .none .none (.int _ _) (by decide) ?_ (by rw [List.size_toArray]; omega)
    rw [PySem.W.krv_pick]
    refine ⟨.ref _, _, I5.laid (t' := s4.toks) (o := .lst xs.reverse) (fun b ob q => Heap.get?_push_of_some _ q) (Nat.le_refl _) ?_, rfl, q _ (I5.hok.fresh (Nat.le_refl _))⟩
    exact ⟨by rw [List.length_reverse]; exact hz, _, 0, r.reverse, Heap.get?_push_size _ rfl⟩
  · obtain ⟨its, r, ht, hz⟩ := I5.tuple hx
    have hlen := r.length
    refine tail_any (ops := [.ref a, .ref s4.heap.objs.size]) ht.typeIs (PyProof.Rows.slot_tuple_getitem.lookup) ?_ (by with_unfolding_all rfl)
    refine getItem_tuple_back ht (Heap.IsSliceOf.new _ _ _ _) ?_ (by rw [List.size_toArray]; omega)
    refine ⟨.ref _, _, I5.laid (t' := s4.toks) (o := .tup xs.reverse) (fun b ob q => Heap.get?_push_of_some _ q) (Nat.le_refl _) ?_, rfl, q _ (I5.hok.fresh (Nat.le_refl _))⟩
    exact ⟨by rw [List.length_reverse]; exact hz, _, r.reverse, IsTup.new _ _⟩
theorem d_rev {k : Nat} {p1 p2 p3 : Pos} (ha : PE X a (tE X.K fa)) : PE X (.Subscript a (.Slice none none (some (.UnaryOp .USub (.Constant (.int 1) k p1) p2)) p3) pos) (tV X.K (fUn sRev fa)) := by
  refine pe_imp (pe_revA ha) fun σ H Q ⟨B, w, e, r, e', hH, st, hf, q⟩ => ?_
  obtain ⟨⟨r1, e1⟩, k1, k2⟩ := Option.bind_eq_some_iff.mp hf
  obtain ⟨d, k3, k4⟩ := Option.bind_eq_some_iff.mp k2
  obtain ⟨z, k5, k6⟩ := Option.map_eq_some_iff.mp k4
  cases k6
  refine ⟨B, w, e, r1, e1, hH, st, k1, fun v w1 s1 l1 p1 => ?_⟩
  have t := look_ok s1 k3 p1
  have qq : ∀ v w', Stt X.K B w' σ e1 → Le w1 w' → ResOK X.K w1.H w' v r → Q v w'.H := fun v w2 s2 l2 ok => q v w2 s2 (l1.trans l2) (ok.mono fun a z => l1.dom a z)
  cases d <;> try cases k5
  · obtain ⟨p, vs, j1, j2, j3⟩ := t.list s1.sub
    exact ⟨p, vs, j1, .inl ⟨la_sql j2, fun c nc => res_lst s1 (da_reverse j3) qq c nc⟩⟩
  · obtain ⟨p, vs, j1, j2, j3⟩ := t.tuple s1.sub
    exact ⟨p, vs, j1, .inr ⟨j2, fun c nc => res_tup s1 (da_reverse j3) qq c nc⟩⟩
end

/-! ### isinstance -/
inductive Ty where
  | int | bool | str | list | tuple | dict
  deriving DecidableEq
def Ty.name : Ty → String
  | .int => "int" | .bool => "bool" | .str => "str" | .list => "list" | .tuple => "tuple" | .dict => "dict"
def tyName : D → String
  | .none => "NoneType" | .bool _ => "bool" | .int _ => "int" | .str _ => "str" | .list _ => "list" | .tuple _ => "tuple" | .dict _ => "dict"
def isTy (d : D) : Ty → Bool
  | .int => match d with | .int _ => true | .bool _ => true | _ => false
  | .bool => match d with | .bool _ => true | _ => false
  | .str => match d with | .str _ => true | _ => false
  | .list => match d with | .list _ => true | _ => false
  | .tuple => match d with | .tuple _ => true | _ => false
  | .dict => match d with | .dict _ => true | _ => false
theorem kit_is (d : D) (t : Ty) : kitB (tyName d) t.name = some (isTy d t) := by
  cases t <;> cases d <;> (dsimp only [tyName, isTy, Ty.name]; decide +kernel)
theorem tyx_of {K : PySem.W.Frag} {w : Wd} {v : V} {d : D} (nd : isDct d = false) (s : Same w.F w.H) (h : DpT K w v d) : TyX K w.H v (.type (tyName d)) := by
  have rl : ∀ {a : Addr} {vs : List V}, LstAt K w.H a vs → TyX K w.H (.ref a) (.type "list") := fun {a vs} q => by
    rcases q with (q | ⟨o, q⟩) | ⟨its, n, q, _⟩
    · exact .base (.lst q)
    · exact .base (.frz q)
    · exact .kList q rfl
  rcases h with h | ⟨a, o, rfl, h, h2⟩
  · cases h with
    | non => exact .base .non
    | bl b => exact .base (.bl b)
    | int i => exact .base (.int i)
    | str x => exact .base (.str x)
    | lst q _ => exact rl (la_same s q)
    | tup q _ =>
      exact .base (.tup (s _ _ q))
  · cases h2 with
    | lst _ => exact rl (.inl (.inl h))
    | dctT _ => cases nd
    | dctK _ => cases nd
def fIsi (ts : List Ty) (f : FE) : FV := fun e => (f e).bind fun p => (look p.2 p.1).bind fun d => if isDct d = true then none else some (.val (.bool (ts.any fun t => isTy d t)), p.2)
section
variable {X : Cx} {a b : Expr} {fa : FE} {pos p : Pos}
theorem d_isi {t : Ty} (hg : Gl X "isinstance") (hm : X.mg "isinstance" = none) (ha : PE X a (tE X.K fa)) (hb : PE X b (tC (.ty t.name))) (h1 : starEach [a, b] X.env = (false, eval a X.env) :: starEach [b] X.env := by rfl) (h2 : starEach [b] X.env = (false, eval b X.env) :: starEach [] X.env := by rfl)
    (h3 : (backTo pos (starEach [b] X.env)).any (·.1) = false := by rfl) : PE X (.Call (.Name "isinstance" p) [a, b] [] pos) (tV X.K (fIsi [t] fa)) := by
  refine pe_imp (pe_callB call_isi hg hm (by decide +kernel) (pa_cons ha (pa_cons hb pa_nil h2) h1) (by decide) (by decide) h1 h3) fun σ H Q ⟨B, w, e, r, e', hH, st, hf, q⟩ => ?_
  obtain ⟨⟨r1, e1⟩, k1, k2⟩ := Option.bind_eq_some_iff.mp hf
  obtain ⟨d, k3, k4⟩ := Option.bind_eq_some_iff.mp k2
  split at k4
  case isTrue => cases k4
  rename_i nd
  have nd : isDct d = false := by simpa using nd
  cases k4
  refine ⟨B, w, e, r1, e1, hH, st, k1, fun v w1 s1 l1 p1 => ?_⟩
  refine ⟨v, _, _, _, isTy d t, rfl, .ty _, tyx_of nd s1.sub (look_ok s1 k3 p1), kit_ty (kit_is d t), q _ w1 s1 l1 ?_⟩
  simp only [List.any_cons, List.any_nil, Bool.or_false]
  exact Dq.bl _
theorem d_isi2 {t u : Ty} {c : Expr} {k : Nat} {p3 : Pos} (hg : Gl X "isinstance") (hm : X.mg "isinstance" = none) (ha : PE X a (tE X.K fa)) (hb : PE X b (tC (.ty t.name))) (hc : PE X c (tC (.ty u.name)))
    (h1 : starEach [a, .Tuple [b, c] k p3] X.env = (false, eval a X.env) :: starEach [.Tuple [b, c] k p3] X.env := by rfl) (h2 : starEach [.Tuple [b, c] k p3] X.env = (false, eval (.Tuple [b, c] k p3) X.env) :: starEach [] X.env := by rfl)
    (h3 : (backTo pos (starEach [.Tuple [b, c] k p3] X.env)).any (·.1) = false := by rfl) (h4 : starEach [b, c] X.env = (false, eval b X.env) :: starEach [c] X.env := by rfl) (h5 : starEach [c] X.env = (false, eval c X.env) :: starEach [] X.env := by rfl) :
    PE X (.Call (.Name "isinstance" p) [a, .Tuple [b, c] k p3] [] pos) (tV X.K (fIsi [t, u] fa)) := by
  refine pe_imp (pe_callB call_isiT hg hm (by decide +kernel) (pa_cons ha (pa_cons (pe_tup (pa_cons hb (pa_cons hc pa_nil h5) h4)) pa_nil h2) h1) (by decide) (by decide) h1 h3) fun σ H Q ⟨B, w, e, r, e', hH, st, hf, q⟩ => ?_
  obtain ⟨⟨r1, e1⟩, k1, k2⟩ := Option.bind_eq_some_iff.mp hf
  obtain ⟨d, k3, k4⟩ := Option.bind_eq_some_iff.mp k2
  split at k4
  case isTrue => cases k4
  rename_i nd
  have nd : isDct d = false := by simpa using nd
  cases k4
  refine ⟨B, w, e, r1, e1, hH, st, k1, fun v w1 s1 l1 p1 => ?_⟩
  refine ⟨by show 2 ≤ sizeLine; decide, fun c nc => ?_⟩
  obtain ⟨j1, j2, j3⟩ := s1.add (o := .tup [.ty t.name, .ty u.name]) nc
  have tx := tyx_of nd j2.sub (look_ok j2 k3 (p1.later j1))
  refine ⟨v, c, _, _, [.type t.name, .type u.name], isTy d t || isTy d u, rfl, upd_same, .cons (.ty _) (.cons (.ty _) .nil), tx, ?_, q _ (w1.add c (.tup [.ty t.name, .ty u.name])) j2 (l1.trans j1) ?_⟩
  · refine kitAny_cons (kit_ty (kit_is d t)) (fun z => ?_) fun z => by rw [z]; rfl
    rw [z, Bool.false_or]
    refine kitAny_cons (kit_ty (kit_is d u)) (fun z => by rw [z]; exact kitAny_nil) fun z => z
  · simp only [List.any_cons, List.any_nil, Bool.or_false]
    exact Dq.bl _
end
end DL

set_option Elab.async false
set_option linter.all false
set_option maxRecDepth 100000
set_option maxHeartbeats 1000000
/-! DL7: own defs: what a def promises, calls, a def's body. -/
namespace DL
open PySem PySem.Spec PyProof.Rows L2

def isSlot (i : Nat) : R → Bool
  | .slot j => j == i
  | _ => false
/-- what is handed to a def: values, and own lists, lent -/
def lent (e : En) : List R → Option (List Slot)
  | [] => some []
  | .val d :: rs => (lent e rs).map fun l => .val false d :: l
  | .slot i :: rs => match e[i]? with
    | some (.val _ d) => (lent e rs).map fun l => .val false d :: l
    | some (Slot.own _ l) => if rs.any (isSlot i) = true then none else (lent e rs).map fun r => .own true l :: r
    | _ => none
def reb (b : Bool) : Slot → Option Slot
  | .own _ l => some (Slot.own b l)
  | .val _ d => some (.val b d)
  | .dead => none
  | .lck _ => none
/-- what was lent comes back -/
def back (e : En) : List R → List Slot → Option En
  | [], [] => some e
  | .val _ :: rs, _ :: os => back e rs os
  | .slot i :: rs, o :: os => match e[i]? with
    | some (Slot.own b _) => match reb b o with
      | some s => back (e.set i s) rs os
      | none => none
    | _ => back e rs os
  | _, _ => none
abbrev Fn := List Slot → Option (Res × List Slot)
def fCall (m : Fn) (g : FA) : FV := fun e => (g e).bind fun p => (lent p.2 p.1).bind fun as => (m as).bind fun z => (back p.2 p.1 z.2).map fun e' => (z.1, e')
/-- a def's promise -/
def spD (K : PySem.W.Frag) (n : Nat) (m : Fn) : Sp := fun vs H Q _ => ∃ w as r outs, w.H = H ∧ vs.length = n ∧ Stt K ⟨H, as.map Slot.pin, vs.map some⟩ w (vs.map some) as ∧ m as = some (r, outs) ∧
  ∀ v w', Stt K ⟨H, as.map Slot.pin, vs.map some⟩ w' (vs.map some) outs → Le w w' → ResOK K H w' v r → Q v w'.H

def LentAt (e : En) (rs : List R) (as : List Slot) (k : Nat) : Prop :=
  (∃ r d, rs[k]? = some r ∧ as[k]? = some (.val false d) ∧ (r = .val d ∨ ∃ i b, r = .slot i ∧ e[i]? = some (.val b d))) ∨
  (∃ i b l, rs[k]? = some (R.slot i) ∧ as[k]? = some (Slot.own true l) ∧ e[i]? = some (Slot.own b l) ∧ ∀ k' : Nat, k < k' → rs[k']? ≠ some (R.slot i))
theorem lent_spec {e : En} : ∀ {rs : List R} {as : List Slot}, lent e rs = some as → as.length = rs.length ∧ ∀ k : Nat, k < rs.length → LentAt e rs as k
  | [], as, h => by
    cases h
    exact ⟨rfl, fun k hk => absurd hk (Nat.not_lt_zero _)⟩
  | r :: rs, as, h => by
    have fin : ∀ {s : Slot} {l : List Slot}, lent e rs = some l → as = s :: l → (LentAt e (r :: rs) (s :: l) 0) → as.length = (r :: rs).length ∧ ∀ k, k < (r :: rs).length → LentAt e (r :: rs) as k := fun {s l} h1 h2 h3 => by
      obtain ⟨k1, k2⟩ := lent_spec h1
      subst h2
      refine ⟨by rw [List.length_cons, List.length_cons, k1], fun k hk => ?_⟩
      cases k with
      | zero => exact h3
      | succ k =>
        rcases k2 k (Nat.lt_of_succ_lt_succ hk) with ⟨r', d, q1, q2, q3⟩ | ⟨i, b, l', q1, q2, q3, q4⟩
        · exact .inl ⟨r', d, by simpa using q1, by simpa using q2, q3⟩
        · refine .inr ⟨i, b, l', by simpa using q1, by simpa using q2, q3, fun k' hk' => ?_⟩
          cases k' with
          | zero => exact absurd hk' (Nat.not_lt_zero _)
          | succ k' => simpa using q4 k' (Nat.lt_of_succ_lt_succ hk')
    cases r with
    | val d =>
      obtain ⟨l, h1, h2⟩ := Option.map_eq_some_iff.mp h
      exact fin h1 h2.symm (.inl ⟨.val d, d, rfl, rfl, .inl rfl⟩)
    | slot i =>
      unfold lent at h
      cases hs : e[i]? with
      | none => simp only [hs] at h; cases h
      | some s =>
        simp only [hs] at h
        cases s with
        | dead => cases h
        | lck c => cases h
        | val b d =>
          obtain ⟨l, h1, h2⟩ := Option.map_eq_some_iff.mp h
          exact fin h1 h2.symm (.inl ⟨.slot i, d, rfl, rfl, .inr ⟨i, b, rfl, hs⟩⟩)
        | own b l =>
          by_cases z : rs.any (isSlot i) = true
          · simp only [z, if_true] at h; cases h
          · simp only [z, if_false] at h
            obtain ⟨l', h1, h2⟩ := Option.map_eq_some_iff.mp h
            refine fin h1 h2.symm (.inr ⟨i, b, l, rfl, rfl, hs, fun k' hk' => ?_⟩)
            cases k' with
            | zero => exact absurd hk' (Nat.not_lt_zero _)
            | succ k' =>
              intro q
              refine z (List.any_eq_true.mpr ⟨.slot i, List.mem_of_getElem? (by simpa using q), ?_⟩)
              simp [isSlot]
def isOwn (e : En) (j : Nat) : Prop := ∃ b l, e[j]? = some (Slot.own b l)
theorem back_spec : ∀ {rs : List R} {os : List Slot} {e e2 : En}, back e rs os = some e2 → (∀ (k k' i : Nat), k < k' → rs[k]? = some (R.slot i) → isOwn e i → rs[k']? ≠ some (R.slot i)) →
    e2.length = e.length ∧ (∀ j : Nat, (∀ k : Nat, rs[k]? = some (R.slot j) → ¬ isOwn e j) → e2[j]? = e[j]?) ∧
    ∀ (k j : Nat) b l, rs[k]? = some (R.slot j) → e[j]? = some (Slot.own b l) → ∃ o s, os[k]? = some o ∧ reb b o = some s ∧ e2[j]? = some s
  | [], [], e, e2, h, _ => by
    cases h
    exact ⟨rfl, fun _ _ => rfl, fun k j b l q => by simp at q⟩
  | r :: rs, o :: os, e, e2, h, nd => by
    have nd' : ∀ (k k' i : Nat), k < k' → rs[k]? = some (R.slot i) → isOwn e i → rs[k']? ≠ some (R.slot i) := fun k k' i hk q1 q2 => by
      have z := nd (k + 1) (k' + 1) i (Nat.succ_lt_succ hk) (by simpa using q1) q2
      simpa using z
    have skip : ((∀ j, r = .slot j → ¬ isOwn e j)) → back e rs os = some e2 → e2.length = e.length ∧ (∀ j : Nat, (∀ k : Nat, (r :: rs)[k]? = some (R.slot j) → ¬ isOwn e j) → e2[j]? = e[j]?) ∧
        ∀ (k j : Nat) b l, (r :: rs)[k]? = some (R.slot j) → e[j]? = some (Slot.own b l) → ∃ o' s, (o :: os)[k]? = some o' ∧ reb b o' = some s ∧ e2[j]? = some s := fun hr hb => by
      obtain ⟨k1, k2, k3⟩ := back_spec hb nd'
      refine ⟨k1, fun j hj => k2 j fun k q => hj (k + 1) (by simpa using q), fun k j b l q1 q2 => ?_⟩
      cases k with
      | zero =>
        have e1 : r = .slot j := by simpa using q1
        exact absurd ⟨b, l, q2⟩ (hr j e1)
      | succ k =>
        obtain ⟨o', s, j1, j2, j3⟩ := k3 k j b l (by simpa using q1) q2
        exact ⟨o', s, by simpa using j1, j2, j3⟩
    cases r with
    | val d => exact skip (fun j z => by cases z) h
    | slot i =>
      unfold back at h
      cases hs : e[i]? with
      | none =>
        simp only [hs] at h
        exact skip (fun j z => by cases z; rintro ⟨b, l, q⟩; rw [hs] at q; cases q) h
      | some s =>
        simp only [hs] at h
        cases s with
        | dead => exact skip (fun j z => by cases z; rintro ⟨b, l, q⟩; rw [hs] at q; cases q) h
        | lck c => exact skip (fun j z => by cases z; rintro ⟨b, l, q⟩; rw [hs] at q; cases q) h
        | val b d => exact skip (fun j z => by cases z; rintro ⟨b, l, q⟩; rw [hs] at q; cases q) h
        | own b l =>
          cases hr : reb b o with
          | none => simp only [hr] at h; cases h
          | some s =>
            simp only [hr] at h
            have hl := lt_of_get hs
            have no_i : ∀ k : Nat, rs[k]? ≠ some (R.slot i) := fun k => by
              have z := nd 0 (k + 1) i (Nat.succ_pos _) rfl ⟨b, l, hs⟩
              simpa using z
            have own_ne : ∀ j : Nat, j ≠ i → (isOwn (e.set i s) j ↔ isOwn e j) := fun j hj => by
              unfold isOwn
              rw [List.getElem?_set_ne (Ne.symm hj)]
            obtain ⟨k1, k2, k3⟩ := back_spec h (fun k k' j hk q1 q2 => by
              by_cases z : j = i
              · subst z; exact absurd q1 (no_i k)
              · exact nd' k k' j hk q1 ((own_ne j z).mp q2))
            refine ⟨by rw [k1, List.length_set], fun j hj => ?_, fun k j b' l' q1 q2 => ?_⟩
            · by_cases z : j = i
              · subst z
                exact absurd ⟨b, l, hs⟩ (hj 0 rfl)
              · rw [k2 j fun k q => fun w => hj (k + 1) (by simpa using q) ((own_ne j z).mp w), List.getElem?_set_ne (Ne.symm z)]
            · by_cases z : j = i
              · subst z
                rw [hs] at q2
                cases q2
                cases k with
                | succ k => exact absurd (by simpa using q1) (no_i k)
                | zero =>
                  refine ⟨o, s, rfl, hr, ?_⟩
                  rw [k2 j fun k q => absurd q (no_i k), List.getElem?_set_self hl]
              · cases k with
                | zero =>
                  have e1 : i = j := by simpa using q1
                  exact absurd e1.symm z
                | succ k =>
                  obtain ⟨o', s', j1, j2, j3⟩ := k3 k j b' l' (by simpa using q1) (by rw [List.getElem?_set_ne (Ne.symm z)]; exact q2)
                  exact ⟨o', s', by simpa using j1, j2, j3⟩
  | [], _ :: _, _, _, h, _ => by cases h
  | .val _ :: _, [], _, _, h, _ => by cases h
  | .slot _ :: _, [], _, _, h, _ => by cases h
theorem repRs_get {K : PySem.W.Frag} {w : Wd} {σ : L2.St} : ∀ {vs : List V} {rs : List R} {k : Nat} {r : R}, RepRs K w σ vs rs → rs[k]? = some r → ∃ v, vs[k]? = some v ∧ RepR K w σ v r
  | [], [], _, _, _, q => by simp at q
  | v :: vs, r :: rs, 0, r', h, q => by
    have e : r = r' := by simpa using q
    subst e
    exact ⟨v, rfl, h.1⟩
  | v :: vs, r :: rs, k + 1, r', h, q => by
    obtain ⟨u, h1, h2⟩ := repRs_get (k := k) (r := r') h.2 (by simpa using q)
    exact ⟨u, by simpa using h1, h2⟩
  | [], _ :: _, _, _, h, _ => h.elim
  | _ :: _, [], _, _, h, _ => h.elim
theorem repRs_len {K : PySem.W.Frag} {w : Wd} {σ : L2.St} : ∀ {vs : List V} {rs : List R}, RepRs K w σ vs rs → vs.length = rs.length
  | [], [], _ => rfl
  | v :: vs, r :: rs, h => by rw [List.length_cons, List.length_cons, repRs_len h.2]
  | [], _ :: _, h => h.elim
  | _ :: _, [], h => h.elim
section
variable {K : PySem.W.Frag} {B : Bd} {w : Wd} {σ : L2.St} {e : En}
/-- the callee's world -/
def argO (vs : List V) (as : List Slot) : Addr → Prop := fun a => ∃ (k : Nat) (b : Bool) (l : D), as[k]? = some (Slot.own b l) ∧ (vs.map some)[k]? = some (some (.ref a))
theorem arg_stt (st : Stt K B w σ e) {rs : List R} {vs : List V} {as : List Slot} (h : lent e rs = some as) (p : RepRs K w σ vs rs) :
    Stt K ⟨w.H, as.map Slot.pin, vs.map some⟩ ⟨w.F, w.H, argO vs as⟩ (vs.map some) as ∧ ∀ a, argO vs as a → w.O a := by
  obtain ⟨hl, sp⟩ := lent_spec h
  have hv := repRs_len p
  have at_ : ∀ (k : Nat) s, as[k]? = some s → LentAt e rs as k := fun k s q => sp k (by rw [← hl]; exact lt_of_get q)
  have own_at : ∀ (k : Nat) b l, as[k]? = some (Slot.own b l) → b = true ∧ ∃ i b', rs[k]? = some (R.slot i) ∧ e[i]? = some (Slot.own b' l) ∧ (∀ k' : Nat, k < k' → rs[k']? ≠ some (R.slot i)) ∧ ∃ a us, vs[k]? = some (.ref a) ∧ σ[i]? = some (some (.ref a)) ∧ w.H a = some us ∧ w.F a = none ∧ OwD K w.F us l ∧ w.O a := fun k b l q => by
    rcases at_ k _ q with ⟨r, d, _, q2, _⟩ | ⟨i, b', l', q1, q2, q3, q4⟩
    · rw [q] at q2; cases q2
    · rw [q] at q2
      cases q2
      obtain ⟨a, us, j1, j2, j3, j4, j5⟩ := st.own_at q3
      obtain ⟨v, v1, v2⟩ := repRs_get p q1
      rw [show σ[i]? = some (some v) from v2] at j1
      cases j1
      exact ⟨rfl, i, b', q1, q3, q4, a, us, v1, v2, j2, j3, j4, j5⟩
  refine ⟨⟨st.sub, by rw [List.length_map, hv, hl], fun k s q => ?_, fun k j b l b' l' q1 q2 q3 => ?_, fun a => Iff.rfl, rfl, fun _ _ => rfl, fun a q => q, fun k l a q => ?_⟩, fun a ⟨k, b, l, q1, q2⟩ => ?_⟩
  · rcases at_ k _ q with ⟨r, d, q1, q2, q3⟩ | ⟨i, b', l', q1, q2, q3, q4⟩
    · rw [q] at q2
      cases q2
      obtain ⟨v, v1, v2⟩ := repRs_get p q1
      refine ⟨v, by rw [List.getElem?_map, v1]; rfl, ?_⟩
      rcases q3 with q3 | ⟨i, b, q3, q4⟩
      · subst q3; exact v2
      · subst q3
        obtain ⟨u, u1, u2⟩ := st.sl i _ q4
        rw [show σ[i]? = some (some v) from v2] at u1
        cases u1
        exact u2
    · rw [q] at q2
      cases q2
      obtain ⟨_, _, _, _, _, _, a, us, v1, _, j2, j3, j4, _⟩ := own_at k _ _ q
      exact ⟨a, us, by rw [List.getElem?_map, v1]; rfl, j2, j3, j4⟩
  · obtain ⟨_, i1, b1, r1, k1, n1, a1, us1, v1, z1, _⟩ := own_at k _ _ q1
    obtain ⟨_, i2, b2, r2, k2, n2, a2, us2, v2, z2, _⟩ := own_at j _ _ q2
    rw [List.getElem?_map, List.getElem?_map, v1, v2] at q3
    have e1 : a1 = a2 := by simpa using q3
    subst e1
    have e2 := st.inj i1 i2 _ _ _ _ k1 k2 (by rw [z1, z2])
    subst e2
    rcases Nat.lt_trichotomy k j with c | c | c
    · exact absurd r2 (n1 j c)
    · exact c
    · exact absurd r1 (n2 k c)
  · obtain ⟨z, _⟩ := own_at k _ _ q
    cases z
  · obtain ⟨_, i1, b1, r1, k1, n1, a1, us1, v1, z1, _, _, _, o1⟩ := own_at k _ _ q1
    rw [List.getElem?_map, v1] at q2
    have e1 : a1 = a := by simpa using q2
    rw [← e1]
    exact o1
def ownO (σ : L2.St) (e : En) : Addr → Prop := fun a => ∃ (i : Nat) (b : Bool) (l : D), e[i]? = some (Slot.own b l) ∧ σ[i]? = some (some (.ref a))
/-- behind the call -/
theorem back_stt (st : Stt K B w σ e) {rs : List R} {vs : List V} {as outs : List Slot} {e2 : En} {w' : Wd} (h : lent e rs = some as) (p : RepRs K w σ vs rs) (hb : back e rs outs = some e2)
    (s' : Stt K ⟨w.H, as.map Slot.pin, vs.map some⟩ w' (vs.map some) outs) (le : Le ⟨w.F, w.H, argO vs as⟩ w') :
    Stt K B ⟨w'.F, w'.H, ownO σ e2⟩ σ e2 ∧ Le w ⟨w'.F, w'.H, ownO σ e2⟩ ∧ ∀ a, ownO σ e2 a → w.O a := by
  obtain ⟨hl, sp⟩ := lent_spec h
  obtain ⟨sa, sO⟩ := arg_stt st h p
  have hv := repRs_len p
  have nd : ∀ (k k' i : Nat), k < k' → rs[k]? = some (R.slot i) → isOwn e i → rs[k']? ≠ some (R.slot i) := fun k k' i hk q1 ⟨b, l, q2⟩ => by
    rcases sp k (lt_of_get q1) with ⟨r, d, j1, _, j3⟩ | ⟨i', b', l', j1, _, _, j4⟩
    · rw [q1] at j1
      cases j1
      rcases j3 with j3 | ⟨i', b', j3, j4⟩
      · cases j3
      · cases j3; rw [q2] at j4; cases j4
    · rw [q1] at j1
      cases j1
      exact j4 k' hk
  obtain ⟨b1, b2, b3⟩ := back_spec hb nd
  -- what stands in a slot behind it
  have cases_ : ∀ i : Nat, (∃ (k : Nat) (b : Bool) (l : D) (o s : Slot) (v : V), rs[k]? = some (R.slot i) ∧ e[i]? = some (Slot.own b l) ∧ outs[k]? = some o ∧ reb b o = some s ∧ e2[i]? = some s ∧ vs[k]? = some v ∧ σ[i]? = some (some v)) ∨ (e2[i]? = e[i]? ∧ ∀ k : Nat, rs[k]? = some (R.slot i) → ¬ isOwn e i) := fun i => by
    by_cases z : ∃ k : Nat, rs[k]? = some (R.slot i) ∧ isOwn e i
    · obtain ⟨k, q1, b, l, q2⟩ := z
      obtain ⟨o, s, j1, j2, j3⟩ := b3 k i b l q1 q2
      obtain ⟨v, v1, v2⟩ := repRs_get p q1
      exact .inl ⟨k, b, l, o, s, v, q1, q2, j1, j2, j3, v1, v2⟩
    · have nz : ∀ k : Nat, rs[k]? = some (R.slot i) → ¬ isOwn e i := fun k q1 q2 => z ⟨k, q1, q2⟩
      exact .inr ⟨b2 i nz, nz⟩
  have reb_own : ∀ {b : Bool} {o : Slot} {b' : Bool} {l : D}, reb b o = some (Slot.own b' l) → b' = b := fun {b o b' l} q => by
    cases o <;> simp [reb] at q
    exact q.1.symm
  have reb_pin : ∀ {b : Bool} {o s : Slot}, reb b o = some s → s.pin = b := fun {b o s} q => by
    cases o <;> simp [reb] at q <;> subst q <;> rfl
  have own_old : ∀ (i : Nat) b l, e2[i]? = some (Slot.own b l) → ∃ l', e[i]? = some (Slot.own b l') := fun i b l q => by
    rcases cases_ i with ⟨k, b', l', o, s, v, q1, q2, q3, q4, q5, _⟩ | ⟨q1, _⟩
    · rw [q] at q5
      cases q5
      exact ⟨l', by rw [reb_own q4]; exact q2⟩
    · exact ⟨l, by rw [← q1]; exact q⟩
  have hO : ∀ a, ownO σ e2 a → w.O a := fun a ⟨i, b, l, q1, q2⟩ => by
    obtain ⟨l', q3⟩ := own_old i b l q1
    exact (st.ow a).mpr ⟨i, b, l', q3, q2⟩
  refine ⟨⟨s'.sub, by rw [b1]; exact st.len, fun i s q => ?_, fun i j c l c' l' q1 q2 q3 => ?_, fun a => Iff.rfl, ?_, st.pins, fun a q => st.dom a (le.dom a q), fun i l a q1 q2 => ?_⟩,
    ⟨le.fz, fun a o q n => le.keep a o q fun z => n (sO a z), fun a o q => ?_, fun a q => .inl (hO a q), le.dom⟩, hO⟩
  · rcases cases_ i with ⟨k, b', l', o, s2, v, q1, q2, q3, q4, q5, q6, q7⟩ | ⟨q1, q2⟩
    · rw [q] at q5
      cases q5
      have z := s'.sl k o q3
      rw [List.getElem?_map, q6] at z
      rw [q7]
      cases o with
      | dead => cases q4
      | lck c => cases q4
      | val b d => cases q4; exact z
      | own b l => cases q4; exact z
    · rw [q1] at q
      have z := st.sl i s q
      cases s with
      | dead => trivial
      | lck c => obtain ⟨a, od, u, j1, j2, j3⟩ := z; exact ⟨a, od, u, j1, le.fz _ _ j2, ow_same le.fz j3⟩
      | val b d =>
        obtain ⟨v, j1, j2⟩ := z
        exact ⟨v, j1, dq_same le.fz j2⟩
      | own b l =>
        obtain ⟨a, us, j1, j2, j3, j4⟩ := z
        have na : ¬ argO vs as a := fun ⟨k, c, l2, k1, k2⟩ => by
          rcases sp k (by rw [← hl]; exact lt_of_get k1) with ⟨r, d, _, z2, _⟩ | ⟨i', b', l', z1, z2, z3, _⟩
          · rw [k1] at z2; cases z2
          · obtain ⟨v, v1, v2⟩ := repRs_get p z1
            rw [List.getElem?_map, v1] at k2
            have e1 : v = .ref a := by simpa using k2
            subst e1
            have e2 := st.inj i i' _ _ _ _ q z3 (by rw [j1]; exact v2.symm)
            subst e2
            exact q2 k z1 ⟨_, _, z3⟩
        refine ⟨a, us, j1, le.keep a _ j2 na, ?_, ow_same le.fz j4⟩
        cases hF : w'.F a with
        | none => rfl
        | some o =>
          rcases le.new a o hF with z | z | z | ⟨xs, z⟩
          · rw [show w.F a = some o from z] at j3; cases j3
          · rw [show w.H a = none from z] at j2; cases j2
          · exact absurd z na
          · rw [show w.H a = some (.tup xs) from z] at j2; cases j2; exact (ow_ntup j4).elim
  · obtain ⟨l1, k1⟩ := own_old i _ _ q1
    obtain ⟨l2, k2⟩ := own_old j _ _ q2
    exact st.inj i j _ _ _ _ k1 k2 q3
  · rw [← st.pin]
    refine List.ext_getElem? fun i => ?_
    rw [List.getElem?_map, List.getElem?_map]
    rcases cases_ i with ⟨k, b', l', o, s2, v, q1, q2, q3, q4, q5, q6, q7⟩ | ⟨q1, q2⟩
    · rw [q5, q2]
      show some (s2.pin) = some b'
      rw [reb_pin q4]
    · rw [q1]
  · obtain ⟨l', k1⟩ := own_old i _ _ q1
    exact st.fr i l' a k1 q2
  · rcases le.new a o q with z | z | z | z
    · exact .inl z
    · exact .inr (.inl z)
    · exact .inr (.inr (.inl (sO a z)))
    · exact .inr (.inr (.inr z))
end
section
variable {X : Cx} {k n : Nat} {f : Addr} {fd : FuncData} {ps : List Str} {m : Fn} {x : Str} {p pos : Pos} {a : Expr} {es : List Expr} {fs : FA} {E : XK}
theorem call_run {K : PySem.W.Frag} {σ : L2.St} {H : Hp} {Q : VK} (hn : ∀ e rs e', fs e = some (rs, e') → rs.length = n) (q : tV K (fCall m fs) σ H Q) : tCall (spD K n m) [] E (tA K fs) σ H Q := by
  obtain ⟨B, w, e, res, e', hH, st, hf, q⟩ := q
  obtain ⟨⟨rs, e1⟩, k1, k2⟩ := Option.bind_eq_some_iff.mp hf
  obtain ⟨as, k3, k4⟩ := Option.bind_eq_some_iff.mp k2
  obtain ⟨⟨r, outs⟩, k5, k6⟩ := Option.bind_eq_some_iff.mp k4
  obtain ⟨e2, k7, k8⟩ := Option.map_eq_some_iff.mp k6
  cases k8
  refine ⟨B, w, e, rs, e1, hH, st, k1, fun vs w1 s1 l1 p1 => ?_⟩
  show spD K n m (vs ++ []) w1.H Q E
  rw [List.append_nil]
  obtain ⟨sa, sO⟩ := arg_stt s1 k3 p1
  refine ⟨⟨w1.F, w1.H, argO vs as⟩, as, r, outs, rfl, by rw [repRs_len p1]; exact hn _ _ _ k1, sa, k5, fun v w' s' le ok => ?_⟩
  obtain ⟨s2, l2, l3⟩ := back_stt s1 k3 p1 k7 s' le
  refine q v ⟨w'.F, w'.H, ownO σ e'⟩ s2 (l1.trans l2) ?_
  cases r with
  | val d => exact ok
  | fresh l =>
    obtain ⟨a, us, j1, j2, j3, j4, j5, j6⟩ := ok
    exact ⟨a, us, j1, j2, j3, fun z => s1.nO j5 (l3 a z), l1.dom a j5, j6⟩
theorem ln_nil : ∀ e rs e', fNil e = some (rs, e') → rs.length = 0 := fun e rs e' h => by
  cases h
  rfl
theorem ln_cons {g : FE} {h : FA} (hn : ∀ e rs e', h e = some (rs, e') → rs.length = n) : ∀ e rs e', fCons g h e = some (rs, e') → rs.length = n + 1 := fun e rs e' q => by
  obtain ⟨⟨r1, e1⟩, k1, k2⟩ := Option.bind_eq_some_iff.mp q
  obtain ⟨⟨r2, e2⟩, k3, k4⟩ := Option.map_eq_some_iff.mp k2
  cases k4
  rw [List.length_cons, hn _ _ _ k3]
theorem d_call (F : FnOk X.prog X.w X.K X.mg X.base CX0 k f fd ps (spD X.K n m)) (hr : Room k X.A) (hg : Gl X x) (hm : X.mg x = some (.ref f)) (hk : PySem.W.keepIn X.K (.ref f) = true) (hb : Binds X.K fd ps [])
    (ha : PA X (a :: es) (tA X.K fs)) (hn : ∀ e rs e', fs e = some (rs, e') → rs.length = n) (hdb : (x == ("__debug__" : Str)) = false := by decide) (he : starEach (a :: es) X.env = (false, eval a X.env) :: starEach es X.env := by rfl)
    (hpl : (backTo pos (starEach es X.env)).any (·.1) = false := by rfl) : PE X (.Call (.Name x p) (a :: es) [] pos) (tV X.K (fCall m fs)) :=
  pe_imp (pe_call (E := E0) F hr hg hm hk hb .nil pass0 ha hdb he hpl) fun _ _ _ q => call_run hn q
end

/-! ### a def's body -/
def fixO : List Slot → En → List Slot
  | a :: as, s :: e => (if a.pin = true then s else a) :: fixO as e
  | as, _ => as
def mkFn (n : Nat) (g : FS) : Fn := fun as => match g (as ++ List.replicate (n - as.length) .dead) with
  | some (.ret r e) => some (r, fixO as e)
  | some (.next e) => some (.val .none, fixO as e)
  | _ => none
theorem fixO_len : ∀ (as : List Slot) (e : En), (fixO as e).length = as.length
  | [], e => by cases e <;> rfl
  | a :: as, [] => rfl
  | a :: as, s :: e => by
    show (fixO as e).length + 1 = as.length + 1
    rw [fixO_len as e]
theorem fixO_get : ∀ {as : List Slot} {e : En} {i : Nat} {a s : Slot}, as[i]? = some a → e[i]? = some s → (fixO as e)[i]? = some (if a.pin = true then s else a)
  | a :: as, s :: e, 0, a', s', h1, h2 => by
    have e1 : a = a' := by simpa using h1
    have e2 : s = s' := by simpa using h2
    subst e1 e2
    rfl
  | a :: as, s :: e, i + 1, a', s', h1, h2 => by
    have z := fixO_get (as := as) (e := e) (i := i) (by simpa using h1) (by simpa using h2)
    simpa [fixO] using z
  | [], _, _, _, _, h1, _ => by simp at h1
  | _ :: _, [], _, _, _, _, h2 => by simp at h2
section
variable {K : PySem.W.Frag} {n k : Nat} {N ps : List Str} {vs : List V} {as : List Slot} {w w' : Wd} {H : Hp}
theorem start_get {i : Nat} (hi : i < vs.length) : (L2.start N vs)[i]? = (vs.map some)[i]? := by
  unfold L2.start
  rw [List.getElem?_append_left (by simpa using hi)]
theorem body_stt (hN : vs.length ≤ N.length) (hH : w.H = H) (st : Stt K ⟨H, as.map Slot.pin, vs.map some⟩ w (vs.map some) as) :
    Stt K ⟨H, (as ++ List.replicate (N.length - as.length) Slot.dead).map Slot.pin, L2.start N vs⟩ w (L2.start N vs) (as ++ List.replicate (N.length - as.length) Slot.dead) := by
  have hl : vs.length = as.length := by have z := st.len; simpa using z
  have at_ : ∀ {i : Nat} {s : Slot}, (as ++ List.replicate (N.length - as.length) Slot.dead)[i]? = some s → s ≠ .dead → as[i]? = some s ∧ (L2.start N vs)[i]? = (vs.map some)[i]? := fun {i s} q nd => by
    rcases Nat.lt_or_ge i as.length with c | c
    · rw [List.getElem?_append_left c] at q
      exact ⟨q, start_get (by omega)⟩
    · rw [List.getElem?_append_right c, List.getElem?_replicate] at q
      split at q
      · cases q; exact absurd rfl nd
      · cases q
  refine ⟨st.sub, ?_, fun i s q => ?_, fun i j b l b' l' q1 q2 q3 => ?_, fun a => ⟨fun q => ?_, fun ⟨i, b, l, q1, q2⟩ => ?_⟩, rfl, fun _ _ => rfl, fun a q => by rw [← hH]; exact q, fun i l a q1 q2 => ?_⟩
  · unfold L2.start
    simp only [List.length_append, List.length_map, List.length_replicate]
    omega
  · by_cases c : s = .dead
    · subst c; trivial
    · obtain ⟨q1, q2⟩ := at_ q c
      rw [q2]
      exact st.sl i s q1
  · obtain ⟨k1, k2⟩ := at_ q1 (by simp)
    obtain ⟨k3, k4⟩ := at_ q2 (by simp)
    rw [k2, k4] at q3
    exact st.inj i j _ _ _ _ k1 k3 q3
  · obtain ⟨i, b, l, k1, k2⟩ := (st.ow a).mp q
    have c := lt_of_get k1
    exact ⟨i, b, l, by rw [List.getElem?_append_left c]; exact k1, by rw [start_get (by omega)]; exact k2⟩
  · obtain ⟨k1, k2⟩ := at_ q1 (by simp)
    rw [k2] at q2
    exact (st.ow a).mpr ⟨i, b, l, k1, q2⟩
  · obtain ⟨k1, k2⟩ := at_ q1 (by simp)
    rw [k2] at q2
    exact st.fr i l a k1 q2
/-- what the caller gets back of what it lent -/
theorem outs_stt {σ' : L2.St} {e' : En} (hN : vs.length ≤ N.length) (hH : w.H = H) (st : Stt K ⟨H, as.map Slot.pin, vs.map some⟩ w (vs.map some) as) (le : Le w w')
    (nf : ∀ (i : Nat) l, as[i]? ≠ some (Slot.own false l))
    (st' : Stt K ⟨H, (as ++ List.replicate (N.length - as.length) Slot.dead).map Slot.pin, L2.start N vs⟩ w' σ' e') :
    Stt K ⟨H, as.map Slot.pin, vs.map some⟩ ⟨w'.F, w'.H, ownO (vs.map some) (fixO as e')⟩ (vs.map some) (fixO as e') ∧ Le w ⟨w'.F, w'.H, ownO (vs.map some) (fixO as e')⟩ ∧ ∀ a, ownO (vs.map some) (fixO as e') a → w'.O a := by
  have hl : vs.length = as.length := by have z := st.len; simpa using z
  have hle : e'.length = N.length := by
    have z := congrArg List.length st'.pin
    simp only [List.length_map, List.length_append, List.length_replicate] at z
    omega
  have pin_of : ∀ {i : Nat} {a s : Slot}, as[i]? = some a → e'[i]? = some s → s.pin = a.pin := fun {i a s} q1 q2 => by
    have z : (e'.map Slot.pin)[i]? = ((as ++ List.replicate (N.length - as.length) Slot.dead).map Slot.pin)[i]? := by rw [st'.pin]
    rw [List.getElem?_map, q2, List.map_append, List.getElem?_append_left (by simpa using lt_of_get q1), List.getElem?_map, q1] at z
    simpa using z
  have same : ∀ {i : Nat} {a : Slot}, as[i]? = some a → a.pin = true → σ'[i]? = (vs.map some)[i]? := fun {i a} q1 q2 => by
    have c := lt_of_get q1
    have z := st'.pins i (by
      show ((as ++ List.replicate (N.length - as.length) Slot.dead).map Slot.pin)[i]? = some true
      rw [List.map_append, List.getElem?_append_left (by simpa using c), List.getElem?_map, q1, ← q2]
      rfl)
    rw [z]
    exact start_get (by omega)
  -- each place of the answer
  have at_ : ∀ {i : Nat} {o : Slot}, (fixO as e')[i]? = some o → ∃ a s, as[i]? = some a ∧ e'[i]? = some s ∧ o = (if a.pin = true then s else a) := fun {i o} q => by
    have c : i < as.length := by rw [← fixO_len as e']; exact lt_of_get q
    obtain ⟨a, ha⟩ : ∃ a, as[i]? = some a := ⟨_, List.getElem?_eq_getElem c⟩
    obtain ⟨s, hs⟩ : ∃ s, e'[i]? = some s := ⟨_, List.getElem?_eq_getElem (by omega)⟩
    rw [fixO_get ha hs] at q
    exact ⟨a, s, ha, hs, (Option.some.inj q).symm⟩
  have own_at : ∀ {i : Nat} {b : Bool} {l : D}, (fixO as e')[i]? = some (Slot.own b l) → ∃ a, as[i]? = some a ∧ a.pin = true ∧ b = true ∧ e'[i]? = some (Slot.own b l) := fun {i b l} q => by
    obtain ⟨a, s, k1, k2, k3⟩ := at_ q
    by_cases c : a.pin = true
    · rw [if_pos c] at k3
      subst k3
      exact ⟨a, k1, c, by have z := pin_of k1 k2; rw [c] at z; exact z, k2⟩
    · rw [if_neg c] at k3
      subst k3
      cases b with
      | true => exact absurd rfl c
      | false => exact absurd k1 (nf i l)
  have hO : ∀ a, ownO (vs.map some) (fixO as e') a → w'.O a := fun a ⟨i, b, l, q1, q2⟩ => by
    obtain ⟨a', k1, k2, k3, k4⟩ := own_at q1
    exact (st'.ow a).mpr ⟨i, b, l, k4, by rw [same k1 k2]; exact q2⟩
  have sf : Same w'.F w'.H := st'.sub
  refine ⟨⟨sf, by rw [fixO_len]; simpa using hl, fun i o q => ?_, fun i j b l b' l' q1 q2 q3 => ?_, fun a => Iff.rfl, ?_, fun _ _ => rfl, fun a q => by rw [← hH]; exact le.dom a q, fun i l a q1 q2 => ?_⟩, ⟨le.fz, le.keep, le.new, fun a q => le.own a (hO a q), le.dom⟩, hO⟩
  · obtain ⟨a, s, k1, k2, k3⟩ := at_ q
    by_cases c : a.pin = true
    · rw [if_pos c] at k3
      subst k3
      have z := st'.sl i _ k2
      rw [same k1 c] at z
      exact z
    · rw [if_neg c] at k3
      subst k3
      have z := st.sl i _ k1
      cases o with
      | dead => trivial
      | lck c => obtain ⟨a, od, u, j1, j2, j3⟩ := z; exact ⟨a, od, u, j1, le.fz _ _ j2, ow_same le.fz j3⟩
      | val b d => obtain ⟨v, j1, j2⟩ := z; exact ⟨v, j1, dq_same le.fz j2⟩
      | own b l =>
        cases b with
        | true => exact absurd rfl c
        | false => exact absurd k1 (nf i l)
  · obtain ⟨a1, k1, k2, k3, k4⟩ := own_at q1
    obtain ⟨a2, j1, j2, j3, j4⟩ := own_at q2
    exact st'.inj i j _ _ _ _ k4 j4 (by rw [same k1 k2, same j1 j2, q3])
  · refine List.ext_getElem? fun i => ?_
    rw [List.getElem?_map, List.getElem?_map]
    rcases Nat.lt_or_ge i as.length with c | c
    · obtain ⟨a, ha⟩ : ∃ a, as[i]? = some a := ⟨_, List.getElem?_eq_getElem c⟩
      obtain ⟨s, hs⟩ : ∃ s, e'[i]? = some s := ⟨_, List.getElem?_eq_getElem (by omega)⟩
      rw [fixO_get ha hs, ha]
      show some (Slot.pin _) = some a.pin
      split
      · rw [pin_of ha hs]
      · rfl
    · rw [List.getElem?_eq_none (by rw [fixO_len]; exact c), List.getElem?_eq_none c]
  · obtain ⟨a', k1, k2, k3, k4⟩ := own_at q1
    cases k3
theorem body_run {g : FS} {Q : VK} {E : XK} (hN : ps.length ≤ N.length) (q : spD K ps.length (mkFn N.length g) vs H Q E) : tS K g { nx := fun _ H' => Q .non H', rt := Q } (L2.start N vs) H := by
  obtain ⟨w, as, r, outs, hH, hv, st, hm, q⟩ := q
  have hl : vs.length = as.length := by have z := st.len; simpa using z
  have hN' : vs.length ≤ N.length := by omega
  have nf : ∀ (i : Nat) l, as[i]? ≠ some (Slot.own false l) := fun i l z => by
    obtain ⟨a, us, k1, k2, k3, k4⟩ := st.sl i _ z
    have y : H a = none := st.fr i l a z k1
    rw [hH, y] at k2
    cases k2
  unfold mkFn at hm
  cases hg : g (as ++ List.replicate (N.length - as.length) Slot.dead) with
  | none => simp only [hg] at hm; cases hm
  | some fl =>
    refine ⟨_, w, _, fl, hH, body_stt hN' hH st, hg, ?_⟩
    simp only [hg] at hm
    cases fl with
    | brk e' => cases hm
    | cont e' => cases hm
    | next e' =>
      cases hm
      intro σ' w' st' le
      obtain ⟨k1, k2, k3⟩ := outs_stt hN' hH st le nf st'
      exact q .non ⟨w'.F, w'.H, ownO (vs.map some) (fixO as e')⟩ k1 k2 Dq.non
    | ret r' e' =>
      cases hm
      intro v σ' w' st' le ok
      obtain ⟨k1, k2, k3⟩ := outs_stt hN' hH st le nf st'
      refine q v ⟨w'.F, w'.H, ownO (vs.map some) (fixO as e')⟩ k1 k2 ?_
      cases r with
      | val d => exact ok
      | fresh l =>
        obtain ⟨a, us, j1, j2, j3, j4, j5, j6⟩ := ok
        exact ⟨a, us, j1, j2, j3, fun z => j4 (k3 a z), j5, j6⟩
theorem d_fn {P : Program} {w : World} {mg : Str → Option Value} {base : Heap} {x qual : Str} {params : Arguments} {body : List Stmt} {scope : Scope} {f : Addr} {fd : FuncData} {g : FS} (F : FunD K x qual params body scope [] [] f fd) (S : FnScope N ps scope) (hN : ps.length ≤ N.length)
    (hb : ∀ (cdv : Value) (A : Around) (outer : List Env) (s : Shared) (H : Hp) (E : XK), Room k (A.deeper (envOfC qual scope s.heap.objs.size f cdv)) → PSs (cxOf CX0 P w K mg base N qual scope f cdv A outer s H E).nox body (tS K g)) :
    FnOk P w K mg base CX0 (k + 1) f fd ps (spD K ps.length (mkFn N.length g)) :=
  F.ok S (fun vs H Q E h => by obtain ⟨_, _, _, _, _, hv, _⟩ := h; exact hv) fun cdv A outer s H vs Q E hr h => ⟨tS K g, (hb cdv A outer s H E hr).nox, body_run hN h⟩
end
end DL

set_option Elab.async false
set_option linter.all false
set_option maxRecDepth 100000
set_option maxHeartbeats 1000000
/-! DL8: targets, statements, loops. -/
namespace DL
open PySem PySem.Spec PyProof.Rows L2

def setR : Res → Slot
  | .val d => .val false d
  | .fresh l => .own false l
theorem ResOK.later {K : PySem.W.Frag} {H0 : Hp} {w w' : Wd} {v : V} {r : Res} (h : ResOK K H0 w v r) (le : Le w w') (s : Same w.F w.H) : ResOK K H0 w' v r := by
  cases r with
  | val d => exact dq_same le.fz h
  | fresh l =>
    obtain ⟨a, vs, h1, h2, h3, h4, h5, h6⟩ := h
    refine ⟨a, vs, h1, le.keep a _ h2 h4, ?_, fun z => ?_, h5, ow_same le.fz h6⟩
    · cases q : w'.F a with
      | none => rfl
      | some o =>
        rcases le.new a o q with z | z | z | ⟨xs, z⟩
        · rw [z] at h3; cases h3
        · rw [z] at h2; cases h2
        · exact absurd z h4
        · rw [z] at h2; cases h2; exact (ow_ntup h6).elim
    · rcases le.own a z with z | z
      · exact h4 z
      · rw [z] at h2; cases h2
section
variable {K : PySem.W.Frag} {B : Bd} {w w' : Wd} {σ : L2.St} {e : En} {v : V}
/-- a slot that is not lent is stored -/
theorem set_stt (st : Stt K B w' σ e) (le : Le w w') {r : Res} (ok : ResOK K w.H w' v r) (hw : ∀ a, w.H a = none → B.H0 a = none) {i : Nat} {s : Slot} (hi : e[i]? = some s) (np : s.pin = false) :
    Stt K B ⟨w'.F, w'.H, ownO (σ.set i (some v)) (e.set i (setR r))⟩ (σ.set i (some v)) (e.set i (setR r)) ∧ Le w ⟨w'.F, w'.H, ownO (σ.set i (some v)) (e.set i (setR r))⟩ := by
  have hl := lt_of_get hi
  have hlσ : i < σ.length := by rw [st.len]; exact hl
  -- the new slot, when it is an own one
  have newO : ∀ {b : Bool} {l : D}, setR r = Slot.own b l → b = false ∧ ∃ a vs, v = .ref a ∧ w'.H a = some vs ∧ w'.F a = none ∧ ¬ w'.O a ∧ w.H a = none ∧ OwD K w'.F vs l := fun {b l} q => by
    cases r with
    | val d => cases q
    | fresh l' =>
      cases q
      obtain ⟨a, vs, h⟩ := ok
      exact ⟨rfl, a, vs, h⟩
  have own_at : ∀ {j : Nat} {b : Bool} {l : D}, (e.set i (setR r))[j]? = some (Slot.own b l) → (i = j ∧ setR r = Slot.own b l ∧ (σ.set i (some v))[j]? = some (some v)) ∨ (i ≠ j ∧ e[j]? = some (Slot.own b l) ∧ (σ.set i (some v))[j]? = σ[j]?) := fun {j b l} q => by
    rw [get_set] at q
    by_cases c : i = j
    · subst c
      rw [if_pos ⟨rfl, hl⟩] at q
      exact .inl ⟨rfl, Option.some.inj q, List.getElem?_set_self hlσ⟩
    · rw [if_neg fun z => c z.1] at q
      exact .inr ⟨c, q, List.getElem?_set_ne c⟩
  have hO : ∀ a, ownO (σ.set i (some v)) (e.set i (setR r)) a → w'.O a ∨ w.H a = none := fun a ⟨j, b, l, q1, q2⟩ => by
    rcases own_at q1 with ⟨rfl, k2, k3⟩ | ⟨k1, k2, k3⟩
    · obtain ⟨_, c, vs, h1, h2, h3, h4, h5, h6⟩ := newO k2
      rw [k3, h1] at q2
      cases q2
      exact .inr h5
    · rw [k3] at q2
      exact .inl ((st.ow a).mpr ⟨j, b, l, k2, q2⟩)
  refine ⟨⟨st.sub, by rw [List.length_set, List.length_set]; exact st.len, fun j s q => ?_, fun j k b l b' l' q1 q2 q3 => ?_, fun a => Iff.rfl, ?_, fun j q => ?_, st.dom, fun j l a q1 q2 => ?_⟩,
    ⟨le.fz, le.keep, le.new, fun a q => ?_, le.dom⟩⟩
  · rw [get_set] at q
    by_cases c : i = j
    · subst c
      rw [if_pos ⟨rfl, hl⟩] at q
      have e1 : setR r = s := Option.some.inj q
      rw [List.getElem?_set_self hlσ]
      cases r with
      | val d => subst e1; exact ⟨v, rfl, ok⟩
      | fresh l =>
        subst e1
        obtain ⟨a, vs, h1, h2, h3, h4, h5, h6⟩ := ok
        exact ⟨a, vs, by rw [h1], h2, h3, h6⟩
    · rw [if_neg fun z => c z.1] at q
      rw [List.getElem?_set_ne c]
      exact st.sl j s q
  · rcases own_at q1 with ⟨rfl, k2, k3⟩ | ⟨k1, k2, k3⟩
    · rcases own_at q2 with ⟨rfl, j2, j3⟩ | ⟨j1, j2, j3⟩
      · rfl
      · obtain ⟨_, a, vs, h1, h2, h3, h4, h5, h6⟩ := newO k2
        rw [k3, j3, h1] at q3
        exact absurd ((st.ow a).mpr ⟨k, b', l', j2, q3.symm⟩) h4
    · rcases own_at q2 with ⟨rfl, j2, j3⟩ | ⟨j1, j2, j3⟩
      · obtain ⟨_, a, vs, h1, h2, h3, h4, h5, h6⟩ := newO j2
        rw [k3, j3, h1] at q3
        exact absurd ((st.ow a).mpr ⟨j, b, l, k2, q3⟩) h4
      · rw [k3, j3] at q3
        exact st.inj j k _ _ _ _ k2 j2 q3
  · rw [← st.pin, List.map_set]
    refine List.ext_getElem? fun k => ?_
    rw [get_set]
    split
    · rename_i q
      rw [← q.1, List.getElem?_map, hi]
      show some (Slot.pin (setR r)) = some s.pin
      rw [np]
      cases r <;> rfl
    · rfl
  · by_cases c : i = j
    · subst c
      rw [← st.pin, List.getElem?_map, hi] at q
      have e1 : s.pin = true := Option.some.inj q
      rw [np] at e1
      cases e1
    · rw [List.getElem?_set_ne c]
      exact st.pins j q
  · rcases own_at q1 with ⟨rfl, k2, k3⟩ | ⟨k1, k2, k3⟩
    · obtain ⟨_, c, vs, h1, h2, h3, h4, h5, h6⟩ := newO k2
      rw [k3, h1] at q2
      cases q2
      exact hw _ h5
    · rw [k3] at q2
      exact st.fr j l a k2 q2
  · rcases hO a q with z | z
    · exact le.own a z
    · exact .inr z
end

/-! ### targets -/
abbrev FG := D → En → Option En
/-- the target stores d, at the places ts alone -/
def tG (K : PySem.W.Frag) (ts : List Nat) (g : FG) : TG := fun v σ H Q => ∃ B w e d e', w.H = H ∧ Stt K B w σ e ∧ Dq K w.F v d ∧ g d e = some e' ∧
  ∀ σ' w', Stt K B w' σ' e' → Le w w' → (∀ j, j ∉ ts → σ'[j]? = σ[j]?) → Q σ' w'.H
def putV (i : Nat) (s : Slot) : En → Option En := fun e => match e[i]? with
  | some o => if o.pin = true then none else some (e.set i s)
  | none => none
def gNm (i : Nat) : FG := fun d => putV i (.val false d)
section
variable {X : Cx} {pos : Pos} {t : Expr} {es : List Expr}
theorem g_name {i : Nat} {x : Str} (h : PG X (.Name x pos) (gName i)) : PG X (.Name x pos) (tG X.K [i] (gNm i)) := by
  refine pg_imp h fun v σ H Q ⟨B, w, e, d, e', hH, st, hd, hg, q⟩ => ?_
  unfold gNm putV at hg
  cases hs : e[i]? with
  | none => simp only [hs] at hg; cases hg
  | some s =>
    simp only [hs] at hg
    split at hg
    · cases hg
    · rename_i np
      cases hg
      obtain ⟨k1, k2⟩ := set_stt (r := .val d) st (Le.refl w) hd (fun a z => st.dom a z) hs (by simpa using np)
      have z := q (σ.set i (some v)) _ k1 k2 fun j hj => List.getElem?_set_ne fun c => hj (by simp [c])
      rw [← hH]
      exact z
abbrev FGs := List D → En → Option En
def tGs (K : PySem.W.Frag) (ts : List Nat) (g : FGs) : TGs := fun vs σ H Q => ∃ B w e ds e', w.H = H ∧ Stt K B w σ e ∧ Da K w.F vs ds ∧ g ds e = some e' ∧
  ∀ σ' w', Stt K B w' σ' e' → Le w w' → (∀ j, j ∉ ts → σ'[j]? = σ[j]?) → Q σ' w'.H
theorem pgs_imp {t u : TGs} (h : PGs X es t) (q : ∀ v σ H Q, u v σ H Q → t v σ H Q) : PGs X es u := ⟨fun pins s σ H v u' Q I r hw => h.run pins s σ H v u' Q I r (q _ _ _ _ hw)⟩
def hNil : FGs := fun ds e => match ds with
  | [] => some e
  | _ => none
def hCons (g : FG) (h : FGs) : FGs := fun ds e => match ds with
  | d :: r => (g d e).bind fun e1 => h r e1
  | [] => none
theorem gs_nil : PGs X [] (tGs X.K [] hNil) := by
  refine pgs_imp pgs_nil fun vs σ H Q ⟨B, w, e, ds, e', hH, st, hd, hg, q⟩ => ?_
  cases ds with
  | cons _ _ => cases hg
  | nil =>
    cases hg
    cases hd
    subst hH
    exact ⟨rfl, q σ w st (Le.refl w) fun _ _ => rfl⟩
theorem gs_cons {ts us : List Nat} {g : FG} {h : FGs} (h1 : PG X t (tG X.K ts g)) (h2 : PGs X es (tGs X.K us h)) (hs : (assignEach (t :: es) X.env).map (·.2) = assign t X.env :: (assignEach es X.env).map (·.2) := by rfl) : PGs X (t :: es) (tGs X.K (ts ++ us) (hCons g h)) := by
  refine pgs_imp (pgs_cons h1 h2 hs) fun vs σ H Q ⟨B, w, e, ds, e', hH, st, hd, hg, q⟩ => ?_
  cases ds with
  | nil => cases hg
  | cons d r =>
    obtain ⟨e1, k1, k2⟩ := Option.bind_eq_some_iff.mp hg
    obtain ⟨v, vr, e2, hv, hr⟩ := da_cons_inv hd
    refine ⟨v, vr, e2, B, w, e, d, e1, hH, st, hv, k1, fun σ1 w1 s1 l1 c1 => ?_⟩
    refine ⟨B, w1, e1, r, e', rfl, s1, dqAll_same l1.fz hr, k2, fun σ2 w2 s2 l2 c2 => q σ2 w2 s2 (l1.trans l2) fun j hj => ?_⟩
    rw [List.mem_append, not_or] at hj
    rw [c2 j hj.2, c1 j hj.1]
/-- a tuple's parts -/
def gTp (h : FGs) : FG := fun d e => match d with
  | .tuple l => h l e
  | _ => none
theorem hlen {n : Nat} {h : FGs} (hn : ∀ ds e e', h ds e = some e' → ds.length = n) : True := trivial
theorem g_tup {k n : Nat} {ts : List Nat} {h : FGs} (hc : X.calm = true) (h1 : PGs X es (tGs X.K ts h)) (hlen : ∀ ds e e', h ds e = some e' → ds.length = n) (hn : (assignEach es X.env).length = n := by rfl) (hst : (assignEach es X.env).findIdx? (·.1) = none := by rfl) :
    PG X (.Tuple es k pos) (tG X.K ts (gTp h)) := by
  refine pg_imp (pg_tup (n := n) hc h1 hn hst) fun v σ H Q ⟨B, w, e, d, e', hH, st, hd, hg, q⟩ => ?_
  cases d <;> try cases hg
  rename_i l
  cases hd with
  | tup k1 k2 =>
    refine ⟨_, _, rfl, ?_, by rw [da_len k2]; exact hlen _ _ _ hg, B, w, e, l, e', hH, st, k2, hg, q⟩
    rw [← hH]
    exact (.inl (.inl (st.sub _ _ k1)))
theorem hl_nil : ∀ ds e e', hNil ds e = some e' → ds.length = 0 := fun ds e e' h => by
  cases ds with
  | nil => rfl
  | cons _ _ => cases h
theorem hl_cons {n : Nat} {g : FG} {h : FGs} (hn : ∀ ds e e', h ds e = some e' → ds.length = n) : ∀ ds e e', hCons g h ds e = some e' → ds.length = n + 1 := fun ds e e' q => by
  cases ds with
  | nil => cases q
  | cons d r =>
    obtain ⟨e1, k1, k2⟩ := Option.bind_eq_some_iff.mp q
    rw [List.length_cons, hn _ _ _ k2]
end

/-! ### statements -/
theorem Post.later {K : PySem.W.Frag} {B : Bd} {w w' : Wd} {D : Ends} {fl : Fl} (h : Post K B w D fl) (le : Le w w') : Post K B w' D fl := by
  cases fl with
  | next e => exact fun σ w2 s l => h σ w2 s (le.trans l)
  | brk e => exact fun σ w2 s l => h σ w2 s (le.trans l)
  | cont e => exact fun σ w2 s l => h σ w2 s (le.trans l)
  | ret r e => exact fun v σ w2 s l ok => h v σ w2 s (le.trans l) ok
section
variable {X : Cx} {pos : Pos} {st : Stmt} {rest : List Stmt} {e c : Expr} {f : FV} {g h : FS} {t : FT}
def sNext : FS := fun e => some (.next e)
def sSeq (g h : FS) : FS := fun e => (g e).bind fun fl => match fl with
  | .next e1 => h e1
  | fl => some fl
theorem ss_nil : PSs X [] (tS X.K sNext) := by
  refine pss_imp pss_nil fun D σ H ⟨B, w, e, fl, hH, st, hg, q⟩ => ?_
  cases hg
  subst hH
  exact q σ w st (Le.refl w)
theorem ss_cons (h1 : PS X st (tS X.K g)) (h2 : PSs X rest (tS X.K h)) : PSs X (st :: rest) (tS X.K (sSeq g h)) := by
  refine pss_imp (pss_cons h1 h2) fun D σ H ⟨B, w, e, fl, hH, s0, hg, q⟩ => ?_
  obtain ⟨fl1, k1, k2⟩ := Option.bind_eq_some_iff.mp hg
  refine ⟨B, w, e, fl1, hH, s0, k1, ?_⟩
  cases fl1 with
  | next e1 => exact fun σ1 w1 s1 l1 => ⟨B, w1, e1, fl, rfl, s1, k2, q.later l1⟩
  | brk e1 => cases k2; exact q
  | cont e1 => cases k2; exact q
  | ret r e1 => cases k2; exact q
theorem ss_one (h1 : PS X st (tS X.K g)) : PSs X [st] (tS X.K g) := pss_one h1
theorem s_pass : PS X (.Pass pos) (tS X.K sNext) := by
  refine ps_imp ps_pass fun D σ H ⟨B, w, e, fl, hH, st, hg, q⟩ => ?_
  cases hg
  subst hH
  exact q σ w st (Le.refl w)
def sBrk : FS := fun e => some (.brk e)
def sCont : FS := fun e => some (.cont e)
theorem s_brk : PS X (.Break pos) (tS X.K sBrk) := by
  refine ps_imp ps_break fun D σ H ⟨B, w, e, fl, hH, st, hg, q⟩ => ?_
  cases hg
  subst hH
  exact q σ w st (Le.refl w)
theorem s_cont : PS X (.Continue pos) (tS X.K sCont) := by
  refine ps_imp ps_continue fun D σ H ⟨B, w, e, fl, hH, st, hg, q⟩ => ?_
  cases hg
  subst hH
  exact q σ w st (Le.refl w)
/-- what is never reached (a raise) -/
def sNo : FS := fun _ => none
theorem s_no : PS X st (tS X.K sNo) := ps_imp ps_never fun D σ H ⟨B, w, e, fl, hH, st, hg, q⟩ => by cases hg
def sExpr (f : FV) : FS := fun e => (f e).map fun p => .next p.2
theorem s_expr (he : PE X e (tV X.K f)) (hs : swapsWith e none pos.line X.env = pure false := by rfl) : PS X (.Expr e pos) (tS X.K (sExpr f)) := by
  refine ps_imp (ps_expr he hs) fun D σ H ⟨B, w, e, fl, hH, st, hg, q⟩ => ?_
  obtain ⟨⟨r, e1⟩, k1, k2⟩ := Option.map_eq_some_iff.mp hg
  subst k2
  exact ⟨B, w, e, r, e1, hH, st, k1, fun v w1 s1 l1 ok => q σ w1 s1 l1⟩
def sRet (f : FV) : FS := fun e => (f e).map fun p => .ret p.1 p.2
theorem s_ret (he : PE X e (tV X.K f)) : PS X (.Return (some e) pos) (tS X.K (sRet f)) := by
  refine ps_imp (ps_ret he) fun D σ H ⟨B, w, e, fl, hH, st, hg, q⟩ => ?_
  obtain ⟨⟨r, e1⟩, k1, k2⟩ := Option.map_eq_some_iff.mp hg
  subst k2
  exact ⟨B, w, e, r, e1, hH, st, k1, fun v w1 s1 l1 ok => q v σ w1 s1 l1 (ok.mono fun a z => st.dom a z)⟩
def sIf (t : FT) (g h : FS) : FS := fun e => (t e).bind fun p => if p.1 = true then g p.2 else h p.2
theorem s_if {a b : List Stmt} (hc : PT X c (tT X.K t)) (ha : PSs X a (tS X.K g)) (hb : PSs X b (tS X.K h)) : PS X (.If c a b pos) (tS X.K (sIf t g h)) := by
  refine ps_imp (ps_if hc ha hb) fun D σ H ⟨B, w, e, fl, hH, st, hg, q⟩ => ?_
  obtain ⟨⟨b1, e1⟩, k1, k2⟩ := Option.bind_eq_some_iff.mp hg
  refine ⟨B, w, e, b1, e1, hH, st, k1, fun w1 s1 l1 => ?_⟩
  cases b1 with
  | true => exact ⟨B, w1, e1, fl, rfl, s1, k2, q.later l1⟩
  | false => exact ⟨B, w1, e1, fl, rfl, s1, k2, q.later l1⟩
/-- name = value -/
def sSet (i : Nat) (f : FV) : FS := fun e => (f e).bind fun p => (putV i (setR p.1) p.2).map .next
theorem put_some {i : Nat} {s : Slot} {e e' : En} (h : putV i s e = some e') : ∃ o, e[i]? = some o ∧ o.pin = false ∧ e' = e.set i s := by
  unfold putV at h
  cases hs : e[i]? with
  | none => simp only [hs] at h; cases h
  | some o =>
    simp only [hs] at h
    split at h
    · cases h
    · rename_i np
      cases h
      exact ⟨o, rfl, by simpa using np, rfl⟩
theorem s_set {i : Nat} {x : Str} {pos' : Pos} (hN : X.N.Nodup) (hi : X.N[i]? = some x) (hx : Loc X.env.scope x) (he : PE X e (tV X.K f)) (hs : swapsWith e (some (.Name x pos')) pos.line X.env = pure false := by rfl)
    (hf : X.fn x = true ∨ X.env.scope.names.lookup x = some .local := by first | exact .inl rfl | exact .inr rfl | assumption) : PS X (.Assign [.Name x pos'] e pos) (tS X.K (sSet i f)) := by
  refine ps_imp (ps_set hN hi hx he hs hf) fun D σ H ⟨B, w, e, fl, hH, st, hg, q⟩ => ?_
  obtain ⟨⟨r, e1⟩, k1, k2⟩ := Option.bind_eq_some_iff.mp hg
  obtain ⟨e2, k3, k4⟩ := Option.map_eq_some_iff.mp k2
  subst k4
  obtain ⟨o, k5, k6, k7⟩ := put_some k3
  subst k7
  refine ⟨B, w, e, r, e1, hH, st, k1, fun v w1 s1 l1 ok => ?_⟩
  obtain ⟨j1, j2⟩ := set_stt s1 l1 ok (fun a z => st.dom a z) k5 k6
  exact q _ ⟨w1.F, w1.H, ownO (σ.set i (some v)) (e1.set i (setR r))⟩ j1 j2
/-- target = value -/
def sAsg (g : FG) (f : FV) : FS := fun e => (f e).bind fun p => match p.1 with
  | .val d => (g d p.2).map .next
  | _ => none
theorem s_asg {ts : List Nat} {gg : FG} {tg : Expr} (he : PE X e (tV X.K f)) (hg : PG X tg (tG X.K ts gg)) (hs : swapsWithSole [tg] e pos.line X.env = pure false := by rfl) (hw : swappedStores [tg] e X.env = pure none := by rfl)
    (h1 : (assignEach [tg] X.env).map (·.2) = [assign tg X.env] := by rfl) : PS X (.Assign [tg] e pos) (tS X.K (sAsg gg f)) := by
  refine ps_imp (ps_asg he hg hs hw h1) fun D σ H ⟨B, w, e, fl, hH, st, hf, q⟩ => ?_
  obtain ⟨⟨r, e1⟩, k1, k2⟩ := Option.bind_eq_some_iff.mp hf
  refine ⟨B, w, e, r, e1, hH, st, k1, fun v w1 s1 l1 ok => ?_⟩
  cases r with
  | fresh l => cases k2
  | val d =>
    obtain ⟨e2, k3, k4⟩ := Option.map_eq_some_iff.mp k2
    subst k4
    exact ⟨B, w1, e1, d, e2, rfl, s1, ok, k3, fun σ2 w2 s2 l2 _ => q σ2 w2 s2 (l1.trans l2)⟩
/-- a, b = x, y (names of the frame alone) -/
def sPar (i j : Nat) (f f2 : FV) : FS := fun e => (f e).bind fun p => (f2 p.2).bind fun q => (putV i (setR p.1) q.2).bind fun e1 => (putV j (setR q.1) e1).map .next
theorem s_par {i j : Nat} {x y : Str} {a b : Expr} {f2 : FV} {px py pt : Pos} {kt k2 pt2} (hc : X.calm = true) (hN : X.N.Nodup) (hi : X.N[i]? = some x) (hj : X.N[j]? = some y) (hij : i ≠ j)
    (hx : X.env.scope.names.lookup x = some .local) (hy : X.env.scope.names.lookup y = some .local) (h1 : PE X a (tV X.K f)) (h2 : PE X b (tV X.K f2))
    (hw : swappedStores [.Tuple [.Name x px, .Name y py] kt pt] (.Tuple [a, b] k2 pt2) X.env = pure (some [x, y]))
    (hs : swapsWithSole [.Tuple [.Name x px, .Name y py] kt pt] (.Tuple [a, b] k2 pt2) pos.line X.env = pure false := by rfl)
    (n1 : starEach [a, b] X.env = (false, eval a X.env) :: starEach [b] X.env := by rfl) (n2 : starEach [b] X.env = (false, eval b X.env) :: starEach [] X.env := by rfl) :
    PS X (.Assign [.Tuple [.Name x px, .Name y py] kt pt] (.Tuple [a, b] k2 pt2) pos) (tS X.K (sPar i j f f2)) := by
  refine ps_imp (ps_par hc hN hi hj hij hx hy (pa_cons h1 (pa_cons h2 pa_nil n2) n1) hw hs) fun D σ H ⟨B, w, e, fl, hH, st, hf, q⟩ => ?_
  obtain ⟨⟨r1, e1⟩, k1, k2⟩ := Option.bind_eq_some_iff.mp hf
  obtain ⟨⟨r2, e2⟩, k3, k4⟩ := Option.bind_eq_some_iff.mp k2
  obtain ⟨e3, k5, k6⟩ := Option.bind_eq_some_iff.mp k4
  obtain ⟨e4, k7, k8⟩ := Option.map_eq_some_iff.mp k6
  subst k8
  obtain ⟨o1, j1, j2, j3⟩ := put_some k5
  obtain ⟨o2, m1, m2, m3⟩ := put_some k7
  subst j3 m3
  refine ⟨B, w, e, r1, e1, hH, st, k1, fun v1 w1 s1 l1 ok1 => ?_⟩
  refine ⟨B, w1, e1, r2, e2, rfl, s1, k3, fun v2 w2 s2 l2 ok2 => ?_⟩
  refine ⟨v1, v2, rfl, ?_⟩
  have l12 := l1.trans l2
  have ok1' := ok1.later l2 s1.sub
  -- both new lists stand apart
  obtain ⟨a1, a2⟩ := set_stt s2 l12 ok1' (fun a z => st.dom a z) j1 j2
  have ok2' : ResOK X.K w.H ⟨w2.F, w2.H, ownO (σ.set i (some v1)) (e2.set i (setR r1))⟩ v2 r2 := by
    cases r2 with
    | val d => exact ok2
    | fresh l =>
      obtain ⟨c, us, c1, c2, c3, c4, c5, c6⟩ := ok2
      refine ⟨c, us, c1, c2, c3, fun z => ?_, l1.dom c c5, c6⟩
      obtain ⟨n, b, l', z1, z2⟩ := z
      rw [get_set] at z1
      by_cases y : i = n
      · subst y
        rw [if_pos ⟨rfl, lt_of_get j1⟩] at z1
        rw [List.getElem?_set_self (by rw [s2.len]; exact lt_of_get j1)] at z2
        cases r1 with
        | val d => cases z1
        | fresh l1' =>
          obtain ⟨d, ds, d1, d2, d3, d4, d5, d6⟩ := ok1
          rw [d1] at z2
          cases z2
          rw [c5] at d2
          cases d2
      · rw [if_neg fun q => y q.1] at z1
        rw [List.getElem?_set_ne y] at z2
        exact c4 ((s2.ow c).mpr ⟨n, b, l', z1, z2⟩)
  obtain ⟨b1, b2⟩ := set_stt a1 a2 ok2' (fun a z => st.dom a z) m1 m2
  exact q _ ⟨w2.F, w2.H, ownO ((σ.set i (some v1)).set j (some v2)) ((e2.set i (setR r1)).set j (setR r2))⟩ b1 b2

/-! ### while -/
def sWhile (t : FT) (g : FS) : Nat → FS
  | 0 => fun _ => none
  | n + 1 => fun e => (t e).bind fun p => if p.1 = true then (g p.2).bind (fun fl => match fl with
      | .next e1 => sWhile t g n e1
      | .cont e1 => sWhile t g n e1
      | .brk e1 => some (.next e1)
      | .ret r e1 => some (.ret r e1)) else some (.next p.2)
theorem s_while {body : List Stmt} (n : Nat) (hp : PassesOwn (model X.prog X.w) X.A X.env X.xe) (hc : PT X c (tT X.K t)) (hb : PSs X body (tS X.K g)) : PS X (.While c body [] pos) (tS X.K (sWhile t g n)) := by
  refine ps_imp (ps_while hp hc hb) fun D σ H ⟨B, w, e, fl, hH, st, hg, q⟩ => ?_
  refine ⟨fun m σ H => ∃ w e fl, w.H = H ∧ Stt X.K B w σ e ∧ sWhile t g m e = some fl ∧ Post X.K B w D fl, ⟨n, w, e, fl, hH, st, hg, q⟩, ?_⟩
  rintro m σ H ⟨w, e, fl, hH, st, hg, q⟩
  cases m with
  | zero => cases hg
  | succ m =>
    obtain ⟨⟨b1, e1⟩, k1, k2⟩ := Option.bind_eq_some_iff.mp hg
    refine ⟨B, w, e, b1, e1, hH, st, k1, fun w1 s1 l1 => ?_⟩
    cases b1 with
    | false =>
      have k2' : fl = .next e1 := (Option.some.inj k2).symm
      subst k2'
      exact q σ w1 s1 l1
    | true =>
      obtain ⟨fl1, k3, k4⟩ := Option.bind_eq_some_iff.mp (show ((g e1).bind _) = some fl from k2)
      refine ⟨fun σ' H' => ∃ w' e' fl', w'.H = H' ∧ Stt X.K B w' σ' e' ∧ sWhile t g m e' = some fl' ∧ Post X.K B w' D fl', fun σ' H' z => ⟨m, Nat.lt_succ_self m, z⟩, B, w1, e1, fl1, rfl, s1, k3, ?_⟩
      have q1 := q.later l1
      cases fl1 with
      | next e2 => exact fun σ2 w2 s2 l2 => ⟨w2, e2, fl, rfl, s2, k4, q1.later l2⟩
      | cont e2 => exact fun σ2 w2 s2 l2 => ⟨w2, e2, fl, rfl, s2, k4, q1.later l2⟩
      | brk e2 => cases k4; exact fun σ2 w2 s2 l2 => q1 σ2 w2 s2 l2
      | ret r e2 => cases k4; exact fun v σ2 w2 s2 l2 ok => q1 v σ2 w2 s2 l2 ok

/-! ### what is walked -/
abbrev FI := En → Option (List D × En)
/-- what is handed on by a walk: frozen data, perhaps with a new object, or a tuple that stands -/
def YOK (K : PySem.W.Frag) (F H : Hp) (x : V) (H' : Hp) (d : D) : Prop := (H' = H ∧ Dq K F x d) ∨ (∃ p o, H p = none ∧ H' = upd H p o ∧ ∀ F', Same F F' → F' p = some o → Dq K F' x d) ∨
  (∃ q xs, H' = H ∧ H q = some (.tup xs) ∧ ∀ F', Same F F' → F' q = some (.tup xs) → Dq K F' x d) ∨ (∃ p o q xs, H p = none ∧ H' = upd H p o ∧ H q = some (.tup xs) ∧ ∀ F', Same F F' → F' p = some o → F' q = some (.tup xs) → Dq K F' x d)
theorem yok_world {K : PySem.W.Frag} {F H H' : Hp} {x : V} {d : D} {B : Bd} {w : Wd} {σ : L2.St} {e : En} (y : YOK K F H x H' d) (st : Stt K B w σ e) (hH : w.H = H) (sF : Same F w.F) : ∃ w2, w2.H = H' ∧ Stt K B w2 σ e ∧ Le w w2 ∧ Dq K w2.F x d := by
  rcases y with ⟨a1, a2⟩ | ⟨p, o, a1, a2, a3⟩ | ⟨q, xs, a1, a2, a3⟩ | ⟨p, o, q, xs, a1, a2, a4, a3⟩
  · exact ⟨w, by rw [a1]; exact hH, st, Le.refl w, dq_same sF a2⟩
  · obtain ⟨c1, c2, c3⟩ := st.add (o := o) (p := p) (by rw [hH]; exact a1)
    exact ⟨w.add p o, by rw [a2, ← hH]; rfl, c2, c1, a3 _ (sF.trans c1.fz) c3⟩
  · obtain ⟨c1, c2⟩ := st.addT (q := q) (xs := xs) (by rw [hH]; exact a2)
    exact ⟨_, by rw [a1]; exact hH, c2, c1, a3 _ (sF.trans c1.fz) upd_same⟩
  · obtain ⟨b1, b2⟩ := st.addT (q := q) (xs := xs) (by rw [hH]; exact a4)
    obtain ⟨c1, c2, c3⟩ := b2.add (o := o) (p := p) (by rw [← hH] at a1; exact a1)
    have sF2 := (sF.trans b1.fz).trans c1.fz
    exact ⟨_, by rw [a2, ← hH]; rfl, c2, b1.trans c1, a3 _ sF2 c3 (c1.fz _ _ upd_same)⟩
structure ItOK (K : PySem.W.Frag) (F : Hp) (J : It) (ds : List D) : Prop where
  go : ∀ i H, Same F H → i < ds.length → J.go i H
  stop : ∀ H, Same F H → J.stop ds.length H
  yld : ∀ (i : Nat) H x H' d, Same F H → ds[i]? = some d → J.yld i H x H' → YOK K F H x H' d
def tI (K : PySem.W.Frag) (f : FI) : TI := fun σ H R => ∃ B w e ds e', w.H = H ∧ Stt K B w σ e ∧ f e = some (ds, e') ∧ ∀ J w', Stt K B w' σ e' → Le w w' → ItOK K w'.F J ds → R J w'.H
def sForGo (gt : FG) (g : FS) : List D → FS
  | [] => fun e => some (.next e)
  | d :: ds => fun e => (gt d e).bind fun e1 => (g e1).bind fun fl => match fl with
      | .next e2 => sForGo gt g ds e2
      | .cont e2 => sForGo gt g ds e2
      | .brk e2 => some (.next e2)
      | .ret r e2 => some (.ret r e2)
def sFor (it : FI) (gt : FG) (g : FS) : FS := fun e => (it e).bind fun p => sForGo gt g p.1 p.2
theorem s_for {tg iter : Expr} {body : List Stmt} {it : FI} {ts : List Nat} {gt : FG} (hp : PassesOwn (model X.prog X.w) X.A X.env X.xe) (hc : X.calm = true) (hi : PI X tg iter (tI X.K it)) (hg : PG X tg (tG X.K ts gt)) (hb : PSs X body (tS X.K g))
    (hs : ∀ x, foldedSetIterable iter X.env x = pure x := by intro _; rfl) : PS X (.For tg iter body [] pos) (tS X.K (sFor it gt g)) := by
  refine ps_imp (ps_for hp hc hi hg hb hs) fun D σ H ⟨B, w, e, fl, hH, st, hf, q⟩ => ?_
  obtain ⟨⟨ds, e1⟩, k1, k2⟩ := Option.bind_eq_some_iff.mp hf
  refine ⟨B, w, e, ds, e1, hH, st, k1, fun J w1 s1 l1 ok => ?_⟩
  refine ⟨fun i m σ H => m + i = ds.length ∧ ∃ w e fl, w.H = H ∧ Stt X.K B w σ e ∧ Same w1.F w.F ∧ sForGo gt g (ds.drop i) e = some fl ∧ Post X.K B w D fl,
    ⟨ds.length, by simp, w1, e1, fl, rfl, s1, Same.refl _, by rw [List.drop_zero]; exact k2, q.later l1⟩, ?_⟩
  rintro i m σ H ⟨hm, w, e, fl, hH, st, sF, hg, q⟩
  have sH : Same w1.F H := by rw [← hH]; exact sF.trans st.sub
  by_cases hlt : i < ds.length
  · obtain ⟨d, hd⟩ : ∃ d, ds[i]? = some d := ⟨_, List.getElem?_eq_getElem hlt⟩
    have e0 : ds.drop i = d :: ds.drop (i + 1) := by
      rw [List.drop_eq_getElem_cons hlt]
      congr 1
      rw [List.getElem?_eq_getElem hlt] at hd
      exact Option.some.inj hd
    rw [e0] at hg
    obtain ⟨e2, j1, j2⟩ := Option.bind_eq_some_iff.mp hg
    obtain ⟨fl1, j3, j4⟩ := Option.bind_eq_some_iff.mp j2
    refine .inr ⟨ok.go i H sH hlt, fun σ' H' => ∃ w' e' fl', w'.H = H' ∧ Stt X.K B w' σ' e' ∧ Same w1.F w'.F ∧ sForGo gt g (ds.drop (i + 1)) e' = some fl' ∧ Post X.K B w' D fl', fun σ' H' z => ⟨m - 1, by omega, by omega, z⟩, fun x H' y => ?_⟩
    -- the item, in a world that may hold a new pair
    obtain ⟨w2, h2, s2, l2, dd⟩ : ∃ w2, w2.H = H' ∧ Stt X.K B w2 σ e ∧ Le w w2 ∧ Dq X.K w2.F x d := by
      exact yok_world (ok.yld i H x H' d sH hd y) st hH sF
    refine ⟨B, w2, e, d, e2, h2, s2, dd, j1, fun σ3 w3 s3 l3 _ => ?_⟩
    refine ⟨B, w3, e2, fl1, rfl, s3, j3, ?_⟩
    have q3 := (q.later l2).later l3
    have sF3 : Same w1.F w3.F := (sF.trans l2.fz).trans l3.fz
    cases fl1 with
    | next e4 => exact fun σ4 w4 s4 l4 => ⟨w4, e4, fl, rfl, s4, sF3.trans l4.fz, j4, q3.later l4⟩
    | cont e4 => exact fun σ4 w4 s4 l4 => ⟨w4, e4, fl, rfl, s4, sF3.trans l4.fz, j4, q3.later l4⟩
    | brk e4 => cases j4; exact fun σ4 w4 s4 l4 => q3 σ4 w4 s4 l4
    | ret r e4 => cases j4; exact fun v σ4 w4 s4 l4 okr => q3 v σ4 w4 s4 l4 okr
  · have e0 : i = ds.length := by omega
    subst e0
    rw [List.drop_length] at hg
    cases hg
    refine .inl ⟨ok.stop H sH, ?_⟩
    rw [← hH]
    exact q σ w st (Le.refl w)
end
end DL

set_option Elab.async false
set_option linter.all false
set_option maxRecDepth 100000
set_option maxHeartbeats 1000000
/-! DL9: what is walked, comprehensions, methods of lists. -/
namespace DL
open PySem PySem.Spec PyProof.Rows L2

/-! ### a walk of the layer as an iterable of data -/
theorem it_of {K : PySem.W.Frag} {F : Hp} {J : It} {n : Nat} {G : Hp → Prop} {Y : Nat → Hp → V → Hp → Prop} {ds : List D} (W : Walk J n G Y) (hn : n = ds.length) (hG : ∀ H, Same F H → G H)
    (hY : ∀ (i : Nat) H x H' d, Same F H → ds[i]? = some d → Y i H x H' → (H' = H ∧ Dq K F x d) ∨ (∃ p o, H p = none ∧ H' = upd H p o ∧ ∀ F', Same F F' → F' p = some o → Dq K F' x d)) : ItOK K F J ds where
  go := fun i H s h => W.goes i H (by omega) (hG H s)
  stop := fun H s => by rw [← hn]; exact W.stops H (hG H s)
  yld := fun i H x H' d s h y => Or.imp_right Or.inl (hY i H x H' d s h (W.yields i H x H' (by rw [hn]; exact lt_of_get h) (hG H s) y))
theorem it_list {K : PySem.W.Frag} {F : Hp} {a : Addr} {vs : List V} {ds : List D} (h : LstAt K F a vs) (hd : Da K F vs ds) : ItOK K F (Itl K a) ds :=
  it_of walk_list (da_len hd) (fun H s => la_sql (la_same s h)) fun i H x H' d s q y => by
    obtain ⟨e1, e2⟩ := y
    obtain ⟨v, k1, k2⟩ := da_get hd q
    rw [e2] at k1
    cases k1
    exact .inl ⟨e1, k2⟩
theorem it_tup {K : PySem.W.Frag} {F : Hp} {a : Addr} {vs : List V} {ds : List D} (h : SqT K F a vs) (hd : Da K F vs ds) : ItOK K F (Itt K a) ds :=
  it_of walk_tup (da_len hd) (fun H s => same_t s h) fun i H x H' d s q y => by
    obtain ⟨e1, e2⟩ := y
    obtain ⟨v, k1, k2⟩ := da_get hd q
    rw [e2] at k1
    cases k1
    exact .inl ⟨e1, k2⟩
/-- lo, lo + 1, .. -/
def rangeD (lo : Int) (n : Nat) : List D := (List.range n).map fun i => .int (lo + (i : Nat))
theorem it_range {K : PySem.W.Frag} {F : Hp} {lo : Int} {n : Nat} : ItOK K F (Itr lo n) (rangeD lo n) :=
  it_of walk_range (by simp [rangeD]) (fun _ _ => trivial) fun i H x H' d s q y => by
    obtain ⟨e1, e2⟩ := y
    unfold rangeD at q
    rw [List.getElem?_map] at q
    obtain ⟨k, k1, k2⟩ := Option.map_eq_some_iff.mp q
    have e3 := List.getElem?_eq_some_iff.mp k1
    obtain ⟨e4, e5⟩ := e3
    rw [List.getElem_range] at e5
    subst e5 k2 e2
    exact .inl ⟨e1, Dq.int _⟩
/-- pairs of two lists -/
def zipD (a b : List D) : List D := (a.zip b).map fun p => .tuple [p.1, p.2]
theorem dq_pair {K : PySem.W.Frag} {F F' : Hp} {p : Addr} {x y : V} {a b : D} (s : Same F F') (h : F' p = some (.tup [x, y])) (h1 : Dq K F x a) (h2 : Dq K F y b) : Dq K F' (.ref p) (.tuple [a, b]) :=
  .tup h (.cons (dq_same s h1) (.cons (dq_same s h2) .nil))
theorem it_pair {K : PySem.W.Frag} {F : Hp} {J : It} {n : Nat} {G : Hp → Prop} {xs ys : Nat → Option V} {da db : List D} (W : Walk J n G (YPair xs ys)) (hn : n = (zipD da db).length) (hG : ∀ H, Same F H → G H)
    (hx : ∀ (i : Nat) v d, xs i = some v → da[i]? = some d → Dq K F v d) (hy : ∀ (i : Nat) v d, ys i = some v → db[i]? = some d → Dq K F v d) : ItOK K F J (zipD da db) :=
  it_of W hn hG fun i H x H' d s q y => by
    obtain ⟨T, x1, y1, e1, e2, e3, e4, e5⟩ := y
    unfold zipD at q
    rw [List.getElem?_map] at q
    obtain ⟨⟨a, b⟩, k1, k2⟩ := Option.map_eq_some_iff.mp q
    obtain ⟨k3, k4⟩ := List.getElem?_zip_eq_some.mp k1
    subst k2 e1
    exact .inr ⟨T, _, e2, e3, fun F' s' h => dq_pair s' h (hx i x1 a e4 k3) (hy i y1 b e5 k4)⟩

/-! ### the iterables -/
section
variable {X : Cx} {tg a b : Expr} {fa fb : FE} {p pos tpos : Pos} {elts : List Expr} {kk : Nat}
/-- a list or a tuple -/
def iSeq (K : PySem.W.Frag) (tl : TE) : TI := fun σ H R => tl σ H fun x H1 => ∃ a, x = .ref a ∧ ((∃ xs, SqL K H1 a xs ∧ R (Itl K a) H1) ∨ (∃ xs, SqT K H1 a xs ∧ R (Itt K a) H1))
theorem pi_seq {tl : TE} (hl : PE X a tl) : PI X tg a (iSeq X.K tl) := by
  refine ⟨fun pins s σ H R I h => thn (hl.run pins s σ H _ I h) fun v s1 ⟨x, H1, I1, r1, c, e, q⟩ => ?_⟩
  subst e
  cases r1
  have hfp : ∀ b ∈ [s1.heap.objs.size], FpOk X pins H1 b := fun b hb => by
    have e : b = s1.heap.objs.size := by simpa using hb
    subst e
    exact I1.fpOk (Nat.le_refl _) (I1.hok.fresh (Nat.le_refl _))
  rcases q with ⟨xs, hq, q⟩ | ⟨xs, hq, q⟩
  · obtain ⟨its, rv, pl, hz⟩ := I1.list hq
    exact wpAny_pyIter_list pl.isList ⟨s1.heap.objs.size, [s1.heap.objs.size], _, _, H1, rfl, I1.kept (t' := s1.toks) fun b o e => Heap.get?_push_of_some _ e, turn_list c _, ⟨_, Heap.get?_push_size _ rfl, rfl, rfl⟩, hfp, q⟩
  · obtain ⟨its, rv, pl, hz⟩ := I1.tuple hq
    exact wpAny_pyIter_tuple (show s1.heap.IsTuple c its.toArray from pl) ⟨s1.heap.objs.size, [s1.heap.objs.size], _, _, H1, rfl, I1.kept (t' := s1.toks) fun b o e => Heap.get?_push_of_some _ e, turn_tuple c _, ⟨_, Heap.get?_push_size _ rfl, rfl, rfl⟩, hfp, q⟩
/-- the frozen items of what is walked -/
def iSq (f : FE) : FI := fun e => (f e).bind fun p => (frz p.2 p.1).bind fun q => (seqOf q.1).map fun l => (l, q.2)
theorem i_seq (h : PE X a (tE X.K fa)) : PI X tg a (tI X.K (iSq fa)) := by
  refine pi_imp (pi_seq h) fun σ H R ⟨B, w, e, ds, e', hH, st, hf, q⟩ => ?_
  obtain ⟨⟨r1, e1⟩, k1, k2⟩ := Option.bind_eq_some_iff.mp hf
  obtain ⟨⟨d, e2⟩, k3, k4⟩ := Option.bind_eq_some_iff.mp k2
  obtain ⟨l, k5, k6⟩ := Option.map_eq_some_iff.mp k4
  cases k6
  refine ⟨B, w, e, r1, e1, hH, st, k1, fun v w1 s1 l1 p1 => ?_⟩
  obtain ⟨w2, j1, s2, l2, dd⟩ := frz_ok s1 k3 p1
  rw [← j1]
  cases d <;> try cases k5
  · cases dd with
    | lst h1 h2 => exact ⟨_, rfl, .inl ⟨_, la_sql (la_same s2.sub h1), q _ w2 s2 (l1.trans l2) (it_list h1 h2)⟩⟩
  · cases dd with
    | tup h1 h2 => exact ⟨_, rfl, .inr ⟨_, same_t s2.sub (tup_sqt h1), q _ w2 s2 (l1.trans l2) (it_tup (tup_sqt h1) h2)⟩⟩
/-- range(n), range(a, b) -/
def smallI (i : Int) : Prop := -(2 ^ 62) ≤ i ∧ i < 2 ^ 62
instance (i : Int) : Decidable (smallI i) := by unfold smallI; infer_instance
def iR1 (g : FA) : FI := fun e => (g e).bind fun p => match looks p.2 p.1 with
  | some [.int j] => if smallI j then some (rangeD 0 j.toNat, p.2) else none
  | _ => none
def iR2 (g : FA) : FI := fun e => (g e).bind fun p => match looks p.2 p.1 with
  | some [.int i, .int j] => if smallI i ∧ smallI j then some (rangeD i (j - i).toNat, p.2) else none
  | _ => none
theorem i_range1 {fs : FA} (hg : Gl X "range") (hm : X.mg "range" = none) (ha : PA X [a] (tA X.K fs)) (hs : starEach [a] X.env = [(false, eval a X.env)] := by rfl) : PI X tg (.Call (.Name "range" p) [a] [] pos) (tI X.K (iR1 fs)) := by
  refine pi_imp (pi_range1 hg hm ha hs) fun σ H R ⟨B, w, e, ds, e', hH, st, hf, q⟩ => ?_
  obtain ⟨⟨rs, e1⟩, k1, k2⟩ := Option.bind_eq_some_iff.mp hf
  refine ⟨B, w, e, rs, e1, hH, st, k1, fun vs w1 s1 l1 p1 => ?_⟩
  cases hl : looks e1 rs with
  | none => simp only [hl] at k2; cases k2
  | some dl =>
    have t := looks_ok s1 hl p1
    simp only [hl] at k2
    split at k2
    · rename_i j hj
      have hj' := Option.some.inj hj
      subst hj'
      split at k2
      · rename_i hb
        cases k2
        obtain ⟨v, e2, t1⟩ := dts1 t
        refine ⟨j, by rw [e2, t1.int], hb.1, hb.2, q _ w1 s1 l1 it_range⟩
      · cases k2
    · cases k2
theorem i_range2 {fs : FA} (hg : Gl X "range") (hm : X.mg "range" = none) (ha : PA X [a, b] (tA X.K fs)) (hs : starEach [a, b] X.env = [(false, eval a X.env), (false, eval b X.env)] := by rfl) (hs2 : starEach [b] X.env = [(false, eval b X.env)] := by rfl) :
    PI X tg (.Call (.Name "range" p) [a, b] [] pos) (tI X.K (iR2 fs)) := by
  refine pi_imp (pi_range2 hg hm ha hs hs2) fun σ H R ⟨B, w, e, ds, e', hH, st, hf, q⟩ => ?_
  obtain ⟨⟨rs, e1⟩, k1, k2⟩ := Option.bind_eq_some_iff.mp hf
  refine ⟨B, w, e, rs, e1, hH, st, k1, fun vs w1 s1 l1 p1 => ?_⟩
  cases hl : looks e1 rs with
  | none => simp only [hl] at k2; cases k2
  | some dl =>
    have t := looks_ok s1 hl p1
    simp only [hl] at k2
    split at k2
    · rename_i i j hj
      have hj' := Option.some.inj hj
      subst hj'
      split at k2
      · rename_i hb
        cases k2
        obtain ⟨v, u, e2, t1, t2⟩ := dts2 t
        exact ⟨i, j, by rw [e2, t1.int, t2.int], ⟨hb.1.1, hb.1.2, hb.2.1, hb.2.2⟩, q _ w1 s1 l1 it_range⟩
      · cases k2
    · cases k2
/-- two sequences that are frozen -/
def frz2 (g : FA) : En → Option ((D × D) × En) := fun e => (g e).bind fun p => (frzs p.2 p.1).bind fun q => match q.1 with
  | [a, b] => some ((a, b), q.2)
  | _ => none
def iZp (g : FA) : FI := fun e => (g e).bind fun p => (frzs p.2 p.1).bind fun q => match q.1 with
  | [.list a, .list b] => some (zipD a b, q.2)
  | [.tuple a, .tuple b] => some (zipD a b, q.2)
  | _ => none
theorem zipD_len (a b : List D) : (zipD a b).length = min a.length b.length := by simp [zipD]
theorem i_zip {fs : FA} (hg : Gl X "zip") (hm : X.mg "zip" = none) (ha : PA X [a, b] (tA X.K fs)) (hs : starEach [a, b] X.env = (false, eval a X.env) :: starEach [b] X.env := by rfl) (hpl : (backTo pos (starEach [b] X.env)).any (·.1) = false := by rfl) :
    PI X (.Tuple elts kk tpos) (.Call (.Name "zip" p) [a, b] [] pos) (tI X.K (iZp fs)) := by
  refine pi_imp (RZ.pi_zipA hg hm ha hs hpl) fun σ H R ⟨B, w, e, ds, e', hH, st, hf, q⟩ => ?_
  obtain ⟨⟨rs, e1⟩, k1, k2⟩ := Option.bind_eq_some_iff.mp hf
  obtain ⟨⟨dl, e2⟩, k3, k4⟩ := Option.bind_eq_some_iff.mp k2
  refine ⟨B, w, e, rs, e1, hH, st, k1, fun vs w1 s1 l1 p1 => ?_⟩
  obtain ⟨w2, j1, s2, l2, dd⟩ := frzs_ok s1 k3 p1
  rw [← j1]
  split at k4
  · rename_i x y hxy
    cases k4
    subst hxy
    obtain ⟨v1, r1, z1, z2, z3⟩ := da_cons_inv dd
    obtain ⟨v2, r2, y1, y2, y3⟩ := da_cons_inv z3
    have y4 := da_nil_inv y3
    subst z1 y1 y4
    cases z2 with
    | lst h1 h2 =>
      cases y2 with
      | lst h3 h4 =>
        rename_i c1 xs1 c2 xs2
        refine ⟨c1, c2, xs1, xs2, rfl, .inl ⟨la_sql (la_same s2.sub h1), la_sql (la_same s2.sub h3), q _ w2 s2 (l1.trans l2) ?_⟩⟩
        refine it_pair (walk_zip (xs := xs1) (ys := xs2) rfl) (by rw [zipD_len, da_len h2, da_len h4]) (fun H s => ⟨la_sql (la_same s h1), la_sql (la_same s h3)⟩) (fun i v d q1 q2 => ?_) fun i v d q1 q2 => ?_
        · obtain ⟨u, u1, u2⟩ := da_get h2 q2
          rw [q1] at u1; cases u1; exact u2
        · obtain ⟨u, u1, u2⟩ := da_get h4 q2
          rw [q1] at u1; cases u1; exact u2
  · rename_i x y hxy
    cases k4
    subst hxy
    obtain ⟨v1, r1, z1, z2, z3⟩ := da_cons_inv dd
    obtain ⟨v2, r2, y1, y2, y3⟩ := da_cons_inv z3
    have y4 := da_nil_inv y3
    subst z1 y1 y4
    cases z2 with
    | tup h1 h2 =>
      cases y2 with
      | tup h3 h4 =>
        rename_i c1 xs1 c2 xs2
        refine ⟨c1, c2, xs1, xs2, rfl, .inr ⟨same_t s2.sub (tup_sqt h1), same_t s2.sub (tup_sqt h3), q _ w2 s2 (l1.trans l2) ?_⟩⟩
        have W : Walk (RZ.ItzT X.K c1 c2) (min xs1.length xs2.length) (fun H => SqT X.K H c1 xs1 ∧ SqT X.K H c2 xs2) (YPair (fun i => xs1[i]?) (fun i => xs2[i]?)) := by
          refine ⟨fun i H hi q => ?_, fun _ q => ⟨xs1, xs2, q.1, q.2, by omega⟩, fun i H v H' _ q y => ?_⟩
          · have g1 : i < xs1.length := by omega
            have g2 : i < xs2.length := by omega
            exact ⟨xs1, xs2, xs1[i], xs2[i], q.1, q.2, by simp [g1], by simp [g2]⟩
          · obtain ⟨T, x, z, h1, h2, h3, h4, h5⟩ := y
            exact ⟨T, x, z, h1, h2, h3, h4 xs1 q.1, h5 xs2 q.2⟩
        refine it_pair W (by rw [zipD_len, da_len h2, da_len h4]) (fun H s => ⟨same_t s (tup_sqt h1), same_t s (tup_sqt h3)⟩) (fun i v d q1 q2 => ?_) fun i v d q1 q2 => ?_
        · obtain ⟨u, u1, u2⟩ := da_get h2 q2
          rw [q1] at u1; cases u1; exact u2
        · obtain ⟨u, u1, u2⟩ := da_get h4 q2
          rw [q1] at u1; cases u1; exact u2
  · cases k4
end
end DL

set_option Elab.async false
set_option linter.all false
set_option maxRecDepth 100000
set_option maxHeartbeats 2000000
/-! DL10: enumerate of lists and tuples. -/
namespace DL
open PySem PySem.Spec PyProof.Rows L2
/-! ### enumerate(tuple): made -/
theorem meets_enum_tup (l : Addr) (items : Array Value) :
    Meets (Builtin.«enumerate.__new__» ⟨[.type "enumerate", .ref l], []⟩) (fun _ R s => s.heap.IsTuple l items ∧
      R (.ok (.ret (.ref (s.heap.push { cls := .type "tuple_iterator", data := .fields #[.ref l, .int 0 0] }).objs.size)))
        { s with heap := (s.heap.push { cls := .type "tuple_iterator", data := .fields #[.ref l, .int 0 0] }).push { cls := .type "enumerate", data := .fields #[.none, .bool false, .ref s.heap.objs.size, rawInt 0, .none, .none] } }) :=
  .of_wp fun prog w A R s h => by
    obtain ⟨hp, g, d, tk, os⟩ := s
    obtain ⟨h1, h⟩ := h
    have hsub := sub_enumerate
    have q1 : ∀ {A' : Around} {E : Value → Shared → Prop} {Q : Value → Shared → Prop}, Q (.ref hp.objs.size) ⟨hp.push { cls := .type "tuple_iterator", data := .fields #[.ref l, .int 0 0] }, g, d, tk, os⟩ → wpAny (model prog w) A' (pyIter (.ref l)) Q E ⟨hp, g, d, tk, os⟩ :=
      fun q => (begins_tuple l items).iter prog w _ _ ⟨hp, g, d, tk, os⟩ _ h1 q
    wp_walk using q1
    refine wpAny_stack_any fun st => wpAny_pure ?_
    split
    · rename_i c _ _ _ _ _
      cases (c == Value.type "enumerate")
      · wp_walk using q1
        exact ⟨_, rfl, h⟩
      · wp_walk using q1
        exact ⟨_, rfl, h⟩
    · wp_walk using q1
      exact ⟨_, rfl, h⟩
theorem call_enum_tup {prog : Program} {w : World} {A : Around} {E : Value → Shared → Prop} {s : Shared} {l : Addr} {items : Array Value} {Q : Value → Shared → Prop} (hL : s.heap.IsTuple l items)
    (h : ∀ h', IsEnum h' (s.heap.objs.size + 1) s.heap.objs.size 0 .none → h'.IsTupleIter s.heap.objs.size l 0 → h'.objs.size = s.heap.objs.size + 2 →
      (∀ b o, s.heap.get? b = some o → h'.get? b = some o) → Q (.ref (s.heap.objs.size + 1)) { s with heap := h' }) :
    wpAny (model prog w) A (call (.type "enumerate") [.ref l]) Q E s := by
  refine callType_new F.called_enumerate (by decide) (F.typeCall_enumerate_1 _) (F.newCall_enumerate_1 _) (fun obj => F.args_object_init_2 obj _) F.entry_enumerate_new (meets_enum_tup l items) ⟨hL, ?_⟩
  have hz : (s.heap.push { cls := .type "tuple_iterator", data := .fields #[.ref l, .int 0 0] }).objs.size = s.heap.objs.size + 1 := Heap.size_push ..
  show _ ∧ _
  rw [hz]
  have he : IsEnum ((s.heap.push { cls := .type "tuple_iterator", data := .fields #[.ref l, .int 0 0] }).push { cls := .type "enumerate", data := .fields #[.none, .bool false, .ref s.heap.objs.size, rawInt 0, .none, .none] }) (s.heap.objs.size + 1) s.heap.objs.size 0 .none := by
    have z := Heap.get?_push_size (s.heap.push { cls := .type "tuple_iterator", data := .fields #[.ref l, .int 0 0] }) (o := { cls := .type "enumerate", data := .fields #[.none, .bool false, .ref s.heap.objs.size, rawInt 0, .none, .none] }) rfl
    rw [hz] at z
    exact z
  exact ⟨⟨_, he, rfl⟩, h _ he ⟨_, Heap.get?_push_of_some _ (Heap.get?_push_size _ rfl), rfl, rfl⟩ (by rw [Heap.size_push, hz]) fun b o x => Heap.get?_push_of_some _ (Heap.get?_push_of_some _ x)⟩
/-! ### .. walked -/
def IteT (K : PySem.W.Frag) (a : Addr) : It :=
  ⟨fun i H => ∃ (xs : List V) (x : V), SqT K H a xs ∧ xs[i]? = some x, fun i H v H' => ∃ T x, v = .ref T ∧ H T = none ∧ H' = upd H T (.tup [.int (i : Nat), x]) ∧ ∀ xs, SqT K H a xs → xs[i]? = some x, fun i H => ∃ xs : List V, SqT K H a xs ∧ xs.length ≤ i⟩
theorem turn_enumT {P : Program} {w : World} {K : PySem.W.Frag} {elts : List Expr} {kk : Nat} {tpos : Pos} (a e it : Addr) :
    Turn P w K (.Tuple elts kk tpos) (IteT K a) [e, it] e (fun i h => (∃ old, IsEnum h e it ((i : Nat) : Int) old) ∧ h.IsTupleIter it a i ∧ e ≠ it ∧ a ≠ it ∧ a ≠ e) where
  mem := by simp
  obj := fun i h st b hb => by
    obtain ⟨⟨old, he⟩, ⟨o, ho, hc, hd⟩, _⟩ := st
    have e' : b = e ∨ b = it := by simpa using hb
    rcases e' with z | z
    · rw [z]; exact ⟨_, he, fun v q => nomatch q⟩
    · rw [z]; exact ⟨o, ho, fun v q => by rw [hd] at q; cases q⟩
  keep := fun i h h' st k => by
    obtain ⟨⟨old, he⟩, hi, hne⟩ := st
    exact ⟨⟨old, k e (by simp) _ he⟩, hi.at fun o q => k it (by simp) o q, hne⟩
  item := by
    intro X hP hw hK hc i pins s σ H E I hf st hg
    subst hP hw hK
    obtain ⟨⟨old, he⟩, hit, hne, hai, hae⟩ := st
    obtain ⟨xs, x, hq, hx⟩ := hg
    obtain ⟨its, rv, p, hz⟩ := I.tuple hq
    obtain ⟨u, hu, ru⟩ := rv.get hx
    have hel : e < s.heap.objs.size := Heap.lt_size he
    have hil : it < s.heap.objs.size := by obtain ⟨_, q, _⟩ := hit; exact Heap.lt_size q
    have hlen : i < its.toArray.size := by
      have z := lt_of_get hu
      simpa using z
    have Dr := Draws.tuple (prog := X.prog) (w := X.w) (A := X.A.in1) (I.ok.hd hc) it a hai its.toArray
    refine wpAny_pyNext_enum_itemD Dr he ⟨hit, p⟩ hlen hne (by simp [hne, Ne.symm hae]) fun u' h' tk hP' ho' st' hT hsz hk => ?_
    have eu : u' = u := by
      have z : its.toArray[i]? = some u := by simpa using hu
      rw [z] at hP'
      exact (Option.some.inj hP').symm
    subst eu
    refine ⟨_, rfl, wpAny_letOwnedTupleGo_enum (s := { s with heap := h', toks := tk + 1 }) ho' fun h'' he' sb => ?_⟩
    have hT2 : h''.get? s.heap.objs.size = some { cls := .type "tuple", data := .seq #[.int i tk, u'] } := (sb.2 _ (Nat.ne_of_gt hel)).trans hT
    have new : ObjOk X.prog X.w (upd H s.heap.objs.size (.tup [.int (i : Nat), x])) h'' s.heap.objs.size (.tup [.int (i : Nat), x]) :=
      ⟨by show 2 ≤ sizeLine; decide, [.int i tk, u'], .cons ⟨_, rfl⟩ (.cons ru .nil), ⟨_, hT2, rfl, _, rfl⟩⟩
    have I1 : Inv X pins σ (upd H s.heap.objs.size (.tup [.int (i : Nat), x])) { s with heap := h'', toks := tk + 1 } :=
      I.turnedNew (ch := [e, it]) (fun b ob hb q => (sb.2 b (fun z => hb (by simp [z]))).trans (hk b ob (fun z => hb (by simp [z])) (fun z => hb (by simp [z])) q)) hf (Nat.le_refl _) new
    refine ⟨.ref s.heap.objs.size, _, I1, rfl, ⟨_, x, rfl, I.hok.fresh (Nat.le_refl _), rfl, fun ys hy => by rw [I.tuple_inj hy hq]; exact hx⟩, ⟨⟨u', ?_⟩, st'.1.at fun o q => (sb.2 it (Ne.symm hne)).trans q, hne, hai, hae⟩, fun b hb => ?_⟩
    · have e1 : ((i + 1 : Nat) : Int) = (i : Int) + 1 := by omega
      rw [e1]; exact he'
    · have hb' : b < s.heap.objs.size := by
        have e' : b = e ∨ b = it := by simpa using hb
        rcases e' with z | z
        · rw [z]; exact hel
        · rw [z]; exact hil
      rw [upd_ne (Nat.ne_of_lt hb')]
      exact (hf b hb).1
  done := by
    intro X hP hw hK hc i pins s σ H E I hf st hg
    subst hP hw hK
    obtain ⟨⟨old, he⟩, hit, hne, hai, hae⟩ := st
    obtain ⟨xs, hq, hx⟩ := hg
    obtain ⟨its, rv, p, hz⟩ := I.tuple hq
    obtain ⟨f0, f1, f2, f3, f4, f5⟩ := hf it (by simp)
    have hl := rv.length
    have hT : s.TypeIs (.ref e) "enumerate" := ⟨_, he, rfl⟩
    unfold pyNext
    refine wpAny_bind (wpAny_attempt (wpAny_callSpecial?_slot (name := Str.ofString "__next__") hT F.slot_enumerate_next
      (wpAny_call_entry F.slot_enumerate_next hT F.entry_enumerate_next ?_ (F.args_enumerate_next_1 _))))
    show wpAny _ _ (field (.ref e) 2 >>= _) _ _ _
    refine wpAny_bind (wpAny_field he rfl (x := .ref it) rfl ?_)
    refine wpAny_bind (wpAny_nextOf_tuple_end (I.ok.hd hc) hit (show s.heap.IsTuple a its.toArray from p) (by simp; omega) fun h' x he' hx' => ?_)
    obtain ⟨o, ho, hc'⟩ := hx'
    refine wpAny_bind (wpAny_isInstance (T := "StopIteration") (b := true) ⟨o, ho, hc'⟩ isSubtype_stop ?_)
    exact wpAny_pure ⟨rfl, I.turned (t' := s.toks) (fun b o hb q => he' b o hb q) f0 f1 f3 f4 f5⟩
  self := fun A i s Q E st h => by
    obtain ⟨⟨_, he⟩, _⟩ := st
    exact wpAny_pyIter_enum he h
def iEnumA (K : PySem.W.Frag) (ta : TA) : TI := fun σ H R => ta σ H fun vs H1 => ∃ a, vs = [.ref a] ∧ ((∃ xs, SqL K H1 a xs ∧ R (Ite K a) H1) ∨ (∃ xs, SqT K H1 a xs ∧ R (IteT K a) H1))
section
variable {X : Cx} {e : Expr} {p pos tpos : Pos} {elts : List Expr} {kk : Nat}
theorem pi_enumA {ta : TA} (hg : Gl X "enumerate") (hm : X.mg "enumerate" = none) (ha : PA X [e] ta) (hs : starEach [e] X.env = [(false, eval e X.env)] := by rfl) :
    PI X (.Tuple elts kk tpos) (.Call (.Name "enumerate" p) [e] [] pos) (iEnumA X.K ta) := by
  refine ⟨fun pins s σ H R I h => ?_⟩
  refine Call_ (ld_blt I hg hm boot_enumerate (PyProof.Rows.callWith_type1 (thn (ha.run pos pins s σ H _ I h) fun us s1 ⟨vs, H1, I1, r1, q1⟩ => ?_) hs rfl))
  obtain ⟨a, ex, q⟩ := q1
  subst ex
  cases r1 with
  | cons r rr =>
    cases rr
    cases r
    have hfp : ∀ b ∈ [s1.heap.objs.size + 1, s1.heap.objs.size], FpOk X pins H1 b := fun b hb => by
      have e' : b = s1.heap.objs.size + 1 ∨ b = s1.heap.objs.size := by simpa using hb
      have hle : s1.heap.objs.size ≤ b := by
        rcases e' with z | z
        · rw [z]; exact Nat.le_add_right _ _
        · rw [z]; exact Nat.le_refl _
      exact I1.fpOk hle (I1.hok.fresh hle)
    rcases q with ⟨xs, hq, q⟩ | ⟨xs, hq, q⟩
    · obtain ⟨its, rv, p', hz⟩ := I1.list hq
      refine call_enumerate_list p'.isList fun h' he hit hsz hk => wpAny_pyIter_enum he ?_
      have I2 : Inv X pins σ H1 { s1 with heap := h' } := I1.kept (t' := s1.toks) hk
      exact ⟨s1.heap.objs.size + 1, [s1.heap.objs.size + 1, s1.heap.objs.size], _, _, H1, rfl, I2, turn_enum a (s1.heap.objs.size + 1) s1.heap.objs.size, ⟨⟨.none, he⟩, hit, Nat.succ_ne_self _⟩, hfp, q⟩
    · obtain ⟨its, rv, p', hz⟩ := I1.tuple hq
      obtain ⟨o, ho, _⟩ := id p'
      have lt := Heap.lt_size ho
      refine call_enum_tup (show s1.heap.IsTuple a its.toArray from p') fun h' he hit hsz hk => wpAny_pyIter_enum he ?_
      have I2 : Inv X pins σ H1 { s1 with heap := h' } := I1.kept (t' := s1.toks) hk
      exact ⟨s1.heap.objs.size + 1, [s1.heap.objs.size + 1, s1.heap.objs.size], _, _, H1, rfl, I2, turn_enumT a (s1.heap.objs.size + 1) s1.heap.objs.size, ⟨⟨.none, he⟩, hit, Nat.succ_ne_self _, Nat.ne_of_lt lt, Nat.ne_of_lt (Nat.lt_succ_of_lt lt)⟩, hfp, q⟩
def enumD (l : List D) : List D := zipD (rangeD 0 l.length) l
def iEn (f : FE) : FI := fun e => (iSq f e).map fun p => (enumD p.1, p.2)
theorem i_enum {fa : FE} (hg : Gl X "enumerate") (hm : X.mg "enumerate" = none) (ha : PE X e (tE X.K fa)) (hs : starEach [e] X.env = (false, eval e X.env) :: starEach [] X.env := by rfl) (hs' : starEach [e] X.env = [(false, eval e X.env)] := by rfl) :
    PI X (.Tuple elts kk tpos) (.Call (.Name "enumerate" p) [e] [] pos) (tI X.K (iEn fa)) := by
  refine pi_imp (pi_enumA hg hm (pa_cons ha pa_nil hs) hs') fun σ H R ⟨B, w, en, ds, e', hH, st, hf, q⟩ => ?_
  obtain ⟨⟨l, e3⟩, k0, k0'⟩ := Option.map_eq_some_iff.mp hf
  cases k0'
  obtain ⟨⟨r1, e1⟩, k1, k2⟩ := Option.bind_eq_some_iff.mp k0
  obtain ⟨⟨d, e2⟩, k3, k4⟩ := Option.bind_eq_some_iff.mp k2
  obtain ⟨l', k5, k6⟩ := Option.map_eq_some_iff.mp k4
  cases k6
  refine ⟨B, w, en, r1, e1, hH, st, k1, fun v w1 s1 l1 p1 => ?_⟩
  obtain ⟨w2, j1, s2, l2, dd⟩ := frz_ok s1 k3 p1
  show ∃ a, [v] = [V.ref a] ∧ _
  rw [← j1]
  have hx : ∀ (i : Nat) v d, some (V.int (i : Nat)) = some v → (rangeD 0 l.length)[i]? = some d → Dq X.K w2.F v d := fun i v d q1 q2 => by
    cases q1
    unfold rangeD at q2
    rw [List.getElem?_map] at q2
    obtain ⟨k, z1, z2⟩ := Option.map_eq_some_iff.mp q2
    obtain ⟨z3, z4⟩ := List.getElem?_eq_some_iff.mp z1
    rw [List.getElem_range] at z4
    subst z4 z2
    rw [Int.zero_add]
    exact Dq.int _
  have hlen : (enumD l).length = l.length := by
    unfold enumD
    rw [zipD_len]
    simp [rangeD]
  cases d <;> try cases k5
  · cases dd with
    | lst h1 h2 =>
      rename_i a vs
      refine ⟨a, rfl, .inl ⟨vs, la_sql (la_same s2.sub h1), q _ w2 s2 (l1.trans l2) ?_⟩⟩
      refine it_pair (da := rangeD 0 l.length) (db := l) (walk_enum (xs := vs)) (by rw [da_len h2]; exact hlen.symm) (fun H s => la_sql (la_same s h1)) hx fun i v d q1 q2 => ?_
      obtain ⟨u, u1, u2⟩ := da_get h2 q2
      rw [q1] at u1; cases u1; exact u2
  · cases dd with
    | tup h1 h2 =>
      rename_i a vs
      refine ⟨a, rfl, .inr ⟨vs, same_t s2.sub (tup_sqt h1), q _ w2 s2 (l1.trans l2) ?_⟩⟩
      have W : Walk (IteT X.K a) vs.length (fun H => SqT X.K H a vs) (YPair (fun i => some (.int (i : Nat))) (fun i => vs[i]?)) := by
        refine ⟨fun i _ hi q => ⟨vs, vs[i], q, by simp [hi]⟩, fun _ q => ⟨vs, q, Nat.le_refl _⟩, fun i H v H' _ q y => ?_⟩
        obtain ⟨T, x, y1, y2, y3, y4⟩ := y
        exact ⟨T, .int (i : Nat), x, y1, y2, y3, rfl, y4 vs q⟩
      refine it_pair (da := rangeD 0 l.length) (db := l) W (by rw [da_len h2]; exact hlen.symm) (fun H s => same_t s (tup_sqt h1)) hx fun i v d q1 q2 => ?_
      obtain ⟨u, u1, u2⟩ := da_get h2 q2
      rw [q1] at u1; cases u1; exact u2
end
end DL

set_option Elab.async false
set_option linter.all false
set_option maxRecDepth 100000
set_option maxHeartbeats 2000000
/-! DL11: comprehensions; methods of own lists; list(range). -/
namespace DL
open PySem PySem.Spec PyProof.Rows L2

/-! ### a comprehension's block -/
def wipeE (e : En) : List Nat → En
  | [] => e
  | v :: vs => (wipeE e vs).set v .dead
/-- behind the block: its own names as they were -/
def mergeE (e b : En) : List Nat → En
  | [] => b
  | v :: vs => match e[v]? with
    | some s => (mergeE e b vs).set v s
    | none => mergeE e b vs
def freeB (e : En) (vs : List Nat) : Bool := vs.all fun v => match e[v]? with
  | some s => !s.pin
  | none => true
def freeE (e : En) (vs : List Nat) : Prop := ∀ v ∈ vs, ∀ s : Slot, e[v]? = some s → s.pin = false
theorem freeE_B {e : En} {vs : List Nat} (h : freeB e vs = true) : freeE e vs := fun v hv s hs => by
  have z := List.all_eq_true.mp h v hv
  rw [hs] at z
  simpa using z
theorem wipeE_len (e : En) : ∀ vs : List Nat, (wipeE e vs).length = e.length
  | [] => rfl
  | v :: vs => by
    unfold wipeE
    rw [List.length_set, wipeE_len e vs]
theorem wipeE_get (e : En) : ∀ (vs : List Nat) (i : Nat), (wipeE e vs)[i]? = if i ∈ vs then (e[i]?.map fun _ => Slot.dead) else e[i]?
  | [], i => by simp [wipeE]
  | v :: vs, i => by
    unfold wipeE
    rw [get_set, wipeE_len, wipeE_get e vs i]
    by_cases c : v = i
    · subst c
      by_cases l : v < e.length
      · rw [if_pos ⟨rfl, l⟩, if_pos List.mem_cons_self, List.getElem?_eq_getElem l]
        rfl
      · rw [if_neg fun z => l z.2, if_pos List.mem_cons_self, List.getElem?_eq_none (by omega)]
        split <;> rfl
    · rw [if_neg fun z => c z.1]
      by_cases m : i ∈ vs
      · rw [if_pos m, if_pos (List.mem_cons_of_mem _ m)]
      · rw [if_neg m, if_neg fun z => (List.mem_cons.mp z).elim (fun y => c y.symm) m]
theorem wipe_get (σ : L2.St) : ∀ (vs : List Nat) (i : Nat), i ∉ vs → (wipe σ vs)[i]? = σ[i]?
  | [], i, _ => rfl
  | v :: vs, i, h => by
    unfold wipe
    rw [List.getElem?_set_ne (fun c => h (by simp [c])), wipe_get σ vs i fun z => h (List.mem_cons_of_mem _ z)]
theorem mergeE_len (e b : En) : ∀ vs : List Nat, (mergeE e b vs).length = b.length
  | [] => rfl
  | v :: vs => by
    unfold mergeE
    split
    · rw [List.length_set, mergeE_len e b vs]
    · exact mergeE_len e b vs
theorem mergeE_get (e b : En) (hl : e.length = b.length) : ∀ (vs : List Nat) (i : Nat), (mergeE e b vs)[i]? = if i ∈ vs then e[i]? else b[i]?
  | [], i => by simp [mergeE]
  | v :: vs, i => by
    have ih := mergeE_get e b hl vs i
    unfold mergeE
    cases hs : e[v]? with
    | none =>
      simp only
      rw [ih]
      by_cases c : i = v
      · subst c
        have h1 : b[i]? = none := by
          rw [List.getElem?_eq_none_iff] at hs ⊢
          omega
        rw [if_pos List.mem_cons_self, hs, h1]
        split <;> rfl
      · by_cases m : i ∈ vs
        · rw [if_pos m, if_pos (List.mem_cons_of_mem _ m)]
        · rw [if_neg m, if_neg fun z => (List.mem_cons.mp z).elim c m]
    | some s =>
      simp only
      rw [get_set, mergeE_len, ih]
      by_cases c : v = i
      · subst c
        rw [if_pos ⟨rfl, by rw [← hl]; exact lt_of_get hs⟩, if_pos List.mem_cons_self, hs]
      · rw [if_neg fun z => c z.1]
        by_cases m : i ∈ vs
        · rw [if_pos m, if_pos (List.mem_cons_of_mem _ m)]
        · rw [if_neg m, if_neg fun z => (List.mem_cons.mp z).elim (fun y => c y.symm) m]
section
variable {K : PySem.W.Frag} {B : Bd} {w w' : Wd} {σ σ' : L2.St} {e e' : En}
theorem owns (st : Stt K B w σ e) : w.O = ownO σ e := funext fun a => propext (st.ow a)
/-- the block's state at a turn's start -/
theorem wipe_stt (st : Stt K B w σ e) {vs : List Nat} (hf : freeE e vs) : Stt K B ⟨w.F, w.H, ownO (wipe σ vs) (wipeE e vs)⟩ (wipe σ vs) (wipeE e vs) ∧ Le w ⟨w.F, w.H, ownO (wipe σ vs) (wipeE e vs)⟩ ∧ ∀ a, ownO (wipe σ vs) (wipeE e vs) a → w.O a := by
  have at_ : ∀ {i : Nat} {s : Slot}, (wipeE e vs)[i]? = some s → s ≠ .dead → i ∉ vs ∧ e[i]? = some s ∧ (wipe σ vs)[i]? = σ[i]? := fun {i s} q nd => by
    rw [wipeE_get] at q
    split at q
    · obtain ⟨x, _, h2⟩ := Option.map_eq_some_iff.mp q
      exact absurd h2.symm nd
    · rename_i m
      exact ⟨m, q, wipe_get σ vs i m⟩
  have hO : ∀ a, ownO (wipe σ vs) (wipeE e vs) a → w.O a := fun a ⟨i, b, l, q1, q2⟩ => by
    obtain ⟨k1, k2, k3⟩ := at_ q1 (by simp)
    rw [k3] at q2
    exact (st.ow a).mpr ⟨i, b, l, k2, q2⟩
  refine ⟨⟨st.sub, by rw [wipe_length, wipeE_len]; exact st.len, fun i s q => ?_, fun i j b l b' l' q1 q2 q3 => ?_, fun a => Iff.rfl, ?_, fun i q => ?_, st.dom, fun i l a q1 q2 => ?_⟩, ⟨Same.refl _, fun _ _ q _ => q, fun _ _ q => .inl q, fun a q => .inl (hO a q), fun _ q => q⟩, hO⟩
  · by_cases c : s = .dead
    · subst c; trivial
    · obtain ⟨k1, k2, k3⟩ := at_ q c
      rw [k3]
      exact st.sl i s k2
  · obtain ⟨k1, k2, k3⟩ := at_ q1 (by simp)
    obtain ⟨j1, j2, j3⟩ := at_ q2 (by simp)
    rw [k3, j3] at q3
    exact st.inj i j _ _ _ _ k2 j2 q3
  · rw [← st.pin]
    refine List.ext_getElem? fun i => ?_
    rw [List.getElem?_map, List.getElem?_map, wipeE_get]
    split
    · rename_i m
      cases hs : e[i]? with
      | none => rfl
      | some s =>
        show some false = some s.pin
        rw [hf i m s hs]
    · rfl
  · have m : i ∉ vs := fun m => by
      rw [← st.pin, List.getElem?_map] at q
      obtain ⟨s, h1, h2⟩ := Option.map_eq_some_iff.mp q
      rw [hf i m s h1] at h2
      cases h2
    rw [wipe_get σ vs i m]
    exact st.pins i q
  · obtain ⟨k1, k2, k3⟩ := at_ q1 (by simp)
    rw [k3] at q2
    exact st.fr i l a k2 q2
/-- behind the block -/
theorem merge_stt {vs : List Nat} {w0 : Wd} {σ2 : L2.St} {b : En} (st : Stt K B w0 σ e) (le : Le ⟨w0.F, w0.H, ownO (wipe σ vs) (wipeE e vs)⟩ w') (s2 : Stt K B w' σ2 b) (hw : ∀ i, i ∉ vs → σ2[i]? = σ[i]?) :
    Stt K B ⟨w'.F, w'.H, ownO σ (mergeE e b vs)⟩ σ (mergeE e b vs) ∧ Le w0 ⟨w'.F, w'.H, ownO σ (mergeE e b vs)⟩ ∧ ∀ a, ownO σ (mergeE e b vs) a → w0.O a ∨ w'.O a := by
  have hl : e.length = b.length := by
    have z1 := congrArg List.length st.pin
    have z2 := congrArg List.length s2.pin
    rw [List.length_map] at z1 z2
    omega
  have at_ : ∀ {i : Nat} {s : Slot}, (mergeE e b vs)[i]? = some s → (i ∈ vs ∧ e[i]? = some s) ∨ (i ∉ vs ∧ b[i]? = some s ∧ σ2[i]? = σ[i]?) := fun {i s} q => by
    rw [mergeE_get e b hl] at q
    split at q
    · rename_i m; exact .inl ⟨m, q⟩
    · rename_i m; exact .inr ⟨m, q, hw i m⟩
  -- an own list of the block's own names is no list of the block
  have nO : ∀ {i : Nat} {c : Bool} {l : D} {a : Addr}, i ∈ vs → e[i]? = some (Slot.own c l) → σ[i]? = some (some (.ref a)) → ¬ ownO (wipe σ vs) (wipeE e vs) a := fun {i c l a} m q1 q2 ⟨j, c2, l2, z1, z2⟩ => by
    rw [wipeE_get] at z1
    split at z1
    · obtain ⟨x, _, h2⟩ := Option.map_eq_some_iff.mp z1
      cases h2
    · rename_i m2
      rw [wipe_get σ vs j m2] at z2
      have e1 := st.inj i j _ _ _ _ q1 z1 (by rw [q2, z2])
      subst e1
      exact m2 m
  have kept : ∀ {i : Nat} {c : Bool} {l : D}, i ∈ vs → e[i]? = some (Slot.own c l) → ∃ a us, σ[i]? = some (some (.ref a)) ∧ w0.H a = some us ∧ w'.H a = some us ∧ w'.F a = none ∧ OwD K w'.F us l ∧ ¬ w'.O a := fun {i c l} m q => by
    obtain ⟨a, us, h1, h2, h3, h4, h5⟩ := st.own_at q
    have n := nO m q h1
    refine ⟨a, us, h1, h2, le.keep a _ h2 n, ?_, ow_same le.fz h4, fun z => ?_⟩
    · cases hF : w'.F a with
      | none => rfl
      | some o =>
        rcases le.new a o hF with z | z | z | ⟨xs, z⟩
        · rw [show w0.F a = some o from z] at h3; cases h3
        · rw [show w0.H a = none from z] at h2; cases h2
        · exact absurd z n
        · rw [show w0.H a = some (.tup xs) from z] at h2; cases h2; exact (ow_ntup h4).elim
    · rcases le.own a z with z | z
      · exact n z
      · rw [show w0.H a = none from z] at h2; cases h2
  have sub0 : ∀ a, ownO (wipe σ vs) (wipeE e vs) a → w0.O a := fun a ⟨i, c, l, q1, q2⟩ => by
    rw [wipeE_get] at q1
    split at q1
    · obtain ⟨x, _, h2⟩ := Option.map_eq_some_iff.mp q1
      cases h2
    · rename_i m
      rw [wipe_get σ vs i m] at q2
      exact (st.ow a).mpr ⟨i, c, l, q1, q2⟩
  have hO : ∀ a, ownO σ (mergeE e b vs) a → w0.O a ∨ w0.H a = none := fun a ⟨i, c, l, q1, q2⟩ => by
    rcases at_ q1 with ⟨m, k1⟩ | ⟨m, k1, k2⟩
    · exact .inl ((st.ow a).mpr ⟨i, c, l, k1, q2⟩)
    · rcases le.own a ((s2.ow a).mpr ⟨i, c, l, k1, by rw [k2]; exact q2⟩) with z | z
      · exact .inl (sub0 a z)
      · exact .inr z
  refine ⟨⟨s2.sub, by rw [mergeE_len, ← hl]; exact st.len, fun i s q => ?_, fun i j c l c' l' q1 q2 q3 => ?_, fun a => Iff.rfl, ?_, st.pins, s2.dom, fun i l a q1 q2 => ?_⟩,
    ⟨le.fz, fun a o q n => le.keep a o q fun z => n (sub0 a z), fun a o q => ?_, hO, le.dom⟩, fun a ⟨i, c, l, q1, q2⟩ => ?_⟩
  · rcases at_ q with ⟨m, k1⟩ | ⟨m, k1, k2⟩
    · cases s with
      | dead => trivial
      | lck c => obtain ⟨a, od, u, h1, h2, h3⟩ := st.sl i _ k1; exact ⟨a, od, u, h1, le.fz _ _ h2, ow_same le.fz h3⟩
      | val c d =>
        obtain ⟨v, h1, h2⟩ := st.sl i _ k1
        exact ⟨v, h1, dq_same le.fz h2⟩
      | own c l =>
        obtain ⟨a, us, h1, _, h2, h3, h4, _⟩ := kept m k1
        exact ⟨a, us, h1, h2, h3, h4⟩
    · have z := s2.sl i s k1
      rw [k2] at z
      exact z
  · rcases at_ q1 with ⟨m, k1⟩ | ⟨m, k1, k2⟩
    · rcases at_ q2 with ⟨n, j1⟩ | ⟨n, j1, j2⟩
      · exact st.inj i j _ _ _ _ k1 j1 q3
      · obtain ⟨a, us, h1, _, h2, h3, h4, h5⟩ := kept m k1
        exact absurd ((s2.ow a).mpr ⟨j, c', l', j1, by rw [j2, ← q3]; exact h1⟩) h5
    · rcases at_ q2 with ⟨n, j1⟩ | ⟨n, j1, j2⟩
      · obtain ⟨a, us, h1, _, h2, h3, h4, h5⟩ := kept n j1
        exact absurd ((s2.ow a).mpr ⟨i, c, l, k1, by rw [k2, q3]; exact h1⟩) h5
      · exact s2.inj i j _ _ _ _ k1 j1 (by rw [k2, j2]; exact q3)
  · refine List.ext_getElem? fun i => ?_
    rw [List.getElem?_map, mergeE_get e b hl]
    split
    · rw [← List.getElem?_map, st.pin]
    · rw [← List.getElem?_map, s2.pin]
  · rcases at_ q1 with ⟨m, k1⟩ | ⟨m, k1, k2⟩
    · exact st.fr i l a k1 q2
    · exact s2.fr i l a k1 (by rw [k2]; exact q2)
  · rcases le.new a o q with z | z | z | z
    · exact .inl z
    · exact .inr (.inl z)
    · exact .inr (.inr (.inl (sub0 a z)))
    · exact .inr (.inr (.inr z))
  · rcases at_ q1 with ⟨m, k1⟩ | ⟨m, k1, k2⟩
    · exact .inl ((st.ow a).mpr ⟨i, c, l, k1, q2⟩)
    · exact .inr ((s2.ow a).mpr ⟨i, c, l, k1, by rw [k2]; exact q2⟩)
end

/-! ### [elt for target in iter if test] -/
def compGo (vs : List Nat) (gt : FG) (tt : FT) (el : FE) : List D → En → List D → Option (List D × En)
  | [], e, acc => some (acc, e)
  | d :: ds, e, acc => (gt d (wipeE e vs)).bind fun e1 => (tt e1).bind fun p => if p.1 = true then
      ((el p.2).bind fun r => (frz r.2 r.1).bind fun q => if acc.length < SZ then compGo vs gt tt el ds q.2 (acc ++ [q.1]) else none)
    else compGo vs gt tt el ds p.2 acc
def fComp (vs : List Nat) (it : FI) (gt : FG) (tt : FT) (el : FE) : FV := fun e => (it e).bind fun p => if freeB p.2 vs = true then
  (compGo vs gt tt el p.1 (wipeE p.2 vs) []).map fun q => (.fresh (.list q.1), mergeE p.2 q.2 vs) else none
theorem wipeE_wipeE (e : En) (vs : List Nat) : wipeE (wipeE e vs) vs = wipeE e vs := by
  refine List.ext_getElem? fun i => ?_
  rw [wipeE_get, wipeE_get]
  split
  · cases e[i]? <;> rfl
  · rfl
theorem freeE_of {e e' : En} {vs : List Nat} (h : freeE e vs) (hp : e'.map Slot.pin = e.map Slot.pin) : freeE e' vs := fun v hv s hs => by
  have z : (e'.map Slot.pin)[v]? = some s.pin := by rw [List.getElem?_map, hs]; rfl
  rw [hp, List.getElem?_map] at z
  obtain ⟨t, h1, h2⟩ := Option.map_eq_some_iff.mp z
  rw [← h2]
  exact h v hv t h1
section
variable {K : PySem.W.Frag} {B : Bd} {w w' : Wd} {σ σ' : L2.St} {e e' : En}
/-- the new list stays as it is through what is reckoned -/
theorem held (le : Le w w') {Dd : Addr} {av : List V} {al : List D} (h1 : w.H Dd = some (.lst av)) (h2 : w.F Dd = none) (h3 : ¬ w.O Dd) (h4 : Da K w.F av al) : w'.H Dd = some (.lst av) ∧ w'.F Dd = none ∧ ¬ w'.O Dd ∧ Da K w'.F av al := by
  refine ⟨le.keep _ _ h1 h3, ?_, fun z => ?_, dqAll_same le.fz h4⟩
  · cases q : w'.F Dd with
    | none => rfl
    | some o =>
      rcases le.new _ o q with z | z | z | ⟨xs, z⟩
      · rw [z] at h2; cases h2
      · rw [z] at h1; cases h1
      · exact absurd z h3
      · rw [z] at h1; cases h1
  · rcases le.own _ z with z | z
    · exact h3 z
    · rw [z] at h1; cases h1
/-- the new list has an item more -/
theorem grow (st : Stt K B w σ e) {Dd : Addr} {av : List V} {ws : List V} (h1 : w.H Dd = some (.lst av)) (h2 : w.F Dd = none) (h3 : ¬ w.O Dd) : Stt K B ⟨w.F, upd w.H Dd (.lst ws), w.O⟩ σ e := by
  refine ⟨fun a o q => ?_, st.len, fun i s q => ?_, st.inj, st.ow, st.pin, st.pins, fun a q => st.dom a ?_, st.fr⟩
  · have q' : w.F a = some o := q
    have n : a ≠ Dd := fun z => by rw [z, h2] at q'; cases q'
    show upd w.H Dd (.lst ws) a = some o
    rw [upd_ne n]
    exact st.sub a o q'
  · have z := st.sl i s q
    cases s with
    | dead => trivial
    | lck c => exact z
    | val b d => exact z
    | own b l =>
      obtain ⟨a, us, k1, k2, k3, k4⟩ := z
      have n : a ≠ Dd := fun y => h3 (by rw [← y]; exact (st.ow a).mpr ⟨i, b, l, q, k1⟩)
      refine ⟨a, us, k1, ?_, k3, k4⟩
      show upd w.H Dd (.lst ws) a = some us
      rw [upd_ne n]
      exact k2
  · have q' : upd w.H Dd (.lst ws) a = none := q
    by_cases c : a = Dd
    · subst c; rw [upd_same] at q'; cases q'
    · rw [upd_ne c] at q'; exact q'
theorem Le.grow {w0 : Wd} (le : Le w0 w) {Dd : Addr} {ws : List V} (h : w0.H Dd = none) : Le w0 ⟨w.F, upd w.H Dd (.lst ws), w.O⟩ := by
  refine ⟨le.fz, fun a o q n => ?_, le.new, le.own, fun a q => ?_⟩
  · show upd w.H Dd (.lst ws) a = some o
    rw [upd_ne (ne_of_none q h)]
    exact le.keep a o q n
  · have q' : upd w.H Dd (.lst ws) a = none := q
    by_cases c : a = Dd
    · subst c; rw [upd_same] at q'; cases q'
    · rw [upd_ne c] at q'; exact le.dom a q'
/-- slots that are no targets stay; so does what is left of them all -/
theorem wipe_eq {σ1 σ2 : L2.St} {vs : List Nat} (hl : σ2.length = σ1.length) (h : ∀ j, j ∉ vs → σ2[j]? = σ1[j]?) : wipe σ2 vs = wipe σ1 vs := by
  have key : ∀ (τ : L2.St) (us : List Nat) (i : Nat), (wipe τ us)[i]? = if i ∈ us then (τ[i]?.map fun _ => none) else τ[i]? := fun τ us => by
    induction us with
    | nil => intro i; simp [wipe]
    | cons v us ih =>
      intro i
      unfold wipe
      rw [get_set, wipe_length, ih i]
      by_cases c : v = i
      · subst c
        by_cases l : v < τ.length
        · rw [if_pos ⟨rfl, l⟩, if_pos List.mem_cons_self, List.getElem?_eq_getElem l]
          rfl
        · rw [if_neg fun z => l z.2, if_pos List.mem_cons_self, List.getElem?_eq_none (by omega)]
          split <;> rfl
      · rw [if_neg fun z => c z.1]
        by_cases m : i ∈ us
        · rw [if_pos m, if_pos (List.mem_cons_of_mem _ m)]
        · rw [if_neg m, if_neg fun z => (List.mem_cons.mp z).elim (fun y => c y.symm) m]
  refine List.ext_getElem? fun i => ?_
  rw [key, key]
  by_cases m : i ∈ vs
  · rw [if_pos m, if_pos m]
    rcases Nat.lt_or_ge i σ1.length with c | c
    · rw [List.getElem?_eq_getElem c, List.getElem?_eq_getElem (by omega)]
      rfl
    · rw [List.getElem?_eq_none c, List.getElem?_eq_none (by omega)]
  · rw [if_neg m, if_neg m, h i m]
end
theorem comp_run {K : PySem.W.Frag} {vs ts : List Nat} {it : FI} {gt : FG} {tt : FT} {el : FE} (hts : ∀ t ∈ ts, t ∈ vs) {σ : L2.St} {H : Hp} {Q : VK} (q : tV K (fComp vs it gt tt el) σ H Q) : tLc (tI K it) (tG K ts gt) (tT K tt) (tE K el) vs σ H Q := by
  obtain ⟨B, w, e, r, e', hH, st, hf, q⟩ := q
  obtain ⟨⟨ds, e1⟩, k1, k2⟩ := Option.bind_eq_some_iff.mp hf
  refine ⟨B, w, e, ds, e1, hH, st, k1, fun J w1 s1 l1 ok Dd nD => ?_⟩
  split at k2
  · rename_i hfree
    have hfree := freeE_B hfree
    obtain ⟨⟨out, eb⟩, k3, k4⟩ := Option.map_eq_some_iff.mp k2
    cases k4
    have nF1 := s1.nF nD
    have nO1 := s1.nO nD
    obtain ⟨b1, b2, b3⟩ := wipe_stt s1 hfree
    have hls : ∀ {τ : L2.St} {en : En} {w : Wd}, Stt K B w τ en → τ.length = σ.length := fun {τ en w} s => by
      have z1 := congrArg List.length s.pin
      have z2 := congrArg List.length s1.pin
      rw [List.length_map] at z1 z2
      have z3 := s.len
      have z4 := s1.len
      omega
    -- behind i turns
    refine ⟨fun i m H => m + i = ds.length ∧ ∃ w τ en acc av, w.H = H ∧ Stt K B w τ en ∧ (∀ j, j ∉ vs → τ[j]? = σ[j]?) ∧ Le ⟨w1.F, w1.H, ownO (wipe σ vs) (wipeE e1 vs)⟩ w ∧ w.H Dd = some (.lst av) ∧ w.F Dd = none ∧ ¬ w.O Dd ∧ Da K w.F av acc ∧
      compGo vs gt tt el (ds.drop i) en acc = some (out, eb), ⟨ds.length, by simp, ⟨w1.F, upd w1.H Dd (.lst []), ownO (wipe σ vs) (wipeE e1 vs)⟩, wipe σ vs, wipeE e1 vs, [], [], rfl, (b1.addL (o := .lst []) nD).2, fun j hj => wipe_get σ vs j hj, (b1.addL (o := .lst []) nD).1,
        upd_same, nF1, fun z => nO1 (b3 _ z), .nil, by rw [List.drop_zero]; exact k3⟩, ?_⟩
    rintro i m H ⟨hm, w, τ, en, acc, av, hH, st, hτ, le, h1, h2, h3, h4, hg⟩
    have sF : Same w1.F w.F := le.fz
    have sH : Same w1.F H := by rw [← hH]; exact sF.trans st.sub
    by_cases hlt : i < ds.length
    · obtain ⟨d, hd⟩ : ∃ d, ds[i]? = some d := ⟨_, List.getElem?_eq_getElem hlt⟩
      have e0 : ds.drop i = d :: ds.drop (i + 1) := by
        rw [List.drop_eq_getElem_cons hlt]
        congr 1
        rw [List.getElem?_eq_getElem hlt] at hd
        exact Option.some.inj hd
      rw [e0] at hg
      obtain ⟨e2, j1, j2⟩ := Option.bind_eq_some_iff.mp hg
      obtain ⟨⟨bb, e3⟩, j3, j4⟩ := Option.bind_eq_some_iff.mp j2
      refine .inr ⟨ok.go i H sH hlt, fun H' => (m - 1) + (i + 1) = ds.length ∧ ∃ w τ en acc av, w.H = H' ∧ Stt K B w τ en ∧ (∀ j, j ∉ vs → τ[j]? = σ[j]?) ∧ Le ⟨w1.F, w1.H, ownO (wipe σ vs) (wipeE e1 vs)⟩ w ∧ w.H Dd = some (.lst av) ∧ w.F Dd = none ∧ ¬ w.O Dd ∧ Da K w.F av acc ∧
        compGo vs gt tt el (ds.drop (i + 1)) en acc = some (out, eb), fun H' z => ⟨m - 1, by omega, z⟩, fun x H' y => ?_⟩
      obtain ⟨w2, g2, s2, l2, dd⟩ : ∃ w2, w2.H = H' ∧ Stt K B w2 τ en ∧ Le w w2 ∧ Dq K w2.F x d := by
        exact yok_world (ok.yld i H x H' d sH hd y) st hH sF
      have hfe : freeE en vs := freeE_of hfree (by rw [st.pin, s1.pin])
      obtain ⟨c1, c2, c3⟩ := wipe_stt s2 hfe
      have ew : wipe τ vs = wipe σ vs := wipe_eq (hls st) hτ
      rw [ew] at c1 c2
      refine ⟨B, ⟨w2.F, w2.H, ownO (wipe σ vs) (wipeE en vs)⟩, wipeE en vs, d, e2, g2, c1, dd, j1, fun σ3 w3 s3 l3 hσ => ?_⟩
      have hσ3 : ∀ j, j ∉ vs → σ3[j]? = σ[j]? := fun j hj => by
        rw [hσ j fun z => hj (hts j z), wipe_get σ vs j hj]
      refine ⟨wipe_eq (hls s3) hσ3, B, w3, e2, bb, e3, rfl, s3, j3, fun w4 s4 l4 => ?_⟩
      have lw4 : Le w w4 := ((l2.trans c2).trans l3).trans l4
      cases bb with
      | false =>
        obtain ⟨z1, z2, z3, z4⟩ := held lw4 h1 h2 h3 h4
        exact ⟨by omega, w4, σ3, e3, acc, av, rfl, s4, hσ3, le.trans lw4, z1, z2, z3, z4, j4⟩
      | true =>
        obtain ⟨⟨r5, e5⟩, j5, j6⟩ := Option.bind_eq_some_iff.mp (show ((el e3).bind _) = some (out, eb) from j4)
        obtain ⟨⟨d6, e6⟩, j7, j8⟩ := Option.bind_eq_some_iff.mp j6
        split at j8
        · rename_i hsz
          refine ⟨B, w4, e3, r5, e5, rfl, s4, j5, fun v w5 s5 l5 p5 => ?_⟩
          obtain ⟨w6, m1, s6, l6, dq6⟩ := frz_ok s5 j7 p5
          have lw6 : Le w w6 := (lw4.trans l5).trans l6
          obtain ⟨z1, z2, z3, z4⟩ := held lw6 h1 h2 h3 h4
          refine ⟨av, by rw [← m1]; exact z1, sz_lt (by rw [da_len h4]; exact hsz), by omega, ⟨w6.F, upd w6.H Dd (.lst (av ++ [v])), w6.O⟩, σ3, e6, acc ++ [d6], av ++ [v], by rw [← m1], grow s6 z1 z2 z3, hσ3,
            (le.trans lw6).grow (by show w1.H Dd = none; exact nD), upd_same, z2, z3, da_append z4 (.cons dq6 .nil), j8⟩
        · cases j8
    · have e0 : i = ds.length := by omega
      subst e0
      rw [List.drop_length] at hg
      have e1' : (acc, en) = (out, eb) := Option.some.inj hg
      cases e1'
      refine .inl ⟨ok.stop H sH, ?_⟩
      obtain ⟨m1, m2, m3⟩ := merge_stt s1 le st hτ
      rw [← hH]
      refine q (.ref Dd) ⟨w.F, w.H, ownO σ (mergeE e1 eb vs)⟩ m1 (l1.trans m2) ⟨Dd, _, rfl, h1, h2, fun z => ?_, l1.dom Dd nD, .lst h4⟩
      rcases m3 Dd z with z | z
      · exact nO1 z
      · exact h3 z
  · cases k2
section
variable {X : Cx} {elt tg iter : Expr} {ifs : List Expr} {scope : Scope} {own : List (Str × Nat)} {pos : Pos} {it : FI} {ts : List Nat} {gt : FG} {tt : FT} {el : FE}
theorem d_comp (hc : X.calm = true) (hN : X.N.Nodup) (hi : PI X tg iter (tI X.K it)) (ok : BlkOk X.N X.env.scope scope own) (hts : ∀ t ∈ ts, t ∈ own.map (·.2))
    (hg : ∀ (s : Shared) (H : Hp) (C : Addr) (cl : List (Str × Addr)) (fp : List Addr), PG (X.blk s H scope (compEnvC scope cl C X.env) fp) tg (tG X.K ts gt)) (ht : ∀ (s : Shared) (H : Hp) (C : Addr) (cl : List (Str × Addr)) (fp : List Addr), PTs (X.blk s H scope (compEnvC scope cl C X.env) fp) ifs (tT X.K tt))
    (he : ∀ (s : Shared) (H : Hp) (C : Addr) (cl : List (Str × Addr)) (fp : List Addr), PE (X.blk s H scope (compEnvC scope cl C X.env) fp) elt (tE X.K el)) (hs : ∀ x, foldedSetIterable iter X.env x = pure x := by intro _; rfl) :
    PE X (.ListComp elt [⟨tg, iter, ifs, 0⟩] scope pos) (tV X.K (fComp (own.map (·.2)) it gt tt el)) := pe_imp (pe_lc hc hN hi ok hg ht he hs) fun _ _ _ q => comp_run hts q
/-- name = [..] -/
theorem s_setComp {i : Nat} {y : Str} {py spos : Pos} (hc : X.calm = true) (hN : X.N.Nodup) (hy : X.N[i]? = some y) (hyl : X.env.scope.names.lookup y = some .local) (hsw : swapsWith (.ListComp elt [⟨tg, iter, ifs, 0⟩] scope pos) (some (.Name y py)) spos.line X.env = pure true)
    (hi : PI X tg iter (tI X.K it)) (ok : BlkOk X.N X.env.scope scope own) (hts : ∀ t ∈ ts, t ∈ own.map (·.2))
    (hg : ∀ (s : Shared) (H : Hp) (C : Addr) (cl : List (Str × Addr)) (fp : List Addr), PG (X.blk s H scope (compEnvC scope cl C X.env) fp) tg (tG X.K ts gt)) (ht : ∀ (s : Shared) (H : Hp) (C : Addr) (cl : List (Str × Addr)) (fp : List Addr), PTs (X.blk s H scope (compEnvC scope cl C X.env) fp) ifs (tT X.K tt))
    (he : ∀ (s : Shared) (H : Hp) (C : Addr) (cl : List (Str × Addr)) (fp : List Addr), PE (X.blk s H scope (compEnvC scope cl C X.env) fp) elt (tE X.K el)) (hs : ∀ x, foldedSetIterable iter X.env x = pure x := by intro _; rfl) :
    PS X (.Assign [.Name y py] (.ListComp elt [⟨tg, iter, ifs, 0⟩] scope pos) spos) (tS X.K (sSet i (fComp (own.map (·.2)) it gt tt el))) := by
  refine ps_imp (ps_setLc hc hN hy hyl hsw hi ok hg ht he hs) fun D σ H ⟨B, w, e, fl, hH, st, hg, q⟩ => ?_
  obtain ⟨⟨r, e1⟩, k1, k2⟩ := Option.bind_eq_some_iff.mp hg
  obtain ⟨e2, k3, k4⟩ := Option.map_eq_some_iff.mp k2
  subst k4
  obtain ⟨o, k5, k6, k7⟩ := put_some k3
  subst k7
  refine comp_run (Q := fun v H1 => D.nx (σ.set i (some v)) H1) hts ⟨B, w, e, r, e1, hH, st, k1, fun v w1 s1 l1 ok => ?_⟩
  obtain ⟨j1, j2⟩ := set_stt s1 l1 ok (fun a z => st.dom a z) k5 k6
  exact q _ ⟨w1.F, w1.H, ownO (σ.set i (some v)) (e1.set i (setR r))⟩ j1 j2
def gYes : FT := fun e => some (true, e)
theorem ts_nil : PTs X [] (tT X.K gYes) := by
  refine ⟨fun pins s σ H Q I h => pts_nil.run pins s σ H Q I ?_⟩
  obtain ⟨B, w, e, b, e', hH, st, hf, q⟩ := h
  cases hf
  subst hH
  exact q w st (Le.refl w)
theorem ts_one {c : Expr} (h : PT X c (tT X.K tt)) : PTs X [c] (tT X.K tt) := pts_one h
end
end DL

set_option Elab.async false
set_option linter.all false
set_option maxRecDepth 100000
set_option maxHeartbeats 2000000
/-! DL12: methods of own lists, stores into them, list(range). -/
namespace DL
open PySem PySem.Spec PyProof.Rows L2
section
variable {K : PySem.W.Frag} {B : Bd} {w w' : Wd} {σ σ' : L2.St} {e e' : En}
/-- a slot's own list becomes another one -/
theorem own_stt (st : Stt K B w σ e) {i : Nat} {b : Bool} {l l' : D} {a : Addr} {ob : HO} (hi : e[i]? = some (Slot.own b l)) (ha : σ[i]? = some (some (.ref a))) (hd : OwD K w.F ob l') :
    Stt K B ⟨w.F, upd w.H a ob, w.O⟩ σ (e.set i (.own b l')) ∧ Le w ⟨w.F, upd w.H a ob, w.O⟩ := by
  obtain ⟨a', us, h1, h2, h3, h4, h5⟩ := st.own_at hi
  rw [ha] at h1
  cases h1
  have hl := lt_of_get hi
  have nF : ∀ {x : Addr} {o : HO}, w.F x = some o → x ≠ a := fun {x o} q z => by rw [z, h3] at q; cases q
  have own_at : ∀ {j : Nat} {c : Bool} {m : D}, (e.set i (.own b l'))[j]? = some (Slot.own c m) → ∃ m', e[j]? = some (Slot.own c m') := fun {j c m} q => by
    rw [get_set] at q
    by_cases z : i = j
    · subst z
      rw [if_pos ⟨rfl, hl⟩] at q
      cases q
      exact ⟨l, hi⟩
    · rw [if_neg fun y => z y.1] at q
      exact ⟨m, q⟩
  have own_to : ∀ {j : Nat} {c : Bool} {m : D}, e[j]? = some (Slot.own c m) → ∃ m', (e.set i (.own b l'))[j]? = some (Slot.own c m') := fun {j c m} q => by
    rw [get_set]
    by_cases z : i = j
    · subst z
      rw [hi] at q
      cases q
      exact ⟨l', if_pos ⟨rfl, hl⟩⟩
    · exact ⟨m, by rw [if_neg fun y => z y.1]; exact q⟩
  refine ⟨⟨fun x o q => ?_, by rw [List.length_set]; exact st.len, fun j s q => ?_, fun j k c m c' m' q1 q2 q3 => ?_, fun x => ⟨fun q => ?_, fun ⟨j, c, m, q1, q2⟩ => ?_⟩, ?_, st.pins, fun x q => st.dom x ?_, fun j m x q1 q2 => ?_⟩,
    ⟨Same.refl _, fun x o q n => ?_, fun x o q => .inl q, fun x q => .inl q, fun x q => ?_⟩⟩
  · have q' : w.F x = some o := q
    show upd w.H a ob x = some o
    rw [upd_ne (nF q')]
    exact st.sub x o q'
  · rw [get_set] at q
    by_cases z : i = j
    · subst z
      rw [if_pos ⟨rfl, hl⟩] at q
      cases q
      exact ⟨a, ob, ha, upd_same, h3, hd⟩
    · rw [if_neg fun y => z y.1] at q
      have k := st.sl j s q
      cases s with
      | dead => trivial
      | lck c => exact k
      | val c d => exact k
      | own c m =>
        obtain ⟨x, xs, k1, k2, k3, k4⟩ := k
        refine ⟨x, xs, k1, ?_, k3, k4⟩
        show upd w.H a ob x = some xs
        rw [upd_ne (fun y => z (st.inj i j _ _ _ _ hi q (by rw [ha, k1, y])))]
        exact k2
  · obtain ⟨m1, k1⟩ := own_at q1
    obtain ⟨m2, k2⟩ := own_at q2
    exact st.inj j k _ _ _ _ k1 k2 q3
  · obtain ⟨j, c, m, k1, k2⟩ := (st.ow x).mp q
    obtain ⟨m', k3⟩ := own_to k1
    exact ⟨j, c, m', k3, k2⟩
  · obtain ⟨m', k1⟩ := own_at q1
    exact (st.ow x).mpr ⟨j, c, m', k1, q2⟩
  · rw [← st.pin, List.map_set]
    refine List.ext_getElem? fun k => ?_
    rw [get_set]
    split
    · rename_i q
      rw [← q.1, List.getElem?_map, hi]
      rfl
    · rfl
  · have q' : upd w.H a ob x = none := q
    by_cases c : x = a
    · subst c; rw [upd_same] at q'; cases q'
    · rw [upd_ne c] at q'; exact q'
  · obtain ⟨m', k1⟩ := own_at q1
    exact st.fr j m' x k1 q2
  · show upd w.H a ob x = some o
    rw [upd_ne (fun z => n (by rw [z]; exact h5))]
    exact q
  · have q' : upd w.H a ob x = none := q
    by_cases c : x = a
    · subst c; rw [upd_same] at q'; cases q'
    · rw [upd_ne c] at q'; exact q'
/-- an own list's address -/
theorem own_lst (st : Stt K B w σ e) {i : Nat} {b : Bool} {l : List D} (hi : e[i]? = some (Slot.own b (.list l))) : ∃ a vs, σ[i]? = some (some (.ref a)) ∧ w.H a = some (.lst vs) ∧ w.F a = none ∧ Da K w.F vs l ∧ w.O a := by
  obtain ⟨a, o, h1, h2, h3, h4, h5⟩ := st.own_at hi
  obtain ⟨vs, rfl, h6⟩ := ow_lst h4
  exact ⟨a, vs, h1, h2, h3, h6, h5⟩
end
section
variable {X : Cx} {a x : Expr} {f : FE} {y : Str} {i : Nat} {p apos cpos : Pos}
/-- xs.append(e), xs a slot's own list -/
def fAppend (i : Nat) (f : FE) : FV := fun e => match e[i]? with
  | some (.own _ (.list _)) => (f e).bind fun p => (frz p.2 p.1).bind fun q => match q.2[i]? with
    | some (.own b (.list l)) => if l.length < SZ then some (.val .none, q.2.set i (.own b (.list (l ++ [q.1])))) else none
    | _ => none
  | _ => none
theorem d_append (hv : PE X (.Name y p) (tVar i)) (ha : PE X a (tE X.K f)) (hbase : attributeBase (.Name y p) "append" X.env (eval (.Name y p) X.env) = eval (.Name y p) X.env := by rfl)
    (hfew : ((backTo cpos (starEach [a] X.env)).all (fun x => !x.1) && (backToKw cpos (keywordEach [] X.env)).all (fun x => x.1.isSome) && decide ([a].length + ([] : List Keyword).length + (if ([] : List Keyword).isEmpty then 0 else 1) < 30)) = true := by rfl)
    (hline : (apos.endLine == cpos.line) = true := by rfl) (hs : starEach [a] X.env = (false, eval a X.env) :: starEach [] X.env := by rfl) (hplain : (backTo cpos (starEach [] X.env)).any (·.1) = false := by rfl) :
    PE X (.Call (.Attribute (.Name y p) "append" apos) [a] [] cpos) (tV X.K (fAppend i f)) := by
  refine pe_imp (pe_bm PySem.F.plainAttrs_list PySem.F.slot_list_append PySem.F.type_list_append mt_append hv (pa_cons ha pa_nil hs) hbase hfew hline hs hplain) fun σ H Q ⟨B, w, e, r, e', hH, st, hf, q⟩ => ?_
  subst hH
  unfold fAppend at hf
  cases hs0 : e[i]? with
  | none => simp only [hs0] at hf; cases hf
  | some s =>
    simp only [hs0] at hf
    cases s <;> try cases hf
    rename_i b0 l0
    cases l0 <;> try cases hf
    rename_i l0
    obtain ⟨a0, us0, k1, k2, k3, k4, k5⟩ := own_lst st hs0
    refine ⟨.ref a0, k1, .inl ⟨rfl, us0, .inl (.inl k2)⟩, ?_⟩
    obtain ⟨⟨r1, e1⟩, j1, j2⟩ := Option.bind_eq_some_iff.mp hf
    obtain ⟨⟨d, e2⟩, j3, j4⟩ := Option.bind_eq_some_iff.mp j2
    refine ⟨B, w, e, r1, e1, rfl, st, j1, fun v w1 s1 l1 p1 => ?_⟩
    obtain ⟨w2, m1, s2, l2, dq⟩ := frz_ok s1 j3 p1
    show rAppend (.ref a0) [v] w1.H Q
    rw [← m1]
    cases hs2 : e2[i]? with
    | none => simp only [hs2] at j4; cases j4
    | some s =>
      simp only [hs2] at j4
      cases s <;> try cases j4
      rename_i b l
      cases l <;> try cases j4
      rename_i l
      have j5 : (if l.length < SZ then some (Res.val .none, e2.set i (.own b (.list (l ++ [d])))) else none) = some (r, e') := j4
      split at j5
      · rename_i hz
        cases j5
        obtain ⟨a2, us, n1, n2, n3, n4, n5⟩ := own_lst s2 hs2
        rw [k1] at n1
        cases n1
        refine ⟨a0, us, v, rfl, rfl, n2, sz_lt (by rw [da_len n4]; exact hz), ?_⟩
        obtain ⟨o1, o2⟩ := own_stt (ob := .lst (us ++ [v])) (l' := .list (l ++ [d])) s2 hs2 k1 (.lst (da_append n4 (.cons dq .nil)))
        exact q .non ⟨w2.F, upd w2.H a0 (.lst (us ++ [v])), w2.O⟩ o1 ((l1.trans l2).trans o2) Dq.non
      · cases j5
/-- xs.pop() -/
def fPop (i : Nat) : FV := fun e => match e[i]? with
  | some (.own b (.list l)) => (l[l.length - 1]?).map fun d => (.val d, e.set i (.own b (.list l.dropLast)))
  | _ => none
theorem d_pop (hv : PE X (.Name y p) (tVar i)) (hbase : attributeBase (.Name y p) "pop" X.env (eval (.Name y p) X.env) = eval (.Name y p) X.env := by rfl) (hline : (apos.endLine == cpos.line) = true := by rfl) :
    PE X (.Call (.Attribute (.Name y p) "pop" apos) [] [] cpos) (tV X.K (fPop i)) := by
  refine pe_imp (pe_bm0 PySem.F.plainAttrs_list PySem.F.slot_list_pop PySem.F.type_list_pop mt_pop hv hbase hline) fun σ H Q ⟨B, w, e, r, e', hH, st, hf, q⟩ => ?_
  subst hH
  unfold fPop at hf
  cases hs0 : e[i]? with
  | none => simp only [hs0] at hf; cases hf
  | some s =>
    simp only [hs0] at hf
    cases s <;> try cases hf
    rename_i b l
    cases l <;> try cases hf
    rename_i l
    obtain ⟨d, j1, j2⟩ := Option.map_eq_some_iff.mp hf
    cases j2
    obtain ⟨a0, us, k1, k2, k3, k4, k5⟩ := own_lst st hs0
    obtain ⟨v, m1, m2⟩ := da_get k4 j1
    refine ⟨.ref a0, k1, .inl ⟨rfl, us, .inl (.inl k2)⟩, a0, us, v, rfl, rfl, k2, by rw [da_len k4]; exact m1, ?_⟩
    obtain ⟨o1, o2⟩ := own_stt (ob := .lst (us.dropLast)) (l' := .list (l.dropLast)) st hs0 k1 (.lst (da_dropLast k4))
    exact q v ⟨w.F, upd w.H a0 (.lst us.dropLast), w.O⟩ o1 o2 m2
/-- xs[k] = e -/
def sSetIx (i : Nat) (fi : FE) (f : FV) : FS := fun e => (f e).bind fun p => match p.1 with
  | .val d => match p.2[i]? with
    | some (.own _ (.list _)) => (fi p.2).bind fun q => match look q.2 q.1 with
      | some (.int k) => match q.2[i]? with
        | some (.own b (.list l)) => (ixN l.length k).map fun j => .next (q.2.set i (.own b (.list (l.set j d))))
        | _ => none
      | _ => none
    | _ => none
  | _ => none
theorem s_setIx {fi : FE} {fv : FV} {ix e : Expr} {spos tpos : Pos} (hv : PE X (.Name y p) (tVar i)) (hi : PE X ix (tE X.K fi)) (he : PE X e (tV X.K fv))
    (ha : ∀ v, assign (.Subscript (.Name y p) ix tpos) X.env v = (do
      let ov ← holding [v] (eval (.Name y p) X.env)
      let iv ← holding [v, ov] (eval ix X.env)
      standAt tpos
      holding [v, ov, iv] (setItem ov iv v)
      release [v, ov, iv] []) := by intro _; rfl)
    (hs : swapsWithSole [.Subscript (.Name y p) ix tpos] e spos.line X.env = pure false := by rfl) (hw : swappedStores [.Subscript (.Name y p) ix tpos] e X.env = pure none := by rfl)
    (h1 : (assignEach [.Subscript (.Name y p) ix tpos] X.env).map (·.2) = [assign (.Subscript (.Name y p) ix tpos) X.env] := by rfl) :
    PS X (.Assign [.Subscript (.Name y p) ix tpos] e spos) (tS X.K (sSetIx i fi fv)) := by
  refine ps_imp (ps_asg he (pg_sub hv hi set_list ha) hs hw h1) fun D σ H ⟨B, w, e, fl, hH, st, hf, q⟩ => ?_
  obtain ⟨⟨r, e1⟩, k1, k2⟩ := Option.bind_eq_some_iff.mp hf
  refine ⟨B, w, e, r, e1, hH, st, k1, fun v w1 s1 l1 ok => ?_⟩
  cases r with
  | fresh l => cases k2
  | val d =>
    simp only at k2
    cases hs0 : e1[i]? with
    | none => simp only [hs0] at k2; cases k2
    | some s =>
      simp only [hs0] at k2
      cases s <;> try cases k2
      rename_i b0 l0
      cases l0 <;> try cases k2
      rename_i l0
      obtain ⟨a0, us0, z1, z2, z3, z4, z5⟩ := own_lst s1 hs0
      refine ⟨.ref a0, z1, ?_⟩
      obtain ⟨⟨r2, e2⟩, j1, j2⟩ := Option.bind_eq_some_iff.mp k2
      refine ⟨B, w1, e1, r2, e2, rfl, s1, j1, fun vi w2 s2 l2 p2 => ?_⟩
      cases hl : look e2 r2 with
      | none => simp only [hl] at j2; cases j2
      | some di =>
        simp only [hl] at j2
        cases di <;> try cases j2
        rename_i k
        have ti := look_ok s2 hl p2
        cases hs2 : e2[i]? with
        | none => simp only [hs2] at j2; cases j2
        | some s =>
          simp only [hs2] at j2
          cases s <;> try cases j2
          rename_i b l
          cases l <;> try cases j2
          rename_i l
          obtain ⟨j, m1, m2⟩ := Option.map_eq_some_iff.mp j2
          subst m2
          obtain ⟨a2, us, n1, n2, n3, n4, n5⟩ := own_lst s2 hs2
          rw [z1] at n1
          cases n1
          refine ⟨a0, us, k, j, rfl, ti.int, n2, by rw [da_len n4]; exact m1, ?_⟩
          have ok' : Dq X.K w2.F v d := dq_same l2.fz ok
          obtain ⟨o1, o2⟩ := own_stt (ob := .lst (us.set j v)) (l' := .list (l.set j d)) s2 hs2 z1 (.lst (da_set ok' j n4))
          exact q σ ⟨w2.F, upd w2.H a0 (.lst (us.set j v)), w2.O⟩ o1 ((l1.trans l2).trans o2)
end

/-! ### list(range(..)) -/
def fLstR (g : FI) : FV := fun e => (g e).bind fun p => if p.1.length ≤ SZ then some (.fresh (.list p.1), p.2) else none
theorem rgV_D (K : PySem.W.Frag) (F : Hp) (a b : Int) : Da K F (rgV a b) (rangeD a (b - a).toNat) := by
  unfold rgV rangeD
  generalize List.range (b - a).toNat = l
  induction l with
  | nil => exact .nil
  | cons i l ih => exact .cons (Dq.int _) ih
section
variable {X : Cx} {a b : Expr} {fa fb : FE} {p pos p2 pos2 : Pos}
theorem d_lstR1 (hc : X.calm = true) (hg : Gl X "list") (hm : X.mg "list" = none) (hg' : Gl X "range") (hm' : X.mg "range" = none) (ha : PE X a (tE X.K fa)) (na : starEach [a] X.env = (false, eval a X.env) :: starEach [] X.env := by rfl)
    (nb : starEach [.Call (.Name "range" p2) [a] [] pos2] X.env = (false, eval (.Call (.Name "range" p2) [a] [] pos2) X.env) :: starEach [] X.env := by rfl) :
    PE X (.Call (.Name "list" p) [.Call (.Name "range" p2) [a] [] pos2] [] pos) (tV X.K (fLstR (iR1 (fCons fa fNil)))) := by
  refine pe_imp (pe_listRg hc hg hm (prg_1 hg' hm' ha na) nb) fun σ H Q ⟨B, w, e, r, e', hH, st, hf, q⟩ => ?_
  obtain ⟨⟨ds, e1⟩, k1, k2⟩ := Option.bind_eq_some_iff.mp hf
  obtain ⟨⟨rs, e2⟩, k3, k4⟩ := Option.bind_eq_some_iff.mp k1
  obtain ⟨⟨r1, e3⟩, k5, k6⟩ := Option.bind_eq_some_iff.mp k3
  have k6' : ([r1], e3) = (rs, e2) := Option.some.inj k6
  cases k6'
  refine ⟨B, w, e, r1, e2, hH, st, k5, fun v w1 s1 l1 p1 => ?_⟩
  cases hl : look e2 r1 with
  | none =>
    have z : looks e2 [r1] = none := by simp [looks, hl]
    simp only [z] at k4
    cases k4
  | some d =>
    have z : looks e2 [r1] = some [d] := by simp [looks, hl]
    simp only [z] at k4
    cases d <;> try cases k4
    rename_i j
    have t := look_ok s1 hl p1
    have k4' : (if smallI j then some (rangeD 0 j.toNat, e2) else none) = some (ds, e1) := k4
    split at k4'
    · rename_i hb
      cases k4'
      have k2' : (if (rangeD 0 j.toNat).length ≤ SZ then some (Res.fresh (.list (rangeD 0 j.toNat)), e1) else none) = some (r, e') := k2
      split at k2'
      · rename_i hz
        cases k2'
        have hz' : j.toNat ≤ 16777216 := by simpa [rangeD] using hz
        refine ⟨j, t.int, ⟨by omega, by omega, hb.1, hb.2, by omega⟩, fun c nc => ?_⟩
        have dd := rgV_D X.K w1.F 0 j
        rw [Int.sub_zero] at dd
        exact res_lst s1 dd (fun v w2 s2 l2 ok => q v w2 s2 (l1.trans l2) (ok.mono fun a z => l1.dom a z)) c nc
      · cases k2'
    · cases k4'
theorem d_lstR2 (hc : X.calm = true) (hg : Gl X "list") (hm : X.mg "list" = none) (hg' : Gl X "range") (hm' : X.mg "range" = none) (ha : PE X a (tE X.K fa)) (hb : PE X b (tE X.K fb)) (na : starEach [a, b] X.env = (false, eval a X.env) :: starEach [b] X.env := by rfl)
    (nb : starEach [b] X.env = (false, eval b X.env) :: starEach [] X.env := by rfl) (hp : (backTo pos2 (starEach [b] X.env)).any (·.1) = false := by rfl)
    (nc : starEach [.Call (.Name "range" p2) [a, b] [] pos2] X.env = (false, eval (.Call (.Name "range" p2) [a, b] [] pos2) X.env) :: starEach [] X.env := by rfl) :
    PE X (.Call (.Name "list" p) [.Call (.Name "range" p2) [a, b] [] pos2] [] pos) (tV X.K (fLstR (iR2 (fCons fa (fCons fb fNil))))) := by
  refine pe_imp (pe_listRg hc hg hm (prg_2 hg' hm' ha hb na nb hp) nc) fun σ H Q ⟨B, w, e, r, e', hH, st, hf, q⟩ => ?_
  obtain ⟨⟨ds, e1⟩, k1, k2⟩ := Option.bind_eq_some_iff.mp hf
  obtain ⟨⟨rs, e2⟩, k3, k4⟩ := Option.bind_eq_some_iff.mp k1
  obtain ⟨⟨r1, e3⟩, k5, k6⟩ := Option.bind_eq_some_iff.mp k3
  obtain ⟨⟨rs', e5⟩, k7, k8⟩ := Option.map_eq_some_iff.mp k6
  obtain ⟨⟨r2, e4⟩, k9, k10⟩ := Option.bind_eq_some_iff.mp k7
  have k10' : ([r2], e4) = (rs', e5) := Option.some.inj k10
  cases k10'
  cases k8
  refine ⟨B, w, e, r1, e3, hH, st, k5, fun v w1 s1 l1 p1 => ?_⟩
  refine ⟨B, w1, e3, r2, e5, rfl, s1, k9, fun v2 w2 s2 l2 p2 => ?_⟩
  cases hl : look e5 r1 with
  | none =>
    have z : looks e5 [r1, r2] = none := by simp [looks, hl]
    simp only [z] at k4
    cases k4
  | some d =>
    cases hl2 : look e5 r2 with
    | none =>
      have z : looks e5 [r1, r2] = none := by simp [looks, hl, hl2]
      simp only [z] at k4
      cases k4
    | some d2 =>
      have z : looks e5 [r1, r2] = some [d, d2] := by simp [looks, hl, hl2]
      simp only [z] at k4
      cases d <;> try cases k4
      cases d2 <;> try cases k4
      rename_i i j
      have t1 := look_ok s2 hl (p1.later l2)
      have t2 := look_ok s2 hl2 p2
      have k4' : (if smallI i ∧ smallI j then some (rangeD i (j - i).toNat, e5) else none) = some (ds, e1) := k4
      split at k4'
      · rename_i hb
        cases k4'
        have k2' : (if (rangeD i (j - i).toNat).length ≤ SZ then some (Res.fresh (.list (rangeD i (j - i).toNat)), e1) else none) = some (r, e') := k2
        split at k2'
        · rename_i hz
          cases k2'
          have hz' : (j - i).toNat ≤ 16777216 := by simpa [rangeD] using hz
          refine ⟨i, j, t1.int, t2.int, ⟨hb.1.1, hb.1.2, hb.2.1, hb.2.2, by omega⟩, fun c nc => ?_⟩
          have l12 := l1.trans l2
          exact res_lst s2 (rgV_D X.K w2.F i j) (fun v w3 s3 l3 ok => q v w3 s3 (l12.trans l3) (ok.mono fun a z => l12.dom a z)) c nc
        · cases k2'
      · cases k4'
end
end DL

set_option Elab.async false
set_option linter.all false
set_option maxRecDepth 100000
set_option maxHeartbeats 2000000
/-! DL16: comprehensions of two clauses. -/
namespace DL
open PySem PySem.Spec PyProof.Rows L2
def compGo2 (vs vs1 : List Nat) (gt : FG) (tt : FT) (it1 : FI) (gt1 : FG) (tt1 : FT) (el : FE) : List D → En → List D → Option (List D × En)
  | [], e, acc => some (acc, e)
  | d :: ds, e, acc => (gt d (wipeE e vs)).bind fun e1 => (tt e1).bind fun p => if p.1 = true then
      ((it1 p.2).bind fun q => if freeB q.2 vs1 = true then (compGo vs1 gt1 tt1 el q.1 q.2 acc).bind fun r => compGo2 vs vs1 gt tt it1 gt1 tt1 el ds r.2 r.1 else none)
    else compGo2 vs vs1 gt tt it1 gt1 tt1 el ds p.2 acc
def fComp2 (vs vs1 : List Nat) (it : FI) (gt : FG) (tt : FT) (it1 : FI) (gt1 : FG) (tt1 : FT) (el : FE) : FV := fun e => (it e).bind fun p => if freeB p.2 vs = true then
  (compGo2 vs vs1 gt tt it1 gt1 tt1 el p.1 (wipeE p.2 vs) []).map fun q => (.fresh (.list q.1), mergeE p.2 q.2 vs) else none
theorem comp2_run {K : PySem.W.Frag} {vs vs1 ts ts1 : List Nat} {it it1 : FI} {gt gt1 : FG} {tt tt1 : FT} {el : FE} (hts : ∀ t ∈ ts, t ∈ vs) (hts1 : ∀ t ∈ ts1, t ∈ vs1) (hv1 : ∀ t ∈ vs1, t ∈ vs) {σ : L2.St} {H : Hp} {Q : VK} (q : tV K (fComp2 vs vs1 it gt tt it1 gt1 tt1 el) σ H Q) :
    tLc2 (tI K it) (tG K ts gt) (tT K tt) (tI K it1) (tG K ts1 gt1) (tT K tt1) (tE K el) vs vs1 σ H Q := by
  obtain ⟨B, w, e, r, e', hH, st, hf, q⟩ := q
  obtain ⟨⟨ds, e1⟩, k1, k2⟩ := Option.bind_eq_some_iff.mp hf
  refine ⟨B, w, e, ds, e1, hH, st, k1, fun J w1 s1 l1 ok Dd nD => ?_⟩
  split at k2
  · rename_i hfree
    have hfree := freeE_B hfree
    obtain ⟨⟨out, eb⟩, k3, k4⟩ := Option.map_eq_some_iff.mp k2
    cases k4
    have nF1 := s1.nF nD
    have nO1 := s1.nO nD
    obtain ⟨b1, b2, b3⟩ := wipe_stt s1 hfree
    have hls : ∀ {τ τ' : L2.St} {en en' : En} {w w' : Wd}, Stt K B w τ en → Stt K B w' τ' en' → τ.length = τ'.length := fun {τ τ' en en' w w'} s s' => by
      have z1 := congrArg List.length s.pin
      have z2 := congrArg List.length s'.pin
      rw [List.length_map] at z1 z2
      have z3 := s.len
      have z4 := s'.len
      omega
    refine ⟨fun i m H => m + i = ds.length ∧ ∃ w τ en acc av, w.H = H ∧ Stt K B w τ en ∧ (∀ j, j ∉ vs → τ[j]? = σ[j]?) ∧ Le ⟨w1.F, w1.H, ownO (wipe σ vs) (wipeE e1 vs)⟩ w ∧ w.H Dd = some (.lst av) ∧ w.F Dd = none ∧ ¬ w.O Dd ∧ Da K w.F av acc ∧
      compGo2 vs vs1 gt tt it1 gt1 tt1 el (ds.drop i) en acc = some (out, eb), ⟨ds.length, by simp, ⟨w1.F, upd w1.H Dd (.lst []), ownO (wipe σ vs) (wipeE e1 vs)⟩, wipe σ vs, wipeE e1 vs, [], [], rfl, (b1.addL (o := .lst []) nD).2, fun j hj => wipe_get σ vs j hj, (b1.addL (o := .lst []) nD).1,
        upd_same, nF1, fun z => nO1 (b3 _ z), .nil, by rw [List.drop_zero]; exact k3⟩, ?_⟩
    rintro i m H ⟨hm, w, τ, en, acc, av, hH, st, hτ, le, h1, h2, h3, h4, hg⟩
    have sF : Same w1.F w.F := le.fz
    have sH : Same w1.F H := by rw [← hH]; exact sF.trans st.sub
    by_cases hlt : i < ds.length
    · obtain ⟨d, hd⟩ : ∃ d, ds[i]? = some d := ⟨_, List.getElem?_eq_getElem hlt⟩
      have e0 : ds.drop i = d :: ds.drop (i + 1) := by
        rw [List.drop_eq_getElem_cons hlt]
        congr 1
        rw [List.getElem?_eq_getElem hlt] at hd
        exact Option.some.inj hd
      rw [e0] at hg
      obtain ⟨e2, j1, j2⟩ := Option.bind_eq_some_iff.mp hg
      obtain ⟨⟨bb, e3⟩, j3, j4⟩ := Option.bind_eq_some_iff.mp j2
      refine .inr ⟨ok.go i H sH hlt, fun H' => (m - 1) + (i + 1) = ds.length ∧ ∃ w τ en acc av, w.H = H' ∧ Stt K B w τ en ∧ (∀ j, j ∉ vs → τ[j]? = σ[j]?) ∧ Le ⟨w1.F, w1.H, ownO (wipe σ vs) (wipeE e1 vs)⟩ w ∧ w.H Dd = some (.lst av) ∧ w.F Dd = none ∧ ¬ w.O Dd ∧ Da K w.F av acc ∧
        compGo2 vs vs1 gt tt it1 gt1 tt1 el (ds.drop (i + 1)) en acc = some (out, eb), fun H' z => ⟨m - 1, by omega, z⟩, fun x H' y => ?_⟩
      obtain ⟨w2, g2, s2, l2, dd⟩ : ∃ w2, w2.H = H' ∧ Stt K B w2 τ en ∧ Le w w2 ∧ Dq K w2.F x d := by
        exact yok_world (ok.yld i H x H' d sH hd y) st hH sF
      have hfe : freeE en vs := freeE_of hfree (by rw [st.pin, s1.pin])
      obtain ⟨c1, c2, c3⟩ := wipe_stt s2 hfe
      have ew : wipe τ vs = wipe σ vs := wipe_eq (hls st s1) hτ
      rw [ew] at c1 c2
      refine ⟨B, ⟨w2.F, w2.H, ownO (wipe σ vs) (wipeE en vs)⟩, wipeE en vs, d, e2, g2, c1, dd, j1, fun σ3 w3 s3 l3 hσ => ?_⟩
      have hσ3 : ∀ j, j ∉ vs → σ3[j]? = σ[j]? := fun j hj => by
        rw [hσ j fun z => hj (hts j z), wipe_get σ vs j hj]
      refine ⟨wipe_eq (hls s3 s1) hσ3, B, w3, e2, bb, e3, rfl, s3, j3, fun w4 s4 l4 => ?_⟩
      have lw4 : Le w w4 := ((l2.trans c2).trans l3).trans l4
      cases bb with
      | false =>
        obtain ⟨z1, z2, z3, z4⟩ := held lw4 h1 h2 h3 h4
        exact ⟨by omega, w4, σ3, e3, acc, av, rfl, s4, hσ3, le.trans lw4, z1, z2, z3, z4, j4⟩
      | true =>
        obtain ⟨⟨ds1, e5⟩, j5, j6⟩ := Option.bind_eq_some_iff.mp (show ((it1 e3).bind _) = some (out, eb) from j4)
        split at j6
        · rename_i hfree1
          have hfree1 := freeE_B hfree1
          refine ⟨B, w4, e3, ds1, e5, rfl, s4, j5, fun J1 w5 s5 l5 ok1 => ?_⟩
          have lw5 : Le w w5 := lw4.trans l5
          obtain ⟨y1, y2, y3, y4⟩ := held lw5 h1 h2 h3 h4
          -- the turns of the second clause
          refine ⟨fun j k H => k + j = ds1.length ∧ ∃ w τ en acc av, w.H = H ∧ Stt K B w τ en ∧ (∀ t, t ∉ vs1 → τ[t]? = σ3[t]?) ∧ Same w5.F w.F ∧ Le ⟨w1.F, w1.H, ownO (wipe σ vs) (wipeE e1 vs)⟩ w ∧ w.H Dd = some (.lst av) ∧ w.F Dd = none ∧ ¬ w.O Dd ∧ Da K w.F av acc ∧
            ((compGo vs1 gt1 tt1 el (ds1.drop j) en acc).bind fun r => compGo2 vs vs1 gt tt it1 gt1 tt1 el (ds.drop (i + 1)) r.2 r.1) = some (out, eb),
            ⟨ds1.length, by simp, w5, σ3, e5, acc, av, rfl, s5, fun _ _ => rfl, Same.refl _, le.trans lw5, y1, y2, y3, y4, by rw [List.drop_zero]; exact j6⟩, ?_⟩
          rintro j k Hj ⟨hk, wj, τj, enj, accj, avj, hHj, stj, hτj, sFj, lej, p1, p2, p3, p4, hgj⟩
          have sHj : Same w5.F Hj := by rw [← hHj]; exact sFj.trans stj.sub
          by_cases hlt1 : j < ds1.length
          · obtain ⟨dj, hdj⟩ : ∃ d, ds1[j]? = some d := ⟨_, List.getElem?_eq_getElem hlt1⟩
            have e0j : ds1.drop j = dj :: ds1.drop (j + 1) := by
              rw [List.drop_eq_getElem_cons hlt1]
              congr 1
              rw [List.getElem?_eq_getElem hlt1] at hdj
              exact Option.some.inj hdj
            rw [e0j] at hgj
            obtain ⟨⟨accE, enE⟩, n1, n2⟩ := Option.bind_eq_some_iff.mp hgj
            obtain ⟨e6, n3, n4⟩ := Option.bind_eq_some_iff.mp n1
            obtain ⟨⟨b7, e7⟩, n5, n6⟩ := Option.bind_eq_some_iff.mp n4
            refine .inr ⟨ok1.go j Hj sHj hlt1, fun H' => (k - 1) + (j + 1) = ds1.length ∧ ∃ w τ en acc av, w.H = H' ∧ Stt K B w τ en ∧ (∀ t, t ∉ vs1 → τ[t]? = σ3[t]?) ∧ Same w5.F w.F ∧ Le ⟨w1.F, w1.H, ownO (wipe σ vs) (wipeE e1 vs)⟩ w ∧ w.H Dd = some (.lst av) ∧ w.F Dd = none ∧ ¬ w.O Dd ∧ Da K w.F av acc ∧
              ((compGo vs1 gt1 tt1 el (ds1.drop (j + 1)) en acc).bind fun r => compGo2 vs vs1 gt tt it1 gt1 tt1 el (ds.drop (i + 1)) r.2 r.1) = some (out, eb), fun H' z => ⟨k - 1, by omega, z⟩, fun x H' y => ?_⟩
            obtain ⟨w6, g6, s6, l6, dd6⟩ : ∃ w6, w6.H = H' ∧ Stt K B w6 τj enj ∧ Le wj w6 ∧ Dq K w6.F x dj := by
              exact yok_world (ok1.yld j Hj x H' dj sHj hdj y) stj hHj sFj
            have hfej : freeE enj vs1 := freeE_of hfree1 (by rw [stj.pin, s5.pin])
            obtain ⟨d1, d2, d3⟩ := wipe_stt s6 hfej
            have ewj : wipe τj vs1 = wipe σ3 vs1 := wipe_eq (hls stj s5) hτj
            rw [ewj] at d1 d2
            refine ⟨B, ⟨w6.F, w6.H, ownO (wipe σ3 vs1) (wipeE enj vs1)⟩, wipeE enj vs1, dj, e6, g6, d1, dd6, n3, fun σ8 w8 s8 l8 hσ8 => ?_⟩
            have hσ8' : ∀ t, t ∉ vs1 → σ8[t]? = σ3[t]? := fun t ht => by
              rw [hσ8 t fun z => ht (hts1 t z), wipe_get σ3 vs1 t ht]
            refine ⟨wipe_eq (hls s8 s5) hσ8', B, w8, e6, b7, e7, rfl, s8, n5, fun w9 s9 l9 => ?_⟩
            have lw9 : Le wj w9 := ((l6.trans d2).trans l8).trans l9
            cases b7 with
            | false =>
              obtain ⟨z1, z2, z3, z4⟩ := held lw9 p1 p2 p3 p4
              exact ⟨by omega, w9, σ8, e7, accj, avj, rfl, s9, hσ8', sFj.trans lw9.fz, lej.trans lw9, z1, z2, z3, z4, Option.bind_eq_some_iff.mpr ⟨_, n6, n2⟩⟩
            | true =>
              obtain ⟨⟨r8, e8⟩, m5, m6⟩ := Option.bind_eq_some_iff.mp (show ((el e7).bind _) = some (accE, enE) from n6)
              obtain ⟨⟨d9, e9⟩, m7, m8⟩ := Option.bind_eq_some_iff.mp m6
              split at m8
              · rename_i hsz
                refine ⟨B, w9, e7, r8, e8, rfl, s9, m5, fun v w10 s10 l10 p10 => ?_⟩
                obtain ⟨w11, m1, s11, l11, dq11⟩ := frz_ok s10 m7 p10
                have lw11 : Le wj w11 := (lw9.trans l10).trans l11
                obtain ⟨z1, z2, z3, z4⟩ := held lw11 p1 p2 p3 p4
                refine ⟨avj, by rw [← m1]; exact z1, sz_lt (by rw [da_len p4]; exact hsz), by omega, ⟨w11.F, upd w11.H Dd (.lst (avj ++ [v])), w11.O⟩, σ8, e9, accj ++ [d9], avj ++ [v], by rw [← m1], grow s11 z1 z2 z3, hσ8', sFj.trans lw11.fz,
                  (lej.trans lw11).grow (by show w1.H Dd = none; exact nD), upd_same, z2, z3, da_append z4 (.cons dq11 .nil), Option.bind_eq_some_iff.mpr ⟨_, m8, n2⟩⟩
              · cases m8
          · have e0j : j = ds1.length := by omega
            subst e0j
            rw [List.drop_length] at hgj
            refine .inl ⟨ok1.stop Hj sHj, by omega, wj, τj, enj, accj, avj, hHj, stj, fun t ht => ?_, lej, p1, p2, p3, p4, hgj⟩
            rw [hτj t fun z => ht (hv1 t z), hσ3 t ht]
        · cases j6
    · have e0 : i = ds.length := by omega
      subst e0
      rw [List.drop_length] at hg
      have e1' : (acc, en) = (out, eb) := Option.some.inj hg
      cases e1'
      refine .inl ⟨ok.stop H sH, ?_⟩
      obtain ⟨m1, m2, m3⟩ := merge_stt s1 le st hτ
      rw [← hH]
      refine q (.ref Dd) ⟨w.F, w.H, ownO σ (mergeE e1 eb vs)⟩ m1 (l1.trans m2) ⟨Dd, _, rfl, h1, h2, fun z => ?_, l1.dom Dd nD, .lst h4⟩
      rcases m3 Dd z with z | z
      · exact nO1 z
      · exact h3 z
  · cases k2
end DL

set_option Elab.async false
set_option linter.all false
set_option maxRecDepth 100000
set_option maxHeartbeats 2000000
/-! DL17: comprehensions of two clauses as expressions; more methods; sorted. -/
namespace DL
open PySem PySem.Spec PyProof.Rows L2
section
variable {X : Cx} {elt tg iter tg1 iter1 : Expr} {ifs ifs1 : List Expr} {scope : Scope} {own : List (Str × Nat)} {vs1 : List Nat} {pos : Pos} {it it1 : FI} {ts ts1 : List Nat} {gt gt1 : FG} {tt tt1 : FT} {el : FE}
theorem d_comp2 (hc : X.calm = true) (hN : X.N.Nodup) (hi : PI X tg iter (tI X.K it)) (ok : BlkOk X.N X.env.scope scope own) (hts : ∀ t ∈ ts, t ∈ own.map (·.2)) (hts1 : ∀ t ∈ ts1, t ∈ vs1) (hv1 : ∀ t ∈ vs1, t ∈ own.map (·.2))
    (hg : ∀ (s : Shared) (H : Hp) (C : Addr) (cl : List (Str × Addr)) (fp : List Addr), PG (X.blk s H scope (compEnvC scope cl C X.env) fp) tg (tG X.K ts gt)) (ht : ∀ (s : Shared) (H : Hp) (C : Addr) (cl : List (Str × Addr)) (fp : List Addr), PTs (X.blk s H scope (compEnvC scope cl C X.env) fp) ifs (tT X.K tt))
    (hi1 : ∀ (s : Shared) (H : Hp) (C : Addr) (cl : List (Str × Addr)) (fp : List Addr), PI (X.blk s H scope (compEnvC scope cl C X.env) fp) tg1 iter1 (tI X.K it1))
    (hg1 : ∀ (s : Shared) (H : Hp) (C : Addr) (cl : List (Str × Addr)) (fp : List Addr), PG (X.blk s H scope (compEnvC scope cl C X.env) fp) tg1 (tG X.K ts1 gt1)) (ht1 : ∀ (s : Shared) (H : Hp) (C : Addr) (cl : List (Str × Addr)) (fp : List Addr), PTs (X.blk s H scope (compEnvC scope cl C X.env) fp) ifs1 (tT X.K tt1))
    (he : ∀ (s : Shared) (H : Hp) (C : Addr) (cl : List (Str × Addr)) (fp : List Addr), PE (X.blk s H scope (compEnvC scope cl C X.env) fp) elt (tE X.K el)) (hs : ∀ x, foldedSetIterable iter X.env x = pure x := by intro _; rfl) (hs1 : ∀ env x, foldedSetIterable iter1 env x = pure x := by intro _ _; rfl) :
    PE X (.ListComp elt [⟨tg, iter, ifs, 0⟩, ⟨tg1, iter1, ifs1, 0⟩] scope pos) (tV X.K (fComp2 (own.map (·.2)) vs1 it gt tt it1 gt1 tt1 el)) :=
  pe_imp (pe_lc2 hc hN hi ok hv1 hg ht hi1 hg1 ht1 he hs hs1) fun _ _ _ q => comp2_run hts hts1 hv1 q
theorem s_setComp2 {i : Nat} {y : Str} {py spos : Pos} (hc : X.calm = true) (hN : X.N.Nodup) (hy : X.N[i]? = some y) (hyl : X.env.scope.names.lookup y = some .local) (hsw : swapsWith (.ListComp elt [⟨tg, iter, ifs, 0⟩, ⟨tg1, iter1, ifs1, 0⟩] scope pos) (some (.Name y py)) spos.line X.env = pure true)
    (hi : PI X tg iter (tI X.K it)) (ok : BlkOk X.N X.env.scope scope own) (hts : ∀ t ∈ ts, t ∈ own.map (·.2)) (hts1 : ∀ t ∈ ts1, t ∈ vs1) (hv1 : ∀ t ∈ vs1, t ∈ own.map (·.2))
    (hg : ∀ (s : Shared) (H : Hp) (C : Addr) (cl : List (Str × Addr)) (fp : List Addr), PG (X.blk s H scope (compEnvC scope cl C X.env) fp) tg (tG X.K ts gt)) (ht : ∀ (s : Shared) (H : Hp) (C : Addr) (cl : List (Str × Addr)) (fp : List Addr), PTs (X.blk s H scope (compEnvC scope cl C X.env) fp) ifs (tT X.K tt))
    (hi1 : ∀ (s : Shared) (H : Hp) (C : Addr) (cl : List (Str × Addr)) (fp : List Addr), PI (X.blk s H scope (compEnvC scope cl C X.env) fp) tg1 iter1 (tI X.K it1))
    (hg1 : ∀ (s : Shared) (H : Hp) (C : Addr) (cl : List (Str × Addr)) (fp : List Addr), PG (X.blk s H scope (compEnvC scope cl C X.env) fp) tg1 (tG X.K ts1 gt1)) (ht1 : ∀ (s : Shared) (H : Hp) (C : Addr) (cl : List (Str × Addr)) (fp : List Addr), PTs (X.blk s H scope (compEnvC scope cl C X.env) fp) ifs1 (tT X.K tt1))
    (he : ∀ (s : Shared) (H : Hp) (C : Addr) (cl : List (Str × Addr)) (fp : List Addr), PE (X.blk s H scope (compEnvC scope cl C X.env) fp) elt (tE X.K el)) (hs : ∀ x, foldedSetIterable iter X.env x = pure x := by intro _; rfl) (hs1 : ∀ env x, foldedSetIterable iter1 env x = pure x := by intro _ _; rfl) :
    PS X (.Assign [.Name y py] (.ListComp elt [⟨tg, iter, ifs, 0⟩, ⟨tg1, iter1, ifs1, 0⟩] scope pos) spos) (tS X.K (sSet i (fComp2 (own.map (·.2)) vs1 it gt tt it1 gt1 tt1 el))) := by
  refine ps_imp (ps_setLc2 hc hN hy hyl hsw hi ok hv1 hg ht hi1 hg1 ht1 he hs hs1) fun D σ H ⟨B, w, e, fl, hH, st, hg, q⟩ => ?_
  obtain ⟨⟨r, e1⟩, k1, k2⟩ := Option.bind_eq_some_iff.mp hg
  obtain ⟨e2, k3, k4⟩ := Option.map_eq_some_iff.mp k2
  subst k4
  obtain ⟨o, k5, k6, k7⟩ := put_some k3
  subst k7
  refine comp2_run (Q := fun v H1 => D.nx (σ.set i (some v)) H1) hts hts1 hv1 ⟨B, w, e, r, e1, hH, st, k1, fun v w1 s1 l1 ok => ?_⟩
  obtain ⟨j1, j2⟩ := set_stt s1 l1 ok (fun a z => st.dom a z) k5 k6
  exact q _ ⟨w1.F, w1.H, ownO (σ.set i (some v)) (e1.set i (setR r))⟩ j1 j2
end
section
variable {X : Cx} {a x : Expr} {f : FV} {g : FE} {y : Str} {i : Nat} {p apos cpos : Pos}
/-- xs.extend(e), xs a slot's own list, e a list that nobody else holds -/
def fExtend (i : Nat) (f : FV) : FV := fun e => match e[i]? with
  | some (.own _ (.list _)) => (f e).bind fun p => match p.1 with
    | .fresh (.list k) => match p.2[i]? with
      | some (.own b (.list l)) => if l.length + k.length ≤ SZ then some (.val .none, p.2.set i (.own b (.list (l ++ k)))) else none
      | _ => none
    | _ => none
  | _ => none
theorem d_extend (hv : PE X (.Name y p) (tVar i)) (ha : PE X a (tV X.K f)) (hbase : attributeBase (.Name y p) "extend" X.env (eval (.Name y p) X.env) = eval (.Name y p) X.env := by rfl)
    (hfew : ((backTo cpos (starEach [a] X.env)).all (fun x => !x.1) && (backToKw cpos (keywordEach [] X.env)).all (fun x => x.1.isSome) && decide ([a].length + ([] : List Keyword).length + (if ([] : List Keyword).isEmpty then 0 else 1) < 30)) = true := by rfl)
    (hline : (apos.endLine == cpos.line) = true := by rfl) (hs : starEach [a] X.env = (false, eval a X.env) :: starEach [] X.env := by rfl) (hplain : (backTo cpos (starEach [] X.env)).any (·.1) = false := by rfl) :
    PE X (.Call (.Attribute (.Name y p) "extend" apos) [a] [] cpos) (tV X.K (fExtend i f)) := by
  refine pe_imp (pe_bm PySem.F.plainAttrs_list PySem.F.slot_list_extend PySem.F.type_list_extend mt_extend hv (pa_cons ha pa_nil hs) hbase hfew hline hs hplain) fun σ H Q ⟨B, w, e, r, e', hH, st, hf, q⟩ => ?_
  subst hH
  unfold fExtend at hf
  cases hs0 : e[i]? with
  | none => simp only [hs0] at hf; cases hf
  | some s =>
    simp only [hs0] at hf
    cases s <;> try cases hf
    rename_i b0 l0
    cases l0 <;> try cases hf
    rename_i l0
    obtain ⟨a0, us0, k1, k2, k3, k4, k5⟩ := own_lst st hs0
    refine ⟨.ref a0, k1, .inl ⟨rfl, us0, .inl (.inl k2)⟩, ?_⟩
    obtain ⟨⟨r1, e1⟩, j1, j2⟩ := Option.bind_eq_some_iff.mp hf
    refine ⟨B, w, e, r1, e1, rfl, st, j1, fun v w1 s1 l1 p1 => ?_⟩
    cases r1 with
    | val d => cases j2
    | fresh k =>
      cases k <;> try cases j2
      rename_i k
      obtain ⟨c, wo, rfl, m2, m3, m4, m5, m6⟩ := p1
      obtain ⟨ws, rfl, m7⟩ := ow_lst m6
      show rExtend (.ref a0) [.ref c] w1.H Q
      cases hs2 : e1[i]? with
      | none => simp only [hs2] at j2; cases j2
      | some s =>
        simp only [hs2] at j2
        cases s <;> try cases j2
        rename_i b l
        cases l <;> try cases j2
        rename_i l
        have j5 : (if l.length + k.length ≤ SZ then some (Res.val .none, e1.set i (.own b (.list (l ++ k)))) else none) = some (r, e') := j2
        split at j5
        · rename_i hz
          cases j5
          obtain ⟨a2, us, n1, n2, n3, n4, n5⟩ := own_lst s1 hs2
          rw [k1] at n1
          cases n1
          refine ⟨a0, c, us, ws, rfl, rfl, n2, m2, by rw [da_len n4, da_len m7, sizeLine_eq]; exact hz, ?_⟩
          obtain ⟨o1, o2⟩ := own_stt (ob := .lst (us ++ ws)) (l' := .list (l ++ k)) s1 hs2 k1 (.lst (da_append n4 m7))
          exact q .non ⟨w1.F, upd w1.H a0 (.lst (us ++ ws)), w1.O⟩ o1 (l1.trans o2) Dq.non
        · cases j5
end
end DL

set_option Elab.async false
set_option linter.all false
set_option maxRecDepth 100000
set_option maxHeartbeats 2000000
/-! DL18: pop at a place, sorted of ints, calls with keywords. -/
namespace DL
open PySem PySem.Spec PyProof.Rows L2
section
variable {X : Cx} {a x : Expr} {f : FE} {y : Str} {i : Nat} {p apos cpos : Pos}
/-- xs.pop(k) -/
def fPopAt (i : Nat) (f : FE) : FV := fun e => match e[i]? with
  | some (.own _ (.list _)) => (f e).bind fun p => match look p.2 p.1 with
    | some (.int k) => match p.2[i]? with
      | some (.own b (.list l)) => if l.length ≤ SZ then (ixN l.length k).bind fun j => (l[j]?).map fun d => (.val d, p.2.set i (.own b (.list (l.eraseIdx j)))) else none
      | _ => none
    | _ => none
  | _ => none
theorem da_erase {K : PySem.W.Frag} {H : Hp} : ∀ {vs : List V} {ds : List D} (j : Nat), Da K H vs ds → Da K H (vs.eraseIdx j) (ds.eraseIdx j)
  | _, _, _, .nil => .nil
  | _, _, 0, .cons h t => t
  | _, _, j + 1, .cons h t => .cons h (da_erase j t)
theorem d_popAt (hv : PE X (.Name y p) (tVar i)) (ha : PE X a (tE X.K f)) (hbase : attributeBase (.Name y p) "pop" X.env (eval (.Name y p) X.env) = eval (.Name y p) X.env := by rfl)
    (hfew : ((backTo cpos (starEach [a] X.env)).all (fun x => !x.1) && (backToKw cpos (keywordEach [] X.env)).all (fun x => x.1.isSome) && decide ([a].length + ([] : List Keyword).length + (if ([] : List Keyword).isEmpty then 0 else 1) < 30)) = true := by rfl)
    (hline : (apos.endLine == cpos.line) = true := by rfl) (hs : starEach [a] X.env = (false, eval a X.env) :: starEach [] X.env := by rfl) (hplain : (backTo cpos (starEach [] X.env)).any (·.1) = false := by rfl) :
    PE X (.Call (.Attribute (.Name y p) "pop" apos) [a] [] cpos) (tV X.K (fPopAt i f)) := by
  refine pe_imp (pe_bm PySem.F.plainAttrs_list PySem.F.slot_list_pop PySem.F.type_list_pop mt_popAt hv (pa_cons ha pa_nil hs) hbase hfew hline hs hplain) fun σ H Q ⟨B, w, e, r, e', hH, st, hf, q⟩ => ?_
  subst hH
  unfold fPopAt at hf
  cases hs0 : e[i]? with
  | none => simp only [hs0] at hf; cases hf
  | some s =>
    simp only [hs0] at hf
    cases s <;> try cases hf
    rename_i b0 l0
    cases l0 <;> try cases hf
    rename_i l0
    obtain ⟨a0, us0, k1, k2, k3, k4, k5⟩ := own_lst st hs0
    refine ⟨.ref a0, k1, .inl ⟨rfl, us0, .inl (.inl k2)⟩, ?_⟩
    obtain ⟨⟨r1, e1⟩, j1, j2⟩ := Option.bind_eq_some_iff.mp hf
    refine ⟨B, w, e, r1, e1, rfl, st, j1, fun v w1 s1 l1 p1 => ?_⟩
    cases hlk : look e1 r1 with
    | none => simp only [hlk] at j2; cases j2
    | some d0 =>
      have t := look_ok s1 hlk p1
      simp only [hlk] at j2
      cases d0 <;> try cases j2
      rename_i kk
      rw [t.int]
      show rPopAt (.ref a0) [.int kk] w1.H Q
      cases hs2 : e1[i]? with
      | none => simp only [hs2] at j2; cases j2
      | some s =>
        simp only [hs2] at j2
        cases s <;> try cases j2
        rename_i b l
        cases l <;> try cases j2
        rename_i l
        have j2 : (if l.length ≤ SZ then (ixN l.length kk).bind fun j => (l[j]?).map fun d => (Res.val d, e1.set i (.own b (.list (l.eraseIdx j)))) else none) = some (r, e') := j2
        split at j2
        case isFalse => cases j2
        rename_i hsz
        obtain ⟨j, m1, m2⟩ := Option.bind_eq_some_iff.mp j2
        obtain ⟨d, m3, m4⟩ := Option.map_eq_some_iff.mp m2
        cases m4
        obtain ⟨a2, us, n1, n2, n3, n4, n5⟩ := own_lst s1 hs2
        rw [k1] at n1
        cases n1
        obtain ⟨g1, g2, g3, g4⟩ := ixN_seq m1
        obtain ⟨u, u1, u2⟩ := da_get n4 m3
        refine ⟨a0, us, kk, j, u, rfl, rfl, n2, by simp only [SZ] at hsz; omega, by simp only [SZ] at hsz; omega, by rw [da_len n4]; exact g1, u1, ?_⟩
        obtain ⟨o1, o2⟩ := own_stt (ob := .lst (us.eraseIdx j)) (l' := .list (l.eraseIdx j)) s1 hs2 k1 (.lst (da_erase j n4))
        exact q u ⟨w1.F, upd w1.H a0 (.lst (us.eraseIdx j)), w1.O⟩ o1 (l1.trans o2) u2
end
/-! ### sorted, of ints -/
def insI (x : Int) : List Int → List Int
  | [] => [x]
  | y :: ys => if x ≤ y then x :: y :: ys else y :: insI x ys
def sortI : List Int → List Int
  | [] => []
  | x :: xs => insI x (sortI xs)
theorem insI_perm (x : Int) : ∀ ys : List Int, (insI x ys).Perm (x :: ys)
  | [] => .refl _
  | y :: ys => by
    unfold insI
    split
    · exact .refl _
    · exact ((insI_perm x ys).cons y).trans (List.Perm.swap x y ys)
theorem sortI_perm : ∀ xs : List Int, (sortI xs).Perm xs
  | [] => .refl _
  | x :: xs => (insI_perm x _).trans ((sortI_perm xs).cons x)
theorem insI_sorted (x : Int) : ∀ {ys : List Int}, ys.Pairwise (· ≤ ·) → (insI x ys).Pairwise (· ≤ ·)
  | [], _ => List.pairwise_singleton ..
  | y :: ys, h => by
    obtain ⟨h1, h2⟩ := List.pairwise_cons.mp h
    unfold insI
    split
    · rename_i c
      refine List.pairwise_cons.mpr ⟨fun z hz => ?_, h⟩
      rcases List.mem_cons.mp hz with rfl | hz
      · exact c
      · have := h1 z hz; omega
    · rename_i c
      refine List.pairwise_cons.mpr ⟨fun z hz => ?_, insI_sorted x h2⟩
      rcases List.mem_cons.mp ((insI_perm x ys).mem_iff.mp hz) with rfl | hz
      · omega
      · exact h1 z hz
theorem sortI_sorted : ∀ xs : List Int, (sortI xs).Pairwise (· ≤ ·)
  | [] => .nil
  | x :: xs => insI_sorted x (sortI_sorted xs)
theorem sortI_uniq {a b : List Int} (h : a.Perm b) (k : a.Pairwise (· ≤ ·)) : a = sortI b :=
  List.Perm.eq_of_pairwise (le := (· ≤ ·)) (fun _ _ _ _ h1 h2 => Int.le_antisymm h1 h2) k (sortI_sorted b) (h.trans (sortI_perm b).symm)
def sSorted : D → Option Res := fun d => (listOf d).bind fun l => (intsOf l).map fun ns => .fresh (.list ((sortI ns).map PyData.int))
theorem da_of_ints' (K : PySem.W.Frag) (H : Hp) : ∀ ns : List Int, Da K H (ns.map V.int) (ns.map PyData.int)
  | [] => .nil
  | n :: ns => .cons (.int n) (da_of_ints' K H ns)
theorem rc_sorted {K} : RCIs K (rSortedI K) (one sSorted) := rc_one fun {B w σ e v d res Q} st t q k => by
  obtain ⟨l, k1, k2⟩ := Option.bind_eq_some_iff.mp q
  obtain ⟨ns, k3, k4⟩ := Option.map_eq_some_iff.mp k2
  subst k4
  cases d <;> try cases k1
  obtain ⟨a, vs, e1, e2, e3⟩ := t.list st.sub
  subst e1
  have e4 := e3
  rw [intsOf_eq k3] at e4
  rw [da_ints e4] at e2 e3
  refine ⟨a, ns, rfl, la_sql e2, fun ns' p hp hs np => ?_⟩
  rw [sortI_uniq hp hs]
  exact res_lst st (da_of_ints' K _ (sortI ns)) k p np
/-! ### f(k = v, ..), the keywords in the parameters' order -/
theorem pk_imp {X : Cx} {kws : List Keyword} {t u : TA} (h : PK X kws t) (q : ∀ σ H Q, u σ H Q → t σ H Q) : PK X kws u := ⟨fun pos pins s σ H Q I hw => h.run pos pins s σ H Q I (q _ _ _ hw)⟩
section
variable {X : Cx} {a : Expr} {kws : List Keyword} {f : FE} {fs : FA} {nm : Option Str} {kpos : Pos}
theorem k_nil : PK X [] (tA X.K fNil) := by
  refine pk_imp pk_nil fun σ H Q ⟨B, w, e, rs, e', hH, st, hf, q⟩ => ?_
  cases hf
  subst hH
  exact q [] w st (Le.refl w) trivial
theorem k_cons (ha : PE X a (tE X.K f)) (hr : PK X kws (tA X.K fs)) : PK X (⟨nm, a, kpos⟩ :: kws) (tA X.K (fCons f fs)) := by
  refine pk_imp (pk_cons ha hr) fun σ H Q ⟨B, w, e, rs, e', hH, st, hf, q⟩ => ?_
  obtain ⟨⟨r1, e1⟩, k1, k2⟩ := Option.bind_eq_some_iff.mp hf
  obtain ⟨⟨r2, e2⟩, k3, k4⟩ := Option.map_eq_some_iff.mp k2
  cases k4
  refine ⟨B, w, e, r1, e1, hH, st, k1, fun v1 w1 s1 l1 p1 => ?_⟩
  exact ⟨B, w1, e1, r2, e2, rfl, s1, k3, fun v2 w2 s2 l2 p2 => q (v1 :: v2) w2 s2 (l1.trans l2) ⟨p1.later l2, p2⟩⟩
end
theorem kb_all {K : PySem.W.Frag} {x qual : Str} {params : Arguments} {body : List Stmt} {scope : Scope} {kws : List (Str × V)} {f : Addr} {fd : FuncData} {ps ks : List Str} (F : FunD K x qual params body scope [] kws f fd)
    (h : ∀ (kV doc pm : Value) (an : Option Addr) (cdv ct : Value) (ws : List Value), ws.length = ks.length → bindArgs (PySem.W.fnOf x qual params body scope .none kV doc pm an cdv ct) ⟨[], ks.zip ws⟩ = pure (ps.zip ws)) :
    KBn K fd ps 0 ks (fun us ws => us ++ ws) (fun vs zs => vs ++ zs) := by
  obtain ⟨oc, od, dV, kV, doc, pm, an, cdv, ct, osl, rfl, lk, hcd, hD, hK⟩ := F.ex
  rcases hD with ⟨_, rfl⟩ | ⟨e, _⟩
  · refine ⟨fun s us ws X l1 l2 => ?_, fun r1 r2 => r1.append r2⟩
    have e : us = [] := List.length_eq_zero_iff.mp l1
    subst e
    exact .of_eq (h kV doc pm an cdv ct ws l2)
  · exact absurd rfl e
theorem d_callKw {X : Cx} {k n : Nat} {f : Addr} {fd : FuncData} {ps ks : List Str} {m : Fn} {x : Str} {p pos : Pos} {kws : List Keyword} {fs : FA} (F : FnOk X.prog X.w X.K X.mg X.base CX0 k f fd ps (spD X.K n m)) (hr : Room k X.A) (hg : Gl X x) (hm : X.mg x = some (.ref f)) (hk : PySem.W.keepIn X.K (.ref f) = true)
    (hb : KBn X.K fd ps 0 ks (fun us ws => us ++ ws) (fun vs zs => vs ++ zs)) (hn0 : n = ks.length) (ha : PK X kws (tA X.K fs)) (hn : ∀ e rs e', fs e = some (rs, e') → rs.length = n) (hall : (backToKw pos (keywordEach kws X.env)).all (·.1.isSome) = true := by rfl) (hks : (backToKw pos (keywordEach kws X.env)).filterMap (·.1) = ks := by rfl)
    (hdb : (x == ("__debug__" : Str)) = false := by decide) (hpl : ((backTo pos (starEach [] X.env)).any (·.1) || (backToKw pos (keywordEach kws X.env)).any (·.1.isNone)) = false := by rfl) :
    PE X (.Call (.Name x p) [] kws pos) (tV X.K (fCall m fs)) := by
  refine ⟨fun pins s σ H Q I h => ?_⟩
  have h' : tA X.K fs σ H fun vs H1 => spD X.K n m (vs ++ []) H1 Q E0 := call_run (E := E0) hn h
  refine wpAny_Call_Name_kw (ld_glob I hg hm ?_ hdb)
  refine PySem.W.callWith_KW0 (h₀ := X.base) I.ok.mod.kin hk hall (thn (ha.run pos pins s σ H _ I h') fun ws s2 ⟨zs, H2, I2, rz, q2⟩ => ⟨I2.kIn, ?_⟩) hpl
  rw [hks]
  have q2 : spD X.K n m (zs ++ []) H2 Q E0 := q2
  rw [List.append_nil] at q2
  have hl : zs.length = n := by
    obtain ⟨w, as, r, outs, _, h2, _⟩ := q2
    exact h2
  exact run_fnN (us := []) (vs := []) F hr hb pass0 I2 .nil rz rfl (hl.trans hn0) q2
end DL

set_option Elab.async false
set_option linter.all false
set_option maxRecDepth 100000
set_option maxHeartbeats 2000000
/-! DL19: sorted of any data that can be compared. -/
namespace DL
open PySem PySem.Spec PyProof.Rows L2
def rSortedD (K : PySem.W.Frag) : List V → Hp → VK → Prop := fun vs H Q => ∃ (F : Hp) (a : Addr) (xs : List V) (ds : List D), Same F H ∧ vs = [V.ref a] ∧ SqL K H a xs ∧ Da K F xs ds ∧ PySem.W.AllAlike ds ∧ (2 ≤ ds.length → PySem.W.Sortable ds) ∧ (∀ d ∈ ds, d.depth ≤ 60) ∧
  ∀ (ys : List V) (p : Addr), Da K F ys (ds.mergeSort (PySem.W.dataLe false id)) → H p = none → Q (.ref p) (upd H p (.lst ys))
theorem each_of {K : PySem.W.Frag} {H : Hp} : ∀ {xs : List V} {us : List Value} {ds : List D}, Vals xs us → Da K H xs ds → PySem.W.EachIs (fun u d => ∃ x, RelV x u ∧ Dq K H x d) us ds
  | _, _, _, .nil, .nil => .nil
  | _, _, _, .cons h t, .cons k l => .cons ⟨_, h, k⟩ (each_of t l)
theorem of_each {K : PySem.W.Frag} {H : Hp} : ∀ {us : List Value} {ds : List D}, PySem.W.EachIs (fun u d => ∃ x, RelV x u ∧ Dq K H x d) us ds → ∃ xs, Vals xs us ∧ Da K H xs ds
  | _, _, .nil => ⟨[], .nil, .nil⟩
  | _, _, .cons ⟨x, h, k⟩ t => by
    obtain ⟨xs, h2, k2⟩ := of_each t
    exact ⟨x :: xs, .cons h h2, .cons k k2⟩
mutual
theorem noD_alike : ∀ {d : D}, PySem.W.alike d d = true → noD d = true
  | .none, _ => rfl
  | .bool _, _ => rfl
  | .int _, _ => rfl
  | .str _, _ => rfl
  | .list l, h => noDs_alike (l := l) (by simpa [PySem.W.alike] using h)
  | .tuple l, h => noDs_alike (l := l) (by simpa [PySem.W.alike] using h)
  | .dict _, h => by simp [PySem.W.alike] at h
theorem noDs_alike : ∀ {l : List D}, PySem.W.alikeAll l l = true → noDs l = true
  | [], _ => rfl
  | d :: ds, h => by
    obtain ⟨h1, h2⟩ := PySem.W.alike_all_cons h
    show (noD d && noDs ds) = true
    rw [noD_alike h1, noDs_alike h2]
    rfl
end
theorem cr_sortedD {X : Cx} (hu : X.A.units + 64 < cLine) : CallR X (.builtin "sorted") (rSortedD X.K) := by
  intro pins s σ H vs us Q I r h
  obtain ⟨F, a, xs, ds, sm, rfl, hs, hd, hal, hk, hdp, q⟩ := h
  obtain ⟨its, rv, hl, hz⟩ := I.list hs
  rw [Vals.ref1 r]
  have hlen : xs.length = ds.length := da_len hd
  have e := each_of rv hd
  have er : PySem.W.EachIs (fun v d => ∃ as, Reads s.heap v (id d) as) its ds := (PySem.W.each_mem e).mono fun u d ⟨⟨x, h1, h2⟩, hm⟩ => Dp.reads I d x u (dq_dp (noD_alike (hal d hm d hm)) (dq_same sm h2)) h1
  have fin : ∀ out : List Value, PySem.W.EachIs (fun u d => ∃ x, RelV x u ∧ Dq X.K F x d) out (ds.mergeSort (PySem.W.dataLe false id)) → EP X pins σ Q (.ref (s.heap.objs.size + 1)) { s with heap := sortedAll s.heap its out.toArray } := by
    intro out ho
    obtain ⟨ys, h1, h2⟩ := of_each ho
    obtain ⟨ep, he'⟩ := PyProof.Rows.sortedAll_at s.heap its out.toArray
    have hl2 : ys.length ≤ sizeLine := by
      rw [da_len h2, List.length_mergeSort, ← hlen]
      exact hz
    exact ⟨.ref _, upd H (s.heap.objs.size + 1) (.lst ys), I.laid (t' := s.toks) (fun _ _ => PyProof.Rows.sortedAll_old) (Nat.le_succ _) ⟨hl2, out, ep, h1, he'⟩, rfl, q ys _ h2 (I.hok.fresh (Nat.le_succ _))⟩
  by_cases c : 2 ≤ ds.length
  · refine PySem.W.sorted_data (enc := id) hl.isList e er (by rw [List.map_id]; exact hal) (by rw [List.map_id]; exact hk c) (by rw [← hlen]; exact hz) (fun b hb => ?_) fun out _ ho => fin out ho
    have := hdp b hb
    show X.A.units + 2 + b.depth < cLine
    omega
  · refine Srt.sorted_any hl.isList (by rw [← rv.length]; exact hz) (fun h2 => absurd h2 (by rw [← rv.length, hlen]; exact c)) fun out ho => fin out ?_
    have hi : its.length = ds.length := rv.length.symm.trans hlen
    have e1 : out = its := by
      match its, ds, hi, c with
      | [], _, _, _ => exact List.perm_nil.mp ho
      | [x], _, _, _ => exact List.perm_singleton.mp ho
      | x :: y :: r, d :: d2 :: l, _, c => exact absurd (by simp) c
    have e2 : ds.mergeSort (PySem.W.dataLe false id) = ds := by
      match ds, c with
      | [], _ => simp
      | [d], _ => simp
      | d :: d2 :: l, c => exact absurd (by simp) c
    rw [e1, e2]
    exact e
/-- what can be sorted -/
def sortOk (l : List D) : Bool := (l.all fun a => l.all fun b => PySem.W.alike a b) && (l.all fun d => decide (d.depth ≤ 60)) &&
  (decide (l.length < 2) || (l.all fun d => match d with | .tuple (_ :: _) => true | _ => false) || (l.all fun d => match d with | .none => false | .tuple _ => false | _ => true))
def sSortD : D → Option Res := fun d => (listOf d).bind fun l => if sortOk l = true then some (.fresh (.list (l.mergeSort (PySem.W.dataLe false id)))) else none
theorem sortOk_of {l : List D} (h : sortOk l = true) : PySem.W.AllAlike l ∧ (∀ d ∈ l, d.depth ≤ 60) ∧ (2 ≤ l.length → PySem.W.Sortable l) := by
  unfold sortOk at h
  rw [Bool.and_eq_true, Bool.and_eq_true, Bool.or_eq_true, Bool.or_eq_true] at h
  obtain ⟨⟨h1, h2⟩, h3⟩ := h
  refine ⟨fun d hd d' hd' => List.all_eq_true.mp (List.all_eq_true.mp h1 d hd) d' hd', fun d hd => of_decide_eq_true (List.all_eq_true.mp h2 d hd), fun c => ?_⟩
  rcases h3 with (h3 | h3) | h3
  · exact absurd (of_decide_eq_true h3) (by omega)
  · refine .inl fun d hd => ?_
    have z := List.all_eq_true.mp h3 d hd
    split at z
    · exact ⟨_, _, rfl⟩
    · cases z
  · refine .inr fun d hd => ?_
    have z := List.all_eq_true.mp h3 d hd
    split at z
    · cases z
    · cases z
    · rename_i n1 n2
      exact ⟨n1, n2⟩
theorem rc_sortD {K} : RCIs K (rSortedD K) (one sSortD) := rc_one fun {B w σ e v d res Q} st t q k => by
  obtain ⟨l, k1, k2⟩ := Option.bind_eq_some_iff.mp q
  split at k2
  · rename_i hok
    cases k2
    cases d <;> try cases k1
    obtain ⟨a, vs, e1, e2, e3⟩ := t.list st.sub
    subst e1
    obtain ⟨h1, h2, h3⟩ := sortOk_of hok
    exact ⟨w.F, a, vs, l, st.sub, rfl, la_sql e2, e3, h1, h3, h2, fun ys p hy np => res_lst st hy k p np⟩
  · cases k2
end DL

set_option Elab.async false
set_option linter.all false
set_option maxRecDepth 100000
set_option maxHeartbeats 2000000
/-! DL20: dicts that a slot owns: keys tuples of ints and texts, or ints and texts. -/
namespace DL
open PySem PySem.Spec PyProof.Rows L2
/-! ### keys -/
def keyEq1 : D → D → Bool
  | .int i, .int j => i == j
  | .str x, .str y => x == y
  | _, _ => false
def keyEqs : List D → List D → Bool
  | [], [] => true
  | x :: xs, y :: ys => keyEq1 x y && keyEqs xs ys
  | _, _ => false
def keyEq : D → D → Bool
  | .tuple a, .tuple b => keyEqs a b
  | a, b => keyEq1 a b
def isK : D → Bool
  | .int _ => true
  | .str _ => true
  | _ => false
def isT : D → Bool
  | .tuple l => l.all isK
  | _ => false
theorem keyEq1_iff (k k' : L2.Key) : keyEq1 (keyD k) (keyD k') = decide (k = k') := by
  cases k <;> cases k' <;> simp [keyD, keyEq1]
  · rename_i a b; by_cases h : a = b <;> simp [h]
  · rename_i a b; by_cases h : a = b <;> simp [h]
theorem keyEqs_iff : ∀ ks ks' : List L2.Key, keyEqs (ks.map keyD) (ks'.map keyD) = decide (ks = ks')
  | [], [] => by simp [keyEqs]
  | [], _ :: _ => by simp [keyEqs]
  | _ :: _, [] => by simp [keyEqs]
  | k :: ks, k' :: ks' => by
    show (keyEq1 (keyD k) (keyD k') && keyEqs (ks.map keyD) (ks'.map keyD)) = _
    rw [keyEq1_iff, keyEqs_iff ks ks']
    by_cases h1 : k = k' <;> by_cases h2 : ks = ks' <;> simp [h1, h2]
theorem isK_key {d : D} (h : isK d = true) : ∃ k : L2.Key, d = keyD k := by
  cases d <;> try cases h
  · exact ⟨.inl _, rfl⟩
  · exact ⟨.inr _, rfl⟩
theorem isT_key : ∀ {l : List D}, l.all isK = true → ∃ ks : List L2.Key, l = ks.map keyD
  | [], _ => ⟨[], rfl⟩
  | d :: l, h => by
    rw [List.all_cons, Bool.and_eq_true] at h
    obtain ⟨k, e1⟩ := isK_key h.1
    obtain ⟨ks, e2⟩ := isT_key h.2
    exact ⟨k :: ks, by rw [e1, e2]; rfl⟩
theorem dq_key {K : PySem.W.Frag} {H : Hp} {v : V} {k : L2.Key} (h : Dq K H v (keyD k)) : v = kV k := by
  cases k <;> (cases h; rfl)
theorem da_keys {K : PySem.W.Frag} {H : Hp} : ∀ {ks : List L2.Key} {vs : List V}, Da K H vs (ks.map keyD) → vs = ks.map kV
  | [], vs, h => by cases h; rfl
  | k :: ks, vs, h => by
    obtain ⟨v, r, rfl, a, b⟩ := da_cons_inv (show Da K H vs (keyD k :: ks.map keyD) from h)
    rw [dq_key a, da_keys b]
    rfl
/-! ### what a dict holds -/
def valE (es : List (D × D)) (k : D) : Option D := (es.find? fun e => keyEq e.1 k).map (·.2)
def putE (es : List (D × D)) (k v : D) : List (D × D) := if (es.any fun e => keyEq e.1 k) = true then es.map (fun e => if keyEq e.1 k = true then (e.1, v) else e) else es ++ [(k, v)]
section
variable {K : PySem.W.Frag} {F : Hp}
theorem keyEqT (k k' : List L2.Key) : keyEq (.tuple (k.map keyD)) (.tuple (k'.map keyD)) = decide (k = k') := keyEqs_iff k k'
theorem keyEqK (k k' : L2.Key) : keyEq (keyD k) (keyD k') = decide (k = k') := by
  rw [← keyEq1_iff]
  cases k <;> cases k' <;> rfl
theorem valT : ∀ {ks : List (List L2.Key × V)} {es : List (D × D)} (k : List L2.Key), Dk K F ks es →
    (valV ks k = none ∧ valE es (.tuple (k.map keyD)) = none) ∨ ∃ v d, valV ks k = some v ∧ valE es (.tuple (k.map keyD)) = some d ∧ Dq K F v d
  | _, _, k, .nil => .inl ⟨rfl, rfl⟩
  | _, _, k, .cons (k := k0) (v := v) (d := d) (ks := ks) (es := es) h t => by
    by_cases c : k0 = k
    · refine .inr ⟨v, d, valV_pos c, ?_, h⟩
      unfold valE
      rw [List.find?_cons_of_pos (by rw [keyEqT]; exact decide_eq_true c)]
      rfl
    · have e : valE ((.tuple (k0.map keyD), d) :: es) (.tuple (k.map keyD)) = valE es (.tuple (k.map keyD)) := by
        unfold valE
        rw [List.find?_cons_of_neg (by rw [keyEqT]; simpa using c)]
      rw [valV_neg c, e]
      exact valT k t
theorem valJ : ∀ {ks : List (L2.Key × V)} {es : List (D × D)} (k : L2.Key), Dj K F ks es →
    (valV ks k = none ∧ valE es (keyD k) = none) ∨ ∃ v d, valV ks k = some v ∧ valE es (keyD k) = some d ∧ Dq K F v d
  | _, _, k, .nil => .inl ⟨rfl, rfl⟩
  | _, _, k, .cons (k := k0) (v := v) (d := d) (ks := ks) (es := es) h t => by
    by_cases c : k0 = k
    · refine .inr ⟨v, d, valV_pos c, ?_, h⟩
      unfold valE
      rw [List.find?_cons_of_pos (by rw [keyEqK]; exact decide_eq_true c)]
      rfl
    · have e : valE ((keyD k0, d) :: es) (keyD k) = valE es (keyD k) := by
        unfold valE
        rw [List.find?_cons_of_neg (by rw [keyEqK]; simpa using c)]
      rw [valV_neg c, e]
      exact valJ k t
theorem anyT (k : List L2.Key) : ∀ {ks : List (List L2.Key × V)} {es : List (D × D)}, Dk K F ks es → (ks.any fun kv => decide (kv.1 = k)) = es.any fun e => keyEq e.1 (.tuple (k.map keyD))
  | _, _, .nil => rfl
  | _, _, .cons h t => by rw [List.any_cons, List.any_cons, anyT k t, keyEqT]
theorem mapT (k : List L2.Key) {v : V} {d : D} (hv : Dq K F v d) : ∀ {ks : List (List L2.Key × V)} {es : List (D × D)}, Dk K F ks es →
    Dk K F (ks.map fun kv => if kv.1 = k then (kv.1, v) else kv) (es.map fun e => if keyEq e.1 (.tuple (k.map keyD)) = true then (e.1, d) else e)
  | _, _, .nil => .nil
  | _, _, .cons (k := k0) (v := v0) (d := d0) h t => by
    rw [List.map_cons, List.map_cons]
    dsimp only
    rw [keyEqT]
    by_cases c : k0 = k
    · rw [if_pos c, if_pos (decide_eq_true c)]
      exact .cons hv (mapT k hv t)
    · rw [if_neg c, if_neg (by simpa using c)]
      exact .cons h (mapT k hv t)
theorem snocT (k : List L2.Key) {v : V} {d : D} (hv : Dq K F v d) : ∀ {ks : List (List L2.Key × V)} {es : List (D × D)}, Dk K F ks es → Dk K F (ks ++ [(k, v)]) (es ++ [(.tuple (k.map keyD), d)])
  | _, _, .nil => .cons hv .nil
  | _, _, .cons h t => .cons h (snocT k hv t)
theorem putT (k : List L2.Key) {v : V} {d : D} (hv : Dq K F v d) {ks : List (List L2.Key × V)} {es : List (D × D)} (h : Dk K F ks es) : Dk K F (putK ks k v) (putE es (.tuple (k.map keyD)) d) := by
  unfold putK putE
  rw [anyT k h]
  split
  · exact mapT k hv h
  · exact snocT k hv h
theorem dk_len : ∀ {ks : List (List L2.Key × V)} {es : List (D × D)}, Dk K F ks es → ks.length = es.length
  | _, _, .nil => rfl
  | _, _, .cons h t => by rw [List.length_cons, List.length_cons, dk_len t]
end
end DL

set_option Elab.async false
set_option linter.all false
set_option maxRecDepth 100000
set_option maxHeartbeats 2000000
/-! DL21: {} , d.get(k, x), d[k] = x of a slot's own dict (keys tuples). -/
namespace DL
open PySem PySem.Spec PyProof.Rows L2
section
variable {K : PySem.W.Frag} {B : Bd} {w w' : Wd} {σ : L2.St} {e : En}
theorem res_own (st : Stt K B w σ e) {ob : HO} {c : D} (h : OwD K w.F ob c) {Q : VK} (q : ∀ v w', Stt K B w' σ e → Le w w' → ResOK K w.H w' v (.fresh c) → Q v w'.H) (p : Addr) (np : w.H p = none) : Q (.ref p) (upd w.H p ob) := by
  obtain ⟨k1, k2⟩ := st.addL (o := ob) np
  exact q _ (w.addL p ob) k2 k1 ⟨p, _, rfl, upd_same, st.nF np, st.nO np, np, h⟩
theorem own_dT (st : Stt K B w σ e) {i : Nat} {b : Bool} {es : List (D × D)} (hi : e[i]? = some (Slot.own b (tD es))) : ∃ a ks, σ[i]? = some (some (.ref a)) ∧ w.H a = some (.dT ks) ∧ Dk K w.F ks es := by
  obtain ⟨a, o, h1, h2, h3, h4, h5⟩ := st.own_at hi
  cases h4 with
  | dctT h => exact ⟨a, _, h1, h2, h⟩
theorem own_dK (st : Stt K B w σ e) {i : Nat} {b : Bool} {es : List (D × D)} (hi : e[i]? = some (Slot.own b (kD es))) : ∃ a ks, σ[i]? = some (some (.ref a)) ∧ w.H a = some (.dK ks) ∧ Dj K w.F ks es := by
  obtain ⟨a, o, h1, h2, h3, h4, h5⟩ := st.own_at hi
  cases h4 with
  | dctK h => exact ⟨a, _, h1, h2, h⟩
/-- a key's object -/
theorem key_at {v : V} {l : List D} (s : Same w.F w.H) (h : DpT K w v (.tuple l)) (t : l.all isK = true) : ∃ (b : Addr) (k : List L2.Key), v = .ref b ∧ w.H b = some (.tup (k.map kV)) ∧ l = k.map keyD := by
  obtain ⟨k, rfl⟩ := isT_key t
  rcases h with h | ⟨_, _, _, _, z⟩
  · cases h with
    | tup h1 h2 =>
      rw [da_keys h2] at h1
      exact ⟨_, k, rfl, s _ _ h1, rfl⟩
  · cases z
end
section
variable {X : Cx} {pos : Pos}
def fNewT : FV := fun e => some (.fresh (tD []), e)
theorem d_newT : PE X (.Dict [] [] pos) (tV X.K fNewT) := by
  refine pe_imp pe_dnewT fun σ H Q ⟨B, w, e, r, e', hH, st, hf, q⟩ => ?_
  cases hf
  subst hH
  exact fun p np => res_own st (.dctT .nil) q p np
def fNewK : FV := fun e => some (.fresh (kD []), e)
theorem d_newK : PE X (.Dict [] [] pos) (tV X.K fNewK) := by
  refine pe_imp pe_dnewK fun σ H Q ⟨B, w, e, r, e', hH, st, hf, q⟩ => ?_
  cases hf
  subst hH
  exact fun p np => res_own st (.dctK .nil) q p np
end
section
variable {X : Cx} {a x : Expr} {f g : FE} {fv : FV} {y : Str} {i : Nat} {p apos cpos spos tpos : Pos}
/-- d[k] = v -/
def sPutT (i : Nat) (f : FE) (fv : FV) : FS := fun e => (fv e).bind fun p => match p.1 with
  | .val d => match p.2[i]? with
    | some (.own _ _) => (f p.2).bind fun q => match look q.2 q.1 with
      | some (.tuple l) => match q.2[i]? with
        | some (.own b (.dict ((.none, .none) :: es))) => if l.all isK = true ∧ es.length < SZ then some (.next (q.2.set i (.own b (tD (putE es (.tuple l) d))))) else none
        | _ => none
      | _ => none
    | _ => none
  | _ => none
theorem s_putT (hu : X.A.units + 1 < cLine) (hv : PE X (.Name y p) (tVar i)) (hi : PE X a (tE X.K f)) (he : PE X x (tV X.K fv)) (hs : swapsWith x (some (.Subscript (.Name y p) a tpos)) spos.line X.env = pure false := by rfl) :
    PS X (.Assign [.Subscript (.Name y p) a tpos] x spos) (tS X.K (sPutT i f fv)) := by
  refine ps_imp (ps_dput hu hv hi he hs) fun D σ H ⟨B, w, e, fl, hH, st, hf, q⟩ => ?_
  obtain ⟨⟨r, e1⟩, k1, k2⟩ := Option.bind_eq_some_iff.mp hf
  refine ⟨B, w, e, r, e1, hH, st, k1, fun v w1 s1 l1 ok => ?_⟩
  cases r with
  | fresh l => cases k2
  | val d =>
    simp only at k2
    cases hs0 : e1[i]? with
    | none => simp only [hs0] at k2; cases k2
    | some s =>
      simp only [hs0] at k2
      cases s <;> try cases k2
      rename_i b0 l0
      obtain ⟨a0, o0, z1, z2, z3, z4, z5⟩ := s1.own_at hs0
      refine ⟨.ref a0, z1, ?_⟩
      obtain ⟨⟨r2, e2⟩, j1, j2⟩ := Option.bind_eq_some_iff.mp k2
      refine ⟨B, w1, e1, r2, e2, rfl, s1, j1, fun vi w2 s2 l2 p2 => ?_⟩
      cases hl : look e2 r2 with
      | none => simp only [hl] at j2; cases j2
      | some di =>
        simp only [hl] at j2
        cases di <;> try cases j2
        rename_i l
        have ti := look_ok s2 hl p2
        cases hs2 : e2[i]? with
        | none => simp only [hs2] at j2; cases j2
        | some s =>
          simp only [hs2] at j2
          split at j2
          · rename_i b es heq
            cases heq
            split at j2
            · rename_i hc
              cases j2
              obtain ⟨a2, ks, n1, n2, n3⟩ := own_dT s2 hs2
              rw [z1] at n1
              cases n1
              obtain ⟨bk, k, e3, e4, e5⟩ := key_at s2.sub ti hc.1
              subst e3
              have ok' : Dq X.K w2.F v d := dq_same l2.fz ok
              have hz : ks.length < sizeLine := by rw [dk_len n3]; exact sz_lt hc.2
              refine ⟨a0, _, rfl, DPut.t n2 e4 hz, ?_⟩
              obtain ⟨o1, o2⟩ := own_stt (ob := .dT (putK ks k v)) (l' := tD (putE es (.tuple (k.map keyD)) d)) s2 hs2 z1 (.dctT (putT k ok' n3))
              rw [e5] at q
              exact q σ ⟨w2.F, upd w2.H a0 (.dT (putK ks k v)), w2.O⟩ o1 ((l1.trans l2).trans o2)
            · cases j2
          · cases j2
/-- d.get(k, x) -/
def fGetT (i : Nat) (f g : FE) : FV := fun e => match e[i]? with
  | some (.own _ (.dict ((.none, .none) :: _))) => (f e).bind fun p => (g p.2).bind fun q => match look q.2 p.1 with
    | some (.tuple l) => (frz q.2 q.1).bind fun z => match z.2[i]? with
      | some (.own b (.dict ((.none, .none) :: es))) => if l.all isK = true then some (.val ((valE es (.tuple l)).getD z.1), z.2) else none
      | _ => none
    | _ => none
  | _ => none
theorem d_getT (hu : X.A.units + 1 < cLine) (hv : PE X (.Name y p) (tVar i)) (hk : PE X a (tE X.K f)) (hx : PE X x (tE X.K g)) (m : M2 X (.Name y p) "get" apos a x cpos) :
    PE X (.Call (.Attribute (.Name y p) "get" apos) [a, x] [] cpos) (tV X.K (fGetT i f g)) := by
  refine pe_imp (pe_dget2 hu hv hk hx m) fun σ H Q ⟨B, w, e, r, e', hH, st, hf, q⟩ => ?_
  subst hH
  unfold fGetT at hf
  split at hf
  · rename_i b0 es0 hs0
    obtain ⟨a0, ks0, k1, k2, k3⟩ := own_dT st hs0
    refine ⟨.ref a0, k1, a0, rfl, .inr ⟨_, .inl k2⟩, ?_⟩
    obtain ⟨⟨r1, e1⟩, j1, j2⟩ := Option.bind_eq_some_iff.mp hf
    refine ⟨B, w, e, r1, e1, rfl, st, j1, fun v1 w1 s1 l1 p1 => ?_⟩
    obtain ⟨⟨r2, e2⟩, j3, j4⟩ := Option.bind_eq_some_iff.mp j2
    refine ⟨B, w1, e1, r2, e2, rfl, s1, j3, fun v2 w2 s2 l2 p2 => ?_⟩
    simp only at j4
    split at j4
    · rename_i l hl
      have ti := look_ok s2 hl (p1.later l2)
      obtain ⟨⟨d, e3⟩, m1, m2⟩ := Option.bind_eq_some_iff.mp j4
      obtain ⟨w3, n1, s3, l3, dq⟩ := frz_ok s2 m1 p2
      simp only at m2
      split at m2
      · rename_i b es hs3
        split at m2
        · rename_i hc
          cases m2
          obtain ⟨a2, ks, o1, o2, o3⟩ := own_dT s3 hs3
          rw [k1] at o1
          cases o1
          obtain ⟨bk, k, e4, e5, e6⟩ := key_at s2.sub ti hc
          subst e4
          rw [n1] at o2
          refine ⟨_, DGet.t o2 e5, ?_⟩
          have fin := q ((valV ks k).getD v2) w3 s3 ((l1.trans l2).trans l3)
          rw [n1] at fin
          refine fin ?_
          show Dq X.K w3.F _ ((valE es (.tuple l)).getD d)
          rw [e6]
          rcases valT k o3 with ⟨u1, u2⟩ | ⟨v3, d3, u1, u2, u3⟩
          · rw [u1, u2]; exact dq
          · rw [u1, u2]; exact u3
        · cases m2
      · cases m2
    · cases j4
  · cases hf
end
end DL

set_option Elab.async false
set_option linter.all false
set_option maxRecDepth 100000
set_option maxHeartbeats 2000000
/-! DL22: the same for keys that are ints and texts. -/
namespace DL
open PySem PySem.Spec PyProof.Rows L2
section
variable {K : PySem.W.Frag} {F : Hp} {w : Wd}
theorem anyJ (k : L2.Key) : ∀ {ks : List (L2.Key × V)} {es : List (D × D)}, Dj K F ks es → (ks.any fun kv => decide (kv.1 = k)) = es.any fun e => keyEq e.1 (keyD k)
  | _, _, .nil => rfl
  | _, _, .cons h t => by rw [List.any_cons, List.any_cons, anyJ k t, keyEqK]
theorem mapJ (k : L2.Key) {v : V} {d : D} (hv : Dq K F v d) : ∀ {ks : List (L2.Key × V)} {es : List (D × D)}, Dj K F ks es →
    Dj K F (ks.map fun kv => if kv.1 = k then (kv.1, v) else kv) (es.map fun e => if keyEq e.1 (keyD k) = true then (e.1, d) else e)
  | _, _, .nil => .nil
  | _, _, .cons (k := k0) (v := v0) (d := d0) h t => by
    rw [List.map_cons, List.map_cons]
    dsimp only
    rw [keyEqK]
    by_cases c : k0 = k
    · rw [if_pos c, if_pos (decide_eq_true c)]
      exact .cons hv (mapJ k hv t)
    · rw [if_neg c, if_neg (by simpa using c)]
      exact .cons h (mapJ k hv t)
theorem snocJ (k : L2.Key) {v : V} {d : D} (hv : Dq K F v d) : ∀ {ks : List (L2.Key × V)} {es : List (D × D)}, Dj K F ks es → Dj K F (ks ++ [(k, v)]) (es ++ [(keyD k, d)])
  | _, _, .nil => .cons hv .nil
  | _, _, .cons h t => .cons h (snocJ k hv t)
theorem putJ (k : L2.Key) {v : V} {d : D} (hv : Dq K F v d) {ks : List (L2.Key × V)} {es : List (D × D)} (h : Dj K F ks es) : Dj K F (putK ks k v) (putE es (keyD k) d) := by
  unfold putK putE
  rw [anyJ k h]
  split
  · exact mapJ k hv h
  · exact snocJ k hv h
theorem dj_len : ∀ {ks : List (L2.Key × V)} {es : List (D × D)}, Dj K F ks es → ks.length = es.length
  | _, _, .nil => rfl
  | _, _, .cons h t => by rw [List.length_cons, List.length_cons, dj_len t]
theorem key_atK {v : V} {d : D} (h : DpT K w v d) (t : isK d = true) : ∃ k : L2.Key, v = kV k ∧ d = keyD k := by
  obtain ⟨k, rfl⟩ := isK_key t
  cases k with
  | inl i => exact ⟨.inl i, h.int, rfl⟩
  | inr x => exact ⟨.inr x, h.str, rfl⟩
end
section
variable {X : Cx} {a x : Expr} {f g : FE} {fv : FV} {y : Str} {i : Nat} {p apos cpos spos tpos : Pos}
/-- d[k] = v -/
def sPutK (i : Nat) (f : FE) (fv : FV) : FS := fun e => (fv e).bind fun p => match p.1 with
  | .val d => match p.2[i]? with
    | some (.own _ _) => (f p.2).bind fun q => match look q.2 q.1 with
      | some kd => match q.2[i]? with
        | some (.own b (.dict ((.bool true, .none) :: es))) => if isK kd = true ∧ es.length < SZ then some (.next (q.2.set i (.own b (kD (putE es kd d))))) else none
        | _ => none
      | _ => none
    | _ => none
  | _ => none
theorem s_putK (hu : X.A.units + 1 < cLine) (hv : PE X (.Name y p) (tVar i)) (hi : PE X a (tE X.K f)) (he : PE X x (tV X.K fv)) (hs : swapsWith x (some (.Subscript (.Name y p) a tpos)) spos.line X.env = pure false := by rfl) :
    PS X (.Assign [.Subscript (.Name y p) a tpos] x spos) (tS X.K (sPutK i f fv)) := by
  refine ps_imp (ps_dput hu hv hi he hs) fun D σ H ⟨B, w, e, fl, hH, st, hf, q⟩ => ?_
  obtain ⟨⟨r, e1⟩, k1, k2⟩ := Option.bind_eq_some_iff.mp hf
  refine ⟨B, w, e, r, e1, hH, st, k1, fun v w1 s1 l1 ok => ?_⟩
  cases r with
  | fresh l => cases k2
  | val d =>
    simp only at k2
    cases hs0 : e1[i]? with
    | none => simp only [hs0] at k2; cases k2
    | some s =>
      simp only [hs0] at k2
      cases s <;> try cases k2
      rename_i b0 l0
      obtain ⟨a0, o0, z1, z2, z3, z4, z5⟩ := s1.own_at hs0
      refine ⟨.ref a0, z1, ?_⟩
      obtain ⟨⟨r2, e2⟩, j1, j2⟩ := Option.bind_eq_some_iff.mp k2
      refine ⟨B, w1, e1, r2, e2, rfl, s1, j1, fun vi w2 s2 l2 p2 => ?_⟩
      cases hl : look e2 r2 with
      | none => simp only [hl] at j2; cases j2
      | some di =>
        simp only [hl] at j2
        have ti := look_ok s2 hl p2
        cases hs2 : e2[i]? with
        | none => simp only [hs2] at j2; cases j2
        | some s =>
          simp only [hs2] at j2
          split at j2
          · rename_i b es heq
            cases heq
            split at j2
            · rename_i hc
              cases j2
              obtain ⟨a2, ks, n1, n2, n3⟩ := own_dK s2 hs2
              rw [z1] at n1
              cases n1
              obtain ⟨k, e3, e5⟩ := key_atK ti hc.1
              subst e3 e5
              have ok' : Dq X.K w2.F v d := dq_same l2.fz ok
              have hz : ks.length < sizeLine := by rw [dj_len n3]; exact sz_lt hc.2
              refine ⟨a0, _, rfl, DPut.k n2 hz, ?_⟩
              obtain ⟨o1, o2⟩ := own_stt (ob := .dK (putK ks k v)) (l' := kD (putE es (keyD k) d)) s2 hs2 z1 (.dctK (putJ k ok' n3))
              exact q σ ⟨w2.F, upd w2.H a0 (.dK (putK ks k v)), w2.O⟩ o1 ((l1.trans l2).trans o2)
            · cases j2
          · cases j2
/-- d.get(k, x) -/
def fGetK (i : Nat) (f g : FE) : FV := fun e => match e[i]? with
  | some (.own _ (.dict ((.bool true, .none) :: _))) => (f e).bind fun p => (g p.2).bind fun q => match look q.2 p.1 with
    | some kd => (frz q.2 q.1).bind fun z => match z.2[i]? with
      | some (.own b (.dict ((.bool true, .none) :: es))) => if isK kd = true then some (.val ((valE es kd).getD z.1), z.2) else none
      | _ => none
    | _ => none
  | _ => none
theorem d_getK (hu : X.A.units + 1 < cLine) (hv : PE X (.Name y p) (tVar i)) (hk : PE X a (tE X.K f)) (hx : PE X x (tE X.K g)) (m : M2 X (.Name y p) "get" apos a x cpos) :
    PE X (.Call (.Attribute (.Name y p) "get" apos) [a, x] [] cpos) (tV X.K (fGetK i f g)) := by
  refine pe_imp (pe_dget2 hu hv hk hx m) fun σ H Q ⟨B, w, e, r, e', hH, st, hf, q⟩ => ?_
  subst hH
  unfold fGetK at hf
  split at hf
  · rename_i b0 es0 hs0
    obtain ⟨a0, ks0, k1, k2, k3⟩ := own_dK st hs0
    refine ⟨.ref a0, k1, a0, rfl, .inl ⟨_, .inl k2⟩, ?_⟩
    obtain ⟨⟨r1, e1⟩, j1, j2⟩ := Option.bind_eq_some_iff.mp hf
    refine ⟨B, w, e, r1, e1, rfl, st, j1, fun v1 w1 s1 l1 p1 => ?_⟩
    obtain ⟨⟨r2, e2⟩, j3, j4⟩ := Option.bind_eq_some_iff.mp j2
    refine ⟨B, w1, e1, r2, e2, rfl, s1, j3, fun v2 w2 s2 l2 p2 => ?_⟩
    simp only at j4
    split at j4
    · rename_i l hl
      have ti := look_ok s2 hl (p1.later l2)
      obtain ⟨⟨d, e3⟩, m1, m2⟩ := Option.bind_eq_some_iff.mp j4
      obtain ⟨w3, n1, s3, l3, dq⟩ := frz_ok s2 m1 p2
      simp only at m2
      split at m2
      · rename_i b es hs3
        split at m2
        · rename_i hc
          cases m2
          obtain ⟨a2, ks, o1, o2, o3⟩ := own_dK s3 hs3
          rw [k1] at o1
          cases o1
          obtain ⟨k, e4, e6⟩ := key_atK ti hc
          subst e4 e6
          rw [n1] at o2
          refine ⟨_, DGet.k o2, ?_⟩
          have fin := q ((valV ks k).getD v2) w3 s3 ((l1.trans l2).trans l3)
          rw [n1] at fin
          refine fin ?_
          show Dq X.K w3.F _ ((valE es (keyD k)).getD d)
          rcases valJ k o3 with ⟨u1, u2⟩ | ⟨v3, d3, u1, u2, u3⟩
          · rw [u1, u2]; exact dq
          · rw [u1, u2]; exact u3
        · cases m2
      · cases m2
    · cases j4
  · cases hf
end
end DL

set_option Elab.async false
set_option linter.all false
set_option maxRecDepth 100000
set_option maxHeartbeats 2000000
/-! DL23: d[k]. -/
namespace DL
open PySem PySem.Spec PyProof.Rows L2
section
variable {X : Cx} {a x : Expr} {f g : FE} {fv : FV} {y : Str} {i : Nat} {p apos cpos spos tpos : Pos}
/-- d[k] -/
def fIxT (i : Nat) (f : FE) : FV := fun e => match e[i]? with
  | some (.own _ _) => (f e).bind fun p => match look p.2 p.1 with
    | some (.tuple l) => match p.2[i]? with
      | some (.own b (.dict ((.none, .none) :: es))) => if l.all isK = true then (valE es (.tuple l)).map fun d => (.val d, p.2) else none
      | _ => none
    | _ => none
  | _ => none
theorem d_ixT (hu : X.A.units + 1 < cLine) (hv : PE X (.Name y p) (tVar i)) (hk : PE X a (tE X.K f)) (hs : NoSl a) : PE X (.Subscript (.Name y p) a spos) (tV X.K (fIxT i f)) := by
  refine pe_imp (pe_dget hu hv hk hs) fun σ H Q ⟨B, w, e, r, e', hH, st, hf, q⟩ => ?_
  subst hH
  unfold fIxT at hf
  split at hf
  · rename_i b0 l0 hs0
    obtain ⟨a0, o0, k1, k2, k3, k4, k5⟩ := st.own_at hs0
    refine ⟨.ref a0, k1, ?_⟩
    obtain ⟨⟨r1, e1⟩, j1, j2⟩ := Option.bind_eq_some_iff.mp hf
    refine ⟨B, w, e, r1, e1, rfl, st, j1, fun v1 w1 s1 l1 p1 => ?_⟩
    simp only at j2
    split at j2
    · rename_i l hl
      have ti := look_ok s1 hl p1
      split at j2
      · rename_i b es hs3
        split at j2
        · rename_i hc
          obtain ⟨d, m1, m2⟩ := Option.map_eq_some_iff.mp j2
          cases m2
          obtain ⟨a2, ks, o1, o2, o3⟩ := own_dT s1 hs3
          rw [k1] at o1
          cases o1
          obtain ⟨bk, k, e4, e5, e6⟩ := key_at s1.sub ti hc
          subst e4
          rw [e6] at m1
          rcases valT k o3 with ⟨u1, u2⟩ | ⟨v3, d3, u1, u2, u3⟩
          · rw [u2] at m1; cases m1
          · rw [u2] at m1
            cases m1
            exact ⟨a0, v3, rfl, u1 ▸ DGet.t o2 e5, q v3 w1 s1 l1 u3⟩
        · cases j2
      · cases j2
    · cases j2
  · cases hf
/-- d[k] -/
def fIxK (i : Nat) (f : FE) : FV := fun e => match e[i]? with
  | some (.own _ _) => (f e).bind fun p => match look p.2 p.1 with
    | some kd => match p.2[i]? with
      | some (.own b (.dict ((.bool true, .none) :: es))) => if isK kd = true then (valE es kd).map fun d => (.val d, p.2) else none
      | _ => none
    | _ => none
  | _ => none
theorem d_ixK (hu : X.A.units + 1 < cLine) (hv : PE X (.Name y p) (tVar i)) (hk : PE X a (tE X.K f)) (hs : NoSl a) : PE X (.Subscript (.Name y p) a spos) (tV X.K (fIxK i f)) := by
  refine pe_imp (pe_dget hu hv hk hs) fun σ H Q ⟨B, w, e, r, e', hH, st, hf, q⟩ => ?_
  subst hH
  unfold fIxK at hf
  split at hf
  · rename_i b0 l0 hs0
    obtain ⟨a0, o0, k1, k2, k3, k4, k5⟩ := st.own_at hs0
    refine ⟨.ref a0, k1, ?_⟩
    obtain ⟨⟨r1, e1⟩, j1, j2⟩ := Option.bind_eq_some_iff.mp hf
    refine ⟨B, w, e, r1, e1, rfl, st, j1, fun v1 w1 s1 l1 p1 => ?_⟩
    simp only at j2
    split at j2
    · rename_i l hl
      have ti := look_ok s1 hl p1
      split at j2
      · rename_i b es hs3
        split at j2
        · rename_i hc
          obtain ⟨d, m1, m2⟩ := Option.map_eq_some_iff.mp j2
          cases m2
          obtain ⟨a2, ks, o1, o2, o3⟩ := own_dK s1 hs3
          rw [k1] at o1
          cases o1
          obtain ⟨k, e4, e6⟩ := key_atK ti hc
          subst e4 e6
          rcases valJ k o3 with ⟨u1, u2⟩ | ⟨v3, d3, u1, u2, u3⟩
          · rw [u2] at m1; cases m1
          · rw [u2] at m1
            cases m1
            exact ⟨a0, v3, rfl, u1 ▸ DGet.k o2, q v3 w1 s1 l1 u3⟩
        · cases j2
      · cases j2
    · cases j2
  · cases hf
end
end DL

set_option Elab.async false
set_option linter.all false
set_option maxRecDepth 100000
set_option maxHeartbeats 2000000
/-! DL24: an own object moves to another name. -/
namespace DL
open PySem PySem.Spec PyProof.Rows L2
section
variable {K : PySem.W.Frag} {B : Bd} {w : Wd} {σ : L2.St} {e : En}
theorem move_stt (st : Stt K B w σ e) {i j : Nat} {c : D} {o : Slot} {a : Addr} (hj : e[j]? = some (.own false c)) (hi : e[i]? = some o) (np : o.pin = false) (hij : i ≠ j) (ha : σ[j]? = some (some (.ref a))) :
    Stt K B ⟨w.F, w.H, ownO (σ.set i (some (.ref a))) ((e.set j .dead).set i (.own false c))⟩ (σ.set i (some (.ref a))) ((e.set j .dead).set i (.own false c)) ∧
    Le w ⟨w.F, w.H, ownO (σ.set i (some (.ref a))) ((e.set j .dead).set i (.own false c))⟩ := by
  have hl := lt_of_get hi
  have hlj := lt_of_get hj
  have hl' : i < (e.set j .dead).length := by rw [List.length_set]; exact hl
  have hσ : i < σ.length := by rw [st.len]; exact hl
  have oa : w.O a := (st.ow a).mpr ⟨j, false, c, hj, ha⟩
  have getE : ∀ k, ((e.set j .dead).set i (.own false c))[k]? = if i = k then some (.own false c) else if j = k then some .dead else e[k]? := fun k => by
    rw [get_set, get_set]
    by_cases h1 : i = k
    · rw [if_pos ⟨h1, hl'⟩, if_pos h1]
    · rw [if_neg fun z => h1 z.1, if_neg h1]
      by_cases h2 : j = k
      · rw [if_pos ⟨h2, hlj⟩, if_pos h2]
      · rw [if_neg fun z => h2 z.1, if_neg h2]
  have getS : ∀ k, (σ.set i (some (.ref a)))[k]? = if i = k then some (some (.ref a)) else σ[k]? := fun k => by
    rw [get_set]
    by_cases h1 : i = k
    · rw [if_pos ⟨h1, hσ⟩, if_pos h1]
    · rw [if_neg fun z => h1 z.1, if_neg h1]
  have own_at : ∀ {k : Nat} {b : Bool} {l : D}, ((e.set j .dead).set i (.own false c))[k]? = some (Slot.own b l) → (k = i ∧ b = false ∧ l = c) ∨ (k ≠ i ∧ k ≠ j ∧ e[k]? = some (Slot.own b l)) := fun {k b l} q => by
    rw [getE] at q
    split at q
    · rename_i h; cases q; exact .inl ⟨h.symm, rfl, rfl⟩
    · rename_i h
      split at q
      · cases q
      · rename_i h2; exact .inr ⟨fun z => h z.symm, fun z => h2 z.symm, q⟩
  have hO : ∀ x, ownO (σ.set i (some (.ref a))) ((e.set j .dead).set i (.own false c)) x → w.O x := fun x ⟨k, b, l, q1, q2⟩ => by
    rw [getS] at q2
    rcases own_at q1 with ⟨rfl, _, _⟩ | ⟨n1, n2, q3⟩
    · rw [if_pos rfl] at q2; cases q2; exact oa
    · rw [if_neg (Ne.symm n1)] at q2
      exact (st.ow x).mpr ⟨k, b, l, q3, q2⟩
  refine ⟨⟨st.sub, by rw [List.length_set, List.length_set, List.length_set]; exact st.len, fun k s q => ?_, fun k m b l b' l' q1 q2 q3 => ?_, fun x => Iff.rfl, ?_, fun k q => ?_, st.dom, fun k l x q1 q2 => ?_⟩,
    ⟨Same.refl _, fun _ _ q _ => q, fun _ _ q => .inl q, fun x q => .inl (hO x q), fun _ q => q⟩⟩
  · rw [getE] at q
    rw [getS]
    split at q
    · rename_i h
      cases q
      rw [if_pos h]
      obtain ⟨a', ob, k1, k2, k3, k4⟩ := st.sl j _ hj
      rw [ha] at k1
      cases k1
      exact ⟨a, ob, rfl, k2, k3, k4⟩
    · rename_i h
      rw [if_neg h]
      split at q
      · cases q; trivial
      · exact st.sl k s q
  · rw [getS, getS] at q3
    rcases own_at q1 with ⟨rfl, _, _⟩ | ⟨n1, n2, q4⟩
    · rcases own_at q2 with ⟨rfl, _, _⟩ | ⟨m1, m2, q5⟩
      · rfl
      · rw [if_pos rfl, if_neg (Ne.symm m1)] at q3
        exact absurd (st.inj j m _ _ _ _ hj q5 (by rw [ha]; exact q3)).symm m2
    · rcases own_at q2 with ⟨rfl, _, _⟩ | ⟨m1, m2, q5⟩
      · rw [if_pos rfl, if_neg (Ne.symm n1)] at q3
        exact absurd (st.inj k j _ _ _ _ q4 hj (by rw [ha]; exact q3)) n2
      · rw [if_neg (Ne.symm n1), if_neg (Ne.symm m1)] at q3
        exact st.inj k m _ _ _ _ q4 q5 q3
  · rw [← st.pin]
    refine List.ext_getElem? fun k => ?_
    rw [List.getElem?_map, List.getElem?_map, getE]
    split
    · rename_i h; subst h; rw [hi]; exact congrArg some np.symm
    · split
      · rename_i h2; subst h2; rw [hj]; rfl
      · rfl
  · rw [getS]
    split
    · rename_i h
      subst h
      have z : (e.map Slot.pin)[i]? = some true := by rw [st.pin]; exact q
      rw [List.getElem?_map, hi] at z
      have : o.pin = true := Option.some.inj z
      rw [np] at this
      cases this
    · exact st.pins k q
  · rw [getS] at q2
    rcases own_at q1 with ⟨rfl, _, _⟩ | ⟨n1, n2, q4⟩
    · rw [if_pos rfl] at q2
      cases q2
      exact st.fr j c a hj ha
    · rw [if_neg (Ne.symm n1)] at q2
      exact st.fr k l x q4 q2
end
/-- x = y, y an own object's name: it is x's from now on -/
def sMove (i j : Nat) : FS := fun e => match e[j]? with
  | some (.own false c) => match e[i]? with
    | some o => if o.pin = true ∨ i = j then none else some (.next ((e.set j .dead).set i (.own false c)))
    | none => none
  | _ => none
theorem s_move {X : Cx} {i j : Nat} {x y : Str} {p pos' pos : Pos} (hN : X.N.Nodup) (hi : X.N[i]? = some x) (hx : Loc X.env.scope x) (hv : PE X (.Name y p) (tVar j)) (hs : swapsWith (.Name y p) (some (.Name x pos')) pos.line X.env = pure false := by rfl)
    (hf : X.fn x = true ∨ X.env.scope.names.lookup x = some .local := by first | exact .inl rfl | exact .inr rfl | assumption) : PS X (.Assign [.Name x pos'] (.Name y p) pos) (tS X.K (sMove i j)) := by
  refine ps_imp (ps_set hN hi hx hv hs hf) fun D σ H ⟨B, w, e, fl, hH, st, hg, q⟩ => ?_
  unfold sMove at hg
  split at hg
  · rename_i c hj
    split at hg
    · rename_i o hi'
      split at hg
      · cases hg
      · rename_i hn
        cases hg
        obtain ⟨a, ob, h1, _⟩ := st.own_at hj
        obtain ⟨k1, k2⟩ := move_stt st hj hi' (by simpa using fun z => hn (.inl z)) (fun z => hn (.inr z)) h1
        subst hH
        exact ⟨.ref a, h1, q _ ⟨w.F, w.H, ownO (σ.set i (some (.ref a))) ((e.set j .dead).set i (.own false c))⟩ k1 k2⟩
    · cases hg
  · cases hg
end DL

set_option Elab.async false
set_option linter.all false
set_option maxRecDepth 100000
set_option maxHeartbeats 2000000
/-! DL25: k in d. -/
namespace DL
open PySem PySem.Spec PyProof.Rows L2
section
variable {X : Cx} {a x : Expr} {f g : FE} {y : Str} {i : Nat} {p spos : Pos}
/-- k in d, k not in d -/
def fInT (neg : Bool) (f : FE) (i : Nat) : FV := fun e => (f e).bind fun p => match look p.2 p.1 with
  | some (.tuple l) => match p.2[i]? with
    | some (.own b (.dict ((.none, .none) :: es))) => if l.all isK = true then some (.val (.bool (if neg then !(valE es (.tuple l)).isSome else (valE es (.tuple l)).isSome)), p.2) else none
    | _ => none
  | _ => none
theorem inT_run {K : PySem.W.Frag} {σ : L2.St} {H : Hp} {Q : VK} {neg : Bool} (q : tV K (fInT neg f i) σ H Q) : (tE K f) σ H fun y H1 => tVar i σ H1 fun x H2 => ∃ a o, x = .ref a ∧ DGet H2 a y o ∧ Q (.bl (if neg then !o.isSome else o.isSome)) H2 := by
  obtain ⟨B, w, e, r, e', hH, st, hf, q⟩ := q
  obtain ⟨⟨r1, e1⟩, j1, j2⟩ := Option.bind_eq_some_iff.mp hf
  refine ⟨B, w, e, r1, e1, hH, st, j1, fun v1 w1 s1 l1 p1 => ?_⟩
  simp only at j2
  split at j2
  · rename_i l hl
    have ti := look_ok s1 hl p1
    split at j2
    · rename_i b es hs3
      split at j2
      · rename_i hc
        cases j2
        obtain ⟨a2, ks, o1, o2, o3⟩ := own_dT s1 hs3
        obtain ⟨bk, k, e4, e5, e6⟩ := key_at s1.sub ti hc
        subst e4
        refine ⟨.ref a2, o1, a2, _, rfl, DGet.t o2 e5, q _ w1 s1 l1 ?_⟩
        have e7 : (valV ks k).isSome = (valE es (.tuple l)).isSome := by
          rw [e6]
          rcases valT k o3 with ⟨u1, u2⟩ | ⟨v3, d3, u1, u2, u3⟩
          · rw [u1, u2]; rfl
          · rw [u1, u2]; rfl
        rw [e7]
        exact Dq.bl _
      · cases j2
    · cases j2
  · cases j2
theorem d_inT (hu : X.A.units + 1 < cLine) (hv : PE X (.Name y p) (tVar i)) (hk : PE X a (tE X.K f)) (hm : behindInMarks .In (.Name y p) = false := by rfl) : PE X (.Compare a [.In] [.Name y p] spos) (tV X.K (fInT false f i)) := pe_imp (pe_cmp (pc_din hu hk hv) hm) fun _ _ _ q => inT_run q
theorem d_notInT (hu : X.A.units + 1 < cLine) (hv : PE X (.Name y p) (tVar i)) (hk : PE X a (tE X.K f)) (hm : behindInMarks .NotIn (.Name y p) = false := by rfl) : PE X (.Compare a [.NotIn] [.Name y p] spos) (tV X.K (fInT true f i)) := pe_imp (pe_cmp (pc_dnotin hu hk hv) hm) fun _ _ _ q => inT_run q
theorem t_inT (hu : X.A.units + 1 < cLine) (hv : PE X (.Name y p) (tVar i)) (hk : PE X a (tE X.K f)) (hm : behindInMarks .In (.Name y p) = false := by rfl) : PT X (.Compare a [.In] [.Name y p] spos) (tT X.K (fTestV (fInT false f i))) := pt_imp (pt_cmp (pc_din hu hk hv) hm) fun _ _ _ q => inT_run (test_run q)
theorem t_notInT (hu : X.A.units + 1 < cLine) (hv : PE X (.Name y p) (tVar i)) (hk : PE X a (tE X.K f)) (hm : behindInMarks .NotIn (.Name y p) = false := by rfl) : PT X (.Compare a [.NotIn] [.Name y p] spos) (tT X.K (fTestV (fInT true f i))) := pt_imp (pt_cmp (pc_dnotin hu hk hv) hm) fun _ _ _ q => inT_run (test_run q)
/-- k in d, k not in d -/
def fInK (neg : Bool) (f : FE) (i : Nat) : FV := fun e => (f e).bind fun p => match look p.2 p.1 with
  | some kd => match p.2[i]? with
    | some (.own b (.dict ((.bool true, .none) :: es))) => if isK kd = true then some (.val (.bool (if neg then !(valE es kd).isSome else (valE es kd).isSome)), p.2) else none
    | _ => none
  | _ => none
theorem inK_run {K : PySem.W.Frag} {σ : L2.St} {H : Hp} {Q : VK} {neg : Bool} (q : tV K (fInK neg f i) σ H Q) : (tE K f) σ H fun y H1 => tVar i σ H1 fun x H2 => ∃ a o, x = .ref a ∧ DGet H2 a y o ∧ Q (.bl (if neg then !o.isSome else o.isSome)) H2 := by
  obtain ⟨B, w, e, r, e', hH, st, hf, q⟩ := q
  obtain ⟨⟨r1, e1⟩, j1, j2⟩ := Option.bind_eq_some_iff.mp hf
  refine ⟨B, w, e, r1, e1, hH, st, j1, fun v1 w1 s1 l1 p1 => ?_⟩
  simp only at j2
  split at j2
  · rename_i l hl
    have ti := look_ok s1 hl p1
    split at j2
    · rename_i b es hs3
      split at j2
      · rename_i hc
        cases j2
        obtain ⟨a2, ks, o1, o2, o3⟩ := own_dK s1 hs3
        obtain ⟨k, e4, e6⟩ := key_atK ti hc
        subst e4 e6
        refine ⟨.ref a2, o1, a2, _, rfl, DGet.k o2, q _ w1 s1 l1 ?_⟩
        have e7 : (valV ks k).isSome = (valE es (keyD k)).isSome := by
          rcases valJ k o3 with ⟨u1, u2⟩ | ⟨v3, d3, u1, u2, u3⟩
          · rw [u1, u2]; rfl
          · rw [u1, u2]; rfl
        rw [e7]
        exact Dq.bl _
      · cases j2
    · cases j2
  · cases j2
theorem d_inK (hu : X.A.units + 1 < cLine) (hv : PE X (.Name y p) (tVar i)) (hk : PE X a (tE X.K f)) (hm : behindInMarks .In (.Name y p) = false := by rfl) : PE X (.Compare a [.In] [.Name y p] spos) (tV X.K (fInK false f i)) := pe_imp (pe_cmp (pc_din hu hk hv) hm) fun _ _ _ q => inK_run q
theorem d_notInK (hu : X.A.units + 1 < cLine) (hv : PE X (.Name y p) (tVar i)) (hk : PE X a (tE X.K f)) (hm : behindInMarks .NotIn (.Name y p) = false := by rfl) : PE X (.Compare a [.NotIn] [.Name y p] spos) (tV X.K (fInK true f i)) := pe_imp (pe_cmp (pc_dnotin hu hk hv) hm) fun _ _ _ q => inK_run q
theorem t_inK (hu : X.A.units + 1 < cLine) (hv : PE X (.Name y p) (tVar i)) (hk : PE X a (tE X.K f)) (hm : behindInMarks .In (.Name y p) = false := by rfl) : PT X (.Compare a [.In] [.Name y p] spos) (tT X.K (fTestV (fInK false f i))) := pt_imp (pt_cmp (pc_din hu hk hv) hm) fun _ _ _ q => inK_run (test_run q)
theorem t_notInK (hu : X.A.units + 1 < cLine) (hv : PE X (.Name y p) (tVar i)) (hk : PE X a (tE X.K f)) (hm : behindInMarks .NotIn (.Name y p) = false := by rfl) : PT X (.Compare a [.NotIn] [.Name y p] spos) (tT X.K (fTestV (fInK true f i))) := pt_imp (pt_cmp (pc_dnotin hu hk hv) hm) fun _ _ _ q => inK_run (test_run q)
end
end DL

set_option Elab.async false
set_option linter.all false
set_option maxRecDepth 100000
set_option maxHeartbeats 2000000
/-! DL13: the law's end. -/
namespace DL
open PySem PySem.Spec PyProof.Rows L2
theorem da_of_ints (K : PySem.W.Frag) (H : Hp) : ∀ ns : List Int, Da K H (ns.map V.int) (ns.map PyData.int)
  | [] => .nil
  | n :: ns => .cons (.int n) (da_of_ints K H ns)
/-- the law's mirror answers True, so its promise is kept -/
theorem law_sp {K : PySem.W.Frag} {m : Fn} {ns : List Int} {outs : List Slot} {H : Hp} {a : Addr} (h : m [.val false (.list (ns.map PyData.int))] = some (.val (.bool true), outs)) (hl : LstAt K H a (ns.map V.int)) : spD K 1 m [.ref a] H (fun v _ => v = .bl true) fun _ _ _ => False := by
  refine ⟨⟨H, H, fun _ => False⟩, _, _, outs, rfl, rfl, ⟨Same.refl _, rfl, fun i s q => ?g1, fun i j b l b' l' q => ?g2, fun x => ⟨fun z => z.elim, fun ⟨i, b, l, q, _⟩ => ?g3⟩, rfl, fun _ _ => rfl, fun _ q => q, fun i l x q => ?g4⟩, h, fun v w' _ _ ok => ?g5⟩
  case g1 =>
    cases i with
    | zero =>
      have e : s = .val false (.list (ns.map PyData.int)) := (Option.some.inj q).symm
      subst e
      exact ⟨.ref a, rfl, .lst hl (da_of_ints K _ ns)⟩
    | succ i => cases i <;> cases q
  case g2 =>
    cases i with
    | zero => cases q
    | succ i => cases i <;> cases q
  case g3 =>
    cases i with
    | zero => cases q
    | succ i => cases i <;> cases q
  case g4 =>
    cases i with
    | zero => cases q
    | succ i => cases i <;> cases q
  case g5 =>
    have z : Dq K w'.F v (.bool true) := ok
    cases z
    rfl
theorem walk_ofD {l : PySem.W.OpenLaw} {n k : Nat} {q : Program} {loose : List Str} {XP : (Str → Option Value) → Heap → Prop} {YP : World → Heap → Prop} {d : DefRec} {x : Str}
    (hn : l.most = some n) (hn2 : n ≤ sizeLine) (hdf : d.params.defaults = []) (hr : Room k callerA)
    (F : ∀ (w : World) (mg : Str → Option Value) (fa : Addr) (h : Heap), YP w h → h.Ns mainGlobals mg → mg d.name = some (.ref fa) →
      ∃ (K : PySem.W.Frag) (fd : FuncData) (m : Fn), K.In h ∧ (∀ (s : Shared) (u : Value), BindsTo s fd ⟨[u], []⟩ [(x, u)]) ∧
        (∀ ns : List Int, ns.length ≤ n → ∃ outs, m [.val false (.list (ns.map PyData.int))] = some (.val (.bool true), outs)) ∧
        ∀ base : Heap, K.In base → base.Ns mainGlobals mg → FnOk l.prog w K mg base CX0 k fa fd [x] (spD K 1 m)) :
    PySem.W.WalkO q loose XP YP l.row.toRowW d [] (fun f vs => PySem.call f vs) := by
  refine Att.attach_call hn hdf fun w s₀ s₁ mg mb fa o pm cd doc a vs ns G Y ho hd hcd hmg hobj hints hlen hg => ?_
  obtain ⟨K, fd, m, KX, hb, hm, hF⟩ := F w mg fa _ Y G.T.g hmg
  obtain ⟨outs, ht⟩ := hm ns hlen
  refine law_call KX G.T.g G.T.b G.T.builtins G.T.nolimit hg hobj hints (Nat.le_trans hlen hn2) hr hF hb (fun H hO hS => law_sp ht ?_) fun H e s' h => h
  rcases hS with hS | ⟨ob, its, c, h1, h2, h3, h4, h5, h6⟩
  · exact .inl hS
  · have e := KX a ob h1
    rw [hobj] at e
    cases e
    have e2 : (Data.seq vs.toArray 0) = Data.seq its c := h4
    injection e2 with e3 e4
    subst e3 e4
    exact .inr ⟨_, _, h1, h5, h6⟩
end DL

set_option Elab.async false
set_option linter.all false
set_option maxRecDepth 100000
set_option maxHeartbeats 2000000
/-! DL14: the mirrors read by what they answer. -/
namespace DL
open PySem PySem.Spec PyProof.Rows L2
/-- the mirror answers, and P holds of the answer -/
def Ok {α : Type} (x : Option α) (P : α → Prop) : Prop := ∃ a, x = some a ∧ P a
/-- two ways -/
def Br (b : Bool) (A B : Prop) : Prop := (b = true → A) ∧ (b = false → B)
theorem br_true {A B : Prop} (h : A) : Br true A B := ⟨fun _ => h, fun z => nomatch z⟩
theorem br_false {A B : Prop} (h : B) : Br false A B := ⟨fun z => (nomatch z), fun _ => h⟩
theorem br_yes {b : Bool} {A B : Prop} (h : b = true) (k : A) : Br b A B := ⟨fun _ => k, fun z => by rw [h] at z; cases z⟩
theorem br_no {b : Bool} {A B : Prop} (h : b = false) (k : B) : Br b A B := ⟨fun z => (by rw [h] at z; cases z), fun _ => k⟩
/-- a bool of the data -/
def IsB (d : D) (C : Bool → Prop) : Prop := ∃ b, d = .bool b ∧ C b
theorem isB {b : Bool} {C : Bool → Prop} (h : C b) : IsB (.bool b) C := ⟨b, rfl, h⟩
def IsBr (r : Res) (C : Bool → Prop) : Prop := ∃ b, r = .val (.bool b) ∧ C b
theorem isBr {b : Bool} {C : Bool → Prop} (h : C b) : IsBr (.val (.bool b)) C := ⟨b, rfl, h⟩
theorem ok_rfl {α : Type} {x : Option α} {a : α} {P : α → Prop} (h : x = some a) (k : P a) : Ok x P := ⟨a, h, k⟩
theorem ok_of {α : Type} {x : Option α} {P Q : α → Prop} (h : Ok x P) (k : ∀ a, P a → Q a) : Ok x Q := by
  obtain ⟨a, h1, h2⟩ := h
  exact ⟨a, h1, k a h2⟩
theorem ok_some {α : Type} {a : α} {P : α → Prop} (k : P a) : Ok (some a) P := ⟨a, rfl, k⟩
theorem ok_bindI {α β : Type} {x : Option β} {f : β → Option α} {P : α → Prop} (h : Ok x fun b => Ok (f b) P) : Ok (x.bind f) P := by
  obtain ⟨b, rfl, h⟩ := h
  exact h
theorem ok_mapI {α β : Type} {x : Option β} {f : β → α} {P : α → Prop} (h : Ok x fun b => P (f b)) : Ok (x.map f) P := by
  obtain ⟨b, rfl, h⟩ := h
  exact ⟨_, rfl, h⟩
theorem ok_iteI {α : Type} {c : Prop} [Decidable c] {x : Option α} {y : Option α} {P : α → Prop} (hc : c) (h : Ok x P) : Ok (if c then x else y) P := by
  rw [if_pos hc]
  exact h

/-- a reading answers r, the frame is e then -/
def Ev {α : Type} (x : Option (α × En)) (P : α → En → Prop) : Prop := ∃ a e, x = some (a, e) ∧ P a e
theorem ev_rfl {α : Type} {x : Option (α × En)} {a : α} {e : En} {P : α → En → Prop} (h : x = some (a, e)) (k : P a e) : Ev x P := ⟨a, e, h, k⟩
theorem ev_of {α : Type} {x : Option (α × En)} {P Q : α → En → Prop} (h : Ev x P) (k : ∀ a e, P a e → Q a e) : Ev x Q := by
  obtain ⟨a, e, h1, h2⟩ := h
  exact ⟨a, e, h1, k a e h2⟩
theorem ev_ok {α : Type} {x : Option (α × En)} {P : α → En → Prop} (h : Ev x P) : Ok x fun p => P p.1 p.2 := by
  obtain ⟨a, e, h1, h2⟩ := h
  exact ⟨_, h1, h2⟩
theorem ok_ev {α : Type} {x : Option (α × En)} {P : α → En → Prop} (h : Ok x fun p => P p.1 p.2) : Ev x P := by
  obtain ⟨⟨a, e⟩, h1, h2⟩ := h
  exact ⟨_, _, h1, h2⟩
theorem ev_eq {α : Type} {x : Option (α × En)} {P : α → En → Prop} (h : Ev x P) : ∃ a e, x = some (a, e) ∧ P a e := h
theorem ev_bind {α β : Type} {x : Option (β × En)} {f : β × En → Option (α × En)} {P : α → En → Prop} (h : Ev x fun b e => Ev (f (b, e)) P) : Ev (x.bind f) P := by
  obtain ⟨b, e, rfl, h⟩ := h
  exact h
theorem evO_bind {α β : Type} {x : Option β} {f : β → Option (α × En)} {P : α → En → Prop} (h : Ok x fun b => Ev (f b) P) : Ev (x.bind f) P := by
  obtain ⟨b, rfl, h⟩ := h
  exact h
theorem okE_bind {α β : Type} {x : Option (β × En)} {f : β × En → Option α} {P : α → Prop} (h : Ev x fun b e => Ok (f (b, e)) P) : Ok (x.bind f) P := by
  obtain ⟨b, e, rfl, h⟩ := h
  exact h
theorem ev_map {α β : Type} {x : Option (β × En)} {f : β × En → α × En} {P : α → En → Prop} (h : Ev x fun b e => P (f (b, e)).1 (f (b, e)).2) : Ev (x.map f) P := by
  obtain ⟨b, e, rfl, h⟩ := h
  exact ⟨_, _, rfl, h⟩
theorem evO_map {α β : Type} {x : Option β} {f : β → α × En} {P : α → En → Prop} (h : Ok x fun b => P (f b).1 (f b).2) : Ev (x.map f) P := by
  obtain ⟨b, rfl, h⟩ := h
  exact ⟨_, _, rfl, h⟩
theorem okE_map {α β : Type} {x : Option (β × En)} {f : β × En → α} {P : α → Prop} (h : Ev x fun b e => P (f (b, e))) : Ok (x.map f) P := by
  obtain ⟨b, e, rfl, h⟩ := h
  exact ⟨_, rfl, h⟩
theorem ev_some {α : Type} {a : α} {e : En} {P : α → En → Prop} (k : P a e) : Ev (some (a, e)) P := ⟨a, e, rfl, k⟩
@[reducible] def resR : Res → R
  | .val d => .val d
  | .fresh c => .val c
section
variable {e : En} {f g h : FE} {op op' : D → D → Option Res}
variable {P1 : R → En → Prop} {P2 : Res → En → Prop} {P3 : Bool → En → Prop} {P4 : List R → En → Prop} {P5 : Fl → Prop} {P6 : Option Int → En → Prop} {P7 : List D → En → Prop}
theorem ok_look {r : R} {d : D} {P : D → Prop} (h : look e r = some d) (k : P d) : Ok (look e r) P := ok_rfl h k
theorem ok_looks {r : List R} {d : List D} {P : List D → Prop} (h : looks e r = some d) (k : P d) : Ok (looks e r) P := ok_rfl h k
theorem ok_frz {r : R} {d : D} {e' : En} {P : D → En → Prop} (h : frz e r = some (d, e')) (k : P d e') : Ev (frz e r) P := ev_rfl h k
theorem ok_frzs {r : List R} {d : List D} {e' : En} {P : List D → En → Prop} (h : frzs e r = some (d, e')) (k : P d e') : Ev (frzs e r) P := ev_rfl h k
theorem ok_lent {r : List R} {d : List Slot} {P : List Slot → Prop} (h : lent e r = some d) (k : P d) : Ok (lent e r) P := ok_rfl h k
theorem ok_back {r : List R} {o : List Slot} {d : En} {P : En → Prop} (h : back e r o = some d) (k : P d) : Ok (back e r o) P := ok_rfl h k
theorem ok_put {i : Nat} {s : Slot} {d : En} {P : En → Prop} (h : putV i s e = some d) (k : P d) : Ok (putV i s e) P := ok_rfl h k
theorem ok_tgt {gt : FG} {x : D} {d : En} {P : En → Prop} (h : gt x e = some d) (k : P d) : Ok (gt x e) P := ok_rfl h k
theorem ok_var {i : Nat} {r : R} {e' : En} (h : fVar i e = some (r, e')) (k : P1 r e') : Ev (fVar i e) P1 := ev_rfl h k
theorem ok_cst {d : D} (k : P1 (.val d) e) : Ev (fCst d e) P1 := ev_some k
@[reducible] def ndR : Res → Bool
  | .val _ => true
  | .fresh c => !isDct c
theorem ok_toE {f : FV} (k : Ev (f e) fun r e => ndR r = true ∧ P1 (resR r) e) : Ev (toE f e) P1 := by
  refine ev_bind (ev_of k fun r e ⟨h1, h2⟩ => ?_)
  cases r with
  | val d => exact ev_some h2
  | fresh c =>
    show Ev (if isDct c = true then none else some (R.val c, e)) P1
    have h1 : (!isDct c) = true := h1
    rw [if_neg (by intro z; rw [z] at h1; cases h1)]
    exact ev_some h2
theorem ok_toV (k : Ev (f e) fun r e => Ev (frz e r) fun d e => P2 (.val d) e) : Ev (toV f e) P2 := ev_bind (ev_of k fun _ _ z => ev_map z)
theorem ok_bin (k : Ev (f e) fun r e => Ev (g e) fun s e => Ok (look e r) fun a => Ok (look e s) fun b => Ok (op a b) fun z => P2 z e) : Ev (fBin op f g e) P2 :=
  ev_bind (ev_of k fun _ _ z => ev_bind (ev_of z fun _ _ z => evO_bind (ok_of z fun _ z => evO_bind (ok_of z fun _ z => evO_map z))))
theorem ok_and (k : Ev (f e) fun r e => Ok (look e r) fun d => IsB d fun b => Br b (Ev (g e) P1) (P1 (.val (.bool false)) e)) : Ev (fAnd f g e) P1 := by
  refine ev_bind (ev_of k fun p e ⟨d, h1, b, h2, h3, h4⟩ => ?_)
  subst h2
  simp only [h1]
  cases b with
  | true => exact h3 rfl
  | false => exact ev_some (h4 rfl)
theorem ok_or (k : Ev (f e) fun r e => Ok (look e r) fun d => IsB d fun b => Br b (P1 (.val (.bool true)) e) (Ev (g e) P1)) : Ev (fOr f g e) P1 := by
  refine ev_bind (ev_of k fun p e ⟨d, h1, b, h2, h3, h4⟩ => ?_)
  subst h2
  simp only [h1]
  cases b with
  | true => exact ev_some (h3 rfl)
  | false => exact h4 rfl
theorem ok_not (k : Ev (f e) fun r e => Ok (look e r) fun d => IsB d fun b => P2 (.val (.bool (!b))) e) : Ev (fNot f e) P2 := by
  refine ev_bind (ev_of k fun p e ⟨d, h1, b, h2, h3⟩ => ?_)
  subst h2
  simp only [h1]
  exact ev_some h3
def IsI (d : D) (C : Int → Prop) : Prop := ∃ i, d = .int i ∧ C i
theorem isI {i : Int} {C : Int → Prop} (h : C i) : IsI (.int i) C := ⟨i, rfl, h⟩
theorem ok_neg (k : Ev (f e) fun r e => Ok (look e r) fun d => IsI d fun i => P2 (.val (.int (-i))) e) : Ev (fNeg f e) P2 := by
  refine ev_bind (ev_of k fun p e ⟨d, h1, b, h2, h3⟩ => ?_)
  subst h2
  simp only [h1]
  exact ev_some h3
theorem ok_testV {f : FV} (k : Ev (f e) fun r e => IsBr r fun b => P3 b e) : Ev (fTestV f e) P3 := by
  refine ev_bind (ev_of k fun p e ⟨b, h1, h2⟩ => ?_)
  simp only [h1]
  exact ev_some h2
theorem ok_truth (k : Ev (f e) fun r e => Ok (look e r) fun d => Ok (truthD d) fun b => P3 b e) : Ev (fTruth f e) P3 := ev_bind (ev_of k fun _ _ z => evO_bind (ok_of z fun _ z => evO_map z))
theorem ok_truthD {d : D} {b : Bool} {P : Bool → Prop} (h : truthD d = some b) (k : P b) : Ok (truthD d) P := ok_rfl h k
section
variable {s t : FT}
theorem ok_gAnd (k : Ev (s e) fun b e => Br b (Ev (t e) P3) (P3 false e)) : Ev (gAnd s t e) P3 := by
  refine ev_bind (ev_of k fun p e ⟨h3, h4⟩ => ?_)
  cases p with
  | true => exact h3 rfl
  | false => exact ev_some (h4 rfl)
theorem ok_gOr (k : Ev (s e) fun b e => Br b (P3 true e) (Ev (t e) P3)) : Ev (gOr s t e) P3 := by
  refine ev_bind (ev_of k fun p e ⟨h3, h4⟩ => ?_)
  cases p with
  | true => exact ev_some (h3 rfl)
  | false => exact h4 rfl
theorem ok_gNot (k : Ev (s e) fun b e => P3 (!b) e) : Ev (gNot s e) P3 := ev_map k
theorem ok_gYes (k : P3 true e) : Ev (gYes e) P3 := ev_some k
theorem ok_if (k : Ev (s e) fun b e => Br b (Ev (f e) P1) (Ev (g e) P1)) : Ev (fIf s f g e) P1 := by
  refine ev_bind (ev_of k fun p e ⟨h3, h4⟩ => ?_)
  cases p with
  | true => exact h3 rfl
  | false => exact h4 rfl
theorem ok_sIf {u v : FS} (k : Ev (s e) fun b e => Br b (Ok (u e) P5) (Ok (v e) P5)) : Ok (sIf s u v e) P5 := by
  refine okE_bind (ev_of k fun p e ⟨h3, h4⟩ => ?_)
  cases p with
  | true => exact h3 rfl
  | false => exact h4 rfl
end
theorem ok_chain (k : Ev (f e) fun r1 e => Ev (g e) fun r2 e => Ok (look e r1) fun a => Ok (look e r2) fun b => Ok (op a b) fun r => IsBr r fun c =>
    Br c (Ev (h e) fun r3 e => Ok (look e r2) fun b => Ok (look e r3) fun c => Ok (op' b c) fun z => P2 z e) (P2 (.val (.bool false)) e)) : Ev (fChain op op' f g h e) P2 := by
  refine ev_bind (ev_of k fun _ _ z => ev_bind (ev_of z fun _ _ z => evO_bind (ok_of z fun _ z => evO_bind (ok_of z fun _ z => ?_))))
  obtain ⟨r, h1, b, h2, h3, h4⟩ := z
  subst h2
  simp only [h1]
  cases b with
  | true => exact ev_bind (ev_of (h3 rfl) fun _ _ z => evO_bind (ok_of z fun _ z => evO_bind (ok_of z fun _ z => evO_map z)))
  | false => exact ev_some (h4 rfl)
theorem ok_nil (k : P4 [] e) : Ev (fNil e) P4 := ev_some k
theorem ok_cons {g : FA} (k : Ev (f e) fun r e => Ev (g e) fun rs e => P4 (r :: rs) e) : Ev (fCons f g e) P4 := ev_bind (ev_of k fun _ _ z => ev_map z)
theorem ok_okLen {n : Nat} {r : Res} {P : Res → Prop} (h : n ≤ SZ) (k : P r) : Ok (okLen n r) P := ⟨r, by unfold okLen; rw [if_pos h], k⟩
theorem ok_tup {g : FA} (k : Ev (g e) fun rs e => Ev (frzs e rs) fun ds e => Ok (okLen ds.length (.val (.tuple ds))) fun r => P2 r e) : Ev (fTup g e) P2 := ev_bind (ev_of k fun _ _ z => ev_bind (ev_of z fun _ _ z => evO_map z))
theorem ok_lst {g : FA} (k : Ev (g e) fun rs e => Ev (frzs e rs) fun ds e => Ok (okLen ds.length (.fresh (.list ds))) fun r => P2 r e) : Ev (fLst g e) P2 := ev_bind (ev_of k fun _ _ z => ev_bind (ev_of z fun _ _ z => evO_map z))
theorem ok_no (k : P6 none e) : Ev (fNo e) P6 := ev_some k
theorem ok_at (k : Ev (f e) fun r e => Ok (look e r) fun d => IsI d fun i => P6 (some i) e) : Ev (fAt f e) P6 := by
  refine ev_bind (ev_of k fun p e ⟨d, h1, b, h2, h3⟩ => ?_)
  subst h2
  simp only [h1]
  exact ev_some h3
theorem ok_fCut {g h : FO} (k : Ev (f e) fun r e => Ev (g e) fun lo e => Ev (h e) fun hi e => Ok (look e r) fun a => Ok (sCut a lo hi) fun z => P2 z e) : Ev (fCut f g h e) P2 :=
  ev_bind (ev_of k fun _ _ z => ev_bind (ev_of z fun _ _ z => ev_bind (ev_of z fun _ _ z => evO_bind (ok_of z fun _ z => evO_map z))))
theorem ok_cutL {a : List D} {lo hi : Option Int} {P : Res → Prop} (k : P (.fresh (.list (cutD a lo hi)))) : Ok (sCut (.list a) lo hi) P := ok_rfl rfl k
theorem ok_cutT {a : List D} {lo hi : Option Int} {P : Res → Prop} (k : P (.val (.tuple (cutD a lo hi)))) : Ok (sCut (.tuple a) lo hi) P := ok_rfl rfl k
theorem ok_un {op : D → Option Res} (k : Ev (f e) fun r e => Ok (look e r) fun a => Ok (op a) fun z => P2 z e) : Ev (fUn op f e) P2 := ev_bind (ev_of k fun _ _ z => evO_bind (ok_of z fun _ z => evO_map z))
theorem ok_blt {op : List D → Option Res} {g : FA} (k : Ev (g e) fun rs e => Ok (looks e rs) fun ds => Ok (op ds) fun z => P2 z e) : Ev (fBlt op g e) P2 := ev_bind (ev_of k fun _ _ z => evO_bind (ok_of z fun _ z => evO_map z))
theorem ok_isi {ts : List Ty} (k : Ev (f e) fun r e => Ok (look e r) fun d => isDct d = false ∧ P2 (.val (.bool (ts.any fun t => isTy d t))) e) : Ev (fIsi ts f e) P2 := ev_bind (ev_of k fun _ _ z => evO_bind (ok_of z fun d ⟨h1, h2⟩ => by rw [if_neg (by rw [h1]; exact Bool.false_ne_true)]; exact ev_some h2))
theorem ok_call {m : Fn} {g : FA} (k : Ev (g e) fun rs e => Ok (lent e rs) fun as => Ev (m as) fun z os => Ok (back e rs os) fun e' => P2 z e') : Ev (fCall m g e) P2 :=
  ev_bind (ev_of k fun _ _ z => evO_bind (ok_of z fun _ z => ev_bind (ev_of z fun _ _ z => evO_map z)))
/-- how a def ends -/
def FnEnd (as : List Slot) (P : Res → List Slot → Prop) : Fl → Prop
  | .ret r e => P r (fixO as e)
  | .next e => P (.val .none) (fixO as e)
  | _ => False
theorem ok_fn {n : Nat} {g : FS} {as : List Slot} {P : Res → List Slot → Prop} (k : Ok (g (as ++ List.replicate (n - as.length) .dead)) (FnEnd as P)) : Ev (mkFn n g as) P := by
  obtain ⟨fl, h1, h2⟩ := k
  unfold mkFn
  rw [h1]
  cases fl with
  | ret r e => exact ev_some h2
  | next e => exact ev_some h2
  | brk e => exact h2.elim
  | cont e => exact h2.elim
theorem fnEnd_ret {as o : List Slot} {P : Res → List Slot → Prop} {r : Res} {e : En} (h : fixO as e = o) (k : P r o) : FnEnd as P (.ret r e) := by subst h; exact k
theorem fnEnd_next {as o : List Slot} {P : Res → List Slot → Prop} {e : En} (h : fixO as e = o) (k : P (.val .none) o) : FnEnd as P (.next e) := by subst h; exact k
/-- what follows -/
def Then (h : FS) (P : Fl → Prop) : Fl → Prop
  | .next e => Ok (h e) P
  | fl => P fl
theorem then_next {h : FS} (k : Ok (h e) P5) : Then h P5 (.next e) := k
theorem then_ret {h : FS} {r : Res} (k : P5 (.ret r e)) : Then h P5 (.ret r e) := k
theorem then_cont {h : FS} (k : P5 (.cont e)) : Then h P5 (.cont e) := k
theorem then_brk {h : FS} (k : P5 (.brk e)) : Then h P5 (.brk e) := k
theorem ok_seq {u v : FS} (k : Ok (u e) (Then v P5)) : Ok (sSeq u v e) P5 := by
  refine ok_bindI (ok_of k fun fl z => ?_)
  cases fl with
  | next e => exact z
  | ret r e => exact ok_some z
  | brk e => exact ok_some z
  | cont e => exact ok_some z
theorem ok_next (k : P5 (.next e)) : Ok (sNext e) P5 := ok_some k
theorem ok_sBrk (k : P5 (.brk e)) : Ok (sBrk e) P5 := ok_some k
theorem ok_sCont (k : P5 (.cont e)) : Ok (sCont e) P5 := ok_some k
theorem ok_expr {f : FV} (k : Ev (f e) fun r e => P5 (.next e)) : Ok (sExpr f e) P5 := okE_map k
theorem ok_ret {f : FV} (k : Ev (f e) fun r e => P5 (.ret r e)) : Ok (sRet f e) P5 := okE_map k
theorem ok_set {i : Nat} {f : FV} (k : Ev (f e) fun r e => Ok (putV i (setR r) e) fun e => P5 (.next e)) : Ok (sSet i f e) P5 := okE_bind (ev_of k fun _ _ z => ok_mapI z)
def IsV (r : Res) (C : D → Prop) : Prop := ∃ d, r = .val d ∧ C d
theorem isV {d : D} {C : D → Prop} (h : C d) : IsV (.val d) C := ⟨d, rfl, h⟩
theorem ok_asg {gt : FG} {f : FV} (k : Ev (f e) fun r e => IsV r fun d => Ok (gt d e) fun e => P5 (.next e)) : Ok (sAsg gt f e) P5 := by
  refine okE_bind (ev_of k fun p e ⟨d, h1, h2⟩ => ?_)
  simp only [h1]
  exact ok_mapI h2
theorem ok_par {i j : Nat} {f f2 : FV} (k : Ev (f e) fun r e => Ev (f2 e) fun s e => Ok (putV i (setR r) e) fun e => Ok (putV j (setR s) e) fun e => P5 (.next e)) : Ok (sPar i j f f2 e) P5 :=
  okE_bind (ev_of k fun _ _ z => okE_bind (ev_of z fun _ _ z => ok_bindI (ok_of z fun _ z => ok_mapI z)))
/-- an own list stands at i -/
def IsO (e : En) (i : Nat) (C : Bool → List D → Prop) : Prop := ∃ b l, e[i]? = some (.own b (.list l)) ∧ C b l
theorem isO {i : Nat} {b : Bool} {l : List D} {C : Bool → List D → Prop} (h : e[i]? = some (.own b (.list l))) (k : C b l) : IsO e i C := ⟨b, l, h, k⟩
def SetE (e : En) (i : Nat) (s : Slot) (C : En → Prop) : Prop := C (e.set i s)
theorem setE {i : Nat} {s : Slot} {e' : En} {C : En → Prop} (h : e.set i s = e') (k : C e') : SetE e i s C := by subst h; exact k
theorem ok_append {i : Nat} (k : IsO e i fun _ _ => Ev (f e) fun r e => Ev (frz e r) fun d e => IsO e i fun b l => l.length < SZ ∧ SetE e i (.own b (.list (l ++ [d]))) fun e => P2 (.val .none) e) : Ev (fAppend i f e) P2 := by
  obtain ⟨b, l, h, k⟩ := k
  unfold fAppend
  rw [h]
  refine ev_bind (ev_of k fun _ _ z => ev_bind (ev_of z fun q e ⟨b, l, h1, h2, h3⟩ => ?_))
  simp only [h1, if_pos h2]
  exact ev_some h3
theorem ok_pop {i : Nat} (k : IsO e i fun b l => Ok (l[l.length - 1]?) fun d => SetE e i (.own b (.list l.dropLast)) fun e => P2 (.val d) e) : Ev (fPop i e) P2 := by
  obtain ⟨b, l, h, k⟩ := k
  unfold fPop
  simp only [h]
  exact evO_map k
theorem ok_setIx {i : Nat} {fi : FE} {f : FV} (k : Ev (f e) fun r e => IsV r fun d => IsO e i fun _ _ => Ev (fi e) fun r e => Ok (look e r) fun c => IsI c fun k => IsO e i fun b l => Ok (ixN l.length k) fun j => SetE e i (.own b (.list (l.set j d))) fun e => P5 (.next e)) : Ok (sSetIx i fi f e) P5 := by
  refine okE_bind (ev_of k fun p e ⟨d, h1, b, l, h2, h3⟩ => ?_)
  simp only [h1, h2]
  refine okE_bind (ev_of h3 fun q e ⟨c, h4, k, h5, b, l, h6, h7⟩ => ?_)
  subst h5
  simp only [h4, h6]
  exact ok_mapI h7
theorem ok_lstR {g : FI} (k : Ev (g e) fun l e => l.length ≤ SZ ∧ P2 (.fresh (.list l)) e) : Ev (fLstR g e) P2 := by
  refine ev_bind (ev_of k fun p e ⟨h1, h2⟩ => ?_)
  rw [if_pos h1]
  exact ev_some h2

/-! ### iterables -/
theorem ok_seqOf {d : D} {l : List D} {P : List D → Prop} (h : seqOf d = some l) (k : P l) : Ok (seqOf d) P := ok_rfl h k
theorem ok_iSq (k : Ev (f e) fun r e => Ev (frz e r) fun d e => Ok (seqOf d) fun l => P7 l e) : Ev (iSq f e) P7 := ev_bind (ev_of k fun _ _ z => ev_bind (ev_of z fun _ _ z => evO_map z))
theorem ok_iEn (k : Ev (iSq f e) fun l e => P7 (enumD l) e) : Ev (iEn f e) P7 := ev_map k
def IsR1 (ds : List D) (C : Int → Prop) : Prop := ∃ j, ds = [.int j] ∧ C j
def IsR2 (ds : List D) (C : Int → Int → Prop) : Prop := ∃ i j, ds = [.int i, .int j] ∧ C i j
theorem isR1 {i : Int} {C : Int → Prop} (h : C i) : IsR1 [.int i] C := ⟨i, rfl, h⟩
theorem isR2 {i j : Int} {C : Int → Int → Prop} (h : C i j) : IsR2 [.int i, .int j] C := ⟨i, j, rfl, h⟩
theorem ok_iR1 {g : FA} (k : Ev (g e) fun rs e => Ok (looks e rs) fun ds => IsR1 ds fun j => smallI j ∧ P7 (rangeD 0 j.toNat) e) : Ev (iR1 g e) P7 := by
  refine ev_bind (ev_of k fun p e ⟨ds, h1, j, h2, h3, h4⟩ => ?_)
  subst h2
  simp only [h1, if_pos h3]
  exact ev_some h4
theorem ok_iR2 {g : FA} (k : Ev (g e) fun rs e => Ok (looks e rs) fun ds => IsR2 ds fun i j => (smallI i ∧ smallI j) ∧ P7 (rangeD i (j - i).toNat) e) : Ev (iR2 g e) P7 := by
  refine ev_bind (ev_of k fun p e ⟨ds, h1, i, j, h2, h3, h5⟩ => ?_)
  subst h2
  simp only [h1, if_pos h3]
  exact ev_some h5
def IsZ (ds : List D) (C : List D → List D → Prop) : Prop := ∃ a b, (ds = [.list a, .list b] ∨ ds = [.tuple a, .tuple b]) ∧ C a b
theorem isZL {a b : List D} {C : List D → List D → Prop} (h : C a b) : IsZ [.list a, .list b] C := ⟨a, b, .inl rfl, h⟩
theorem isZT {a b : List D} {C : List D → List D → Prop} (h : C a b) : IsZ [.tuple a, .tuple b] C := ⟨a, b, .inr rfl, h⟩
theorem ok_iZp {g : FA} (k : Ev (g e) fun rs e => Ev (frzs e rs) fun ds e => IsZ ds fun a b => P7 (zipD a b) e) : Ev (iZp g e) P7 := by
  refine ev_bind (ev_of k fun p e z => ev_bind (ev_of z fun ds e ⟨a, b, h1, h2⟩ => ?_))
  rcases h1 with h1 | h1
  · subst h1; exact ev_some h2
  · subst h1; exact ev_some h2
end

/-! ### loops -/
section
variable {e : En} {P5 : Fl → Prop} {gt : FG} {g : FS}
theorem ok_for {it : FI} (k : Ev (it e) fun l e => Ok (sForGo gt g l e) P5) : Ok (sFor it gt g e) P5 := okE_bind k
/-- how a turn of a loop ends -/
def Turn (J : En → Prop) (P : Fl → Prop) : Fl → Prop
  | .next e => J e
  | .cont e => J e
  | .brk e => P (.next e)
  | .ret r e => P (.ret r e)
theorem turn_next {J : En → Prop} (k : J e) : Turn J P5 (.next e) := k
theorem turn_cont {J : En → Prop} (k : J e) : Turn J P5 (.cont e) := k
theorem turn_brk {J : En → Prop} (k : P5 (.next e)) : Turn J P5 (.brk e) := k
theorem turn_ret {J : En → Prop} {r : Res} (k : P5 (.ret r e)) : Turn J P5 (.ret r e) := k
theorem ok_forD : ∀ {ds : List D} {I : Nat → En → Prop} {e : En}, I 0 e →
    (∀ k d e, ds[k]? = some d → I k e → Ok (gt d e) fun e1 => Ok (g e1) (Turn (I (k + 1)) P5)) → (∀ e, I ds.length e → P5 (.next e)) → Ok (sForGo gt g ds e) P5
  | [], I, e, h0, _, fin => ok_some (fin e h0)
  | d :: ds, I, e, h0, st, fin => by
    refine ok_bindI (ok_of (st 0 d e rfl h0) fun e1 z => ok_bindI (ok_of z fun fl z => ?_))
    have rest : ∀ e2, I 1 e2 → Ok (sForGo gt g ds e2) P5 := fun e2 h2 => ok_forD (I := fun k => I (k + 1)) h2 (fun k d e hd hi => st (k + 1) d e (by simpa using hd) hi) fin
    cases fl with
    | next e2 => exact rest e2 z
    | cont e2 => exact rest e2 z
    | brk e2 => exact ok_some z
    | ret r e2 => exact ok_some z
/-- over the images of xs; the state is carried along -/
theorem ok_forX {α : Type} {en : α → D} {xs : List α} (I : Nat → En → Prop) (h0 : I 0 e)
    (st : ∀ k x e, xs[k]? = some x → I k e → Ok (gt (en x) e) fun e1 => Ok (g e1) (Turn (I (k + 1)) P5)) (fin : ∀ e, I xs.length e → P5 (.next e)) : Ok (sForGo gt g (xs.map en) e) P5 := by
  refine ok_forD (I := I) h0 (fun k d e hd hi => ?_) (fun e h => fin e (by simpa using h))
  rw [List.getElem?_map] at hd
  obtain ⟨x, h1, h2⟩ := Option.map_eq_some_iff.mp hd
  subst h2
  exact st k x e h1 hi
theorem ok_whileN {t : FT} : ∀ {N n : Nat} (I : Nat → En → Prop) {e : En}, I n e → n < N →
    (∀ n e, I n e → Ev (t e) fun b e => Br b (Ok (g e) (Turn (fun e2 => ∃ m, m < n ∧ I m e2) P5)) (P5 (.next e))) → Ok (sWhile t g N e) P5
  | 0, n, I, e, _, hn, _ => absurd hn (Nat.not_lt_zero _)
  | N + 1, n, I, e, hi, hn, st => by
    refine okE_bind (ev_of (st n e hi) fun p e1 ⟨h1, h2⟩ => ?_)
    cases p with
    | true =>
      refine ok_bindI (ok_of (h1 rfl) fun fl z => ?_)
      have rest : ∀ e2, (∃ m, m < n ∧ I m e2) → Ok (sWhile t g N e2) P5 := fun e2 ⟨m, hm, h⟩ => ok_whileN I h (by omega) st
      cases fl with
      | next e2 => exact rest e2 z
      | cont e2 => exact rest e2 z
      | brk e2 => exact ok_some z
      | ret r e2 => exact ok_some z
    | false => exact ok_some (h2 rfl)
end

/-! ### comprehensions -/
section
variable {e : En} {P2 : Res → En → Prop} {gt : FG} {tt : FT} {el : FE} {vs : List Nat}
def SameE (a b : En) (C : En → Prop) : Prop := C a
theorem ok_comp {it : FI} (k : Ev (it e) fun l e => freeB e vs = true ∧ Ev (compGo vs gt tt el l (wipeE e vs) []) fun r e1 => P2 (.fresh (.list r)) (mergeE e e1 vs)) : Ev (fComp vs it gt tt el e) P2 := by
  refine ev_bind (ev_of k fun p e ⟨h1, h2⟩ => ?_)
  rw [if_pos h1]
  exact ev_map h2
theorem ok_compD {P : List D → En → Prop} : ∀ {ds : List D} (I : Nat → En → List D → Prop) {e : En} {acc : List D}, I 0 e acc →
    (∀ k d e acc, ds[k]? = some d → I k e acc → Ok (gt d (wipeE e vs)) fun e => Ev (tt e) fun b e => Br b (Ev (el e) fun r e => Ev (frz e r) fun d e => acc.length < SZ ∧ I (k + 1) e (acc ++ [d])) (I (k + 1) e acc)) →
    (∀ e acc, I ds.length e acc → P acc e) → Ev (compGo vs gt tt el ds e acc) P
  | [], I, e, acc, h0, _, fin => ev_some (fin e acc h0)
  | d :: ds, I, e, acc, h0, st, fin => by
    refine evO_bind (ok_of (st 0 d e acc rfl h0) fun e1 z => ev_bind (ev_of z fun p e ⟨h1, h2⟩ => ?_))
    have rest : ∀ e2 acc, I 1 e2 acc → Ev (compGo vs gt tt el ds e2 acc) P := fun e2 acc h2 => ok_compD (fun k => I (k + 1)) h2 (fun k d e acc hd hi => st (k + 1) d e acc (by simpa using hd) hi) fin
    cases p with
    | true =>
      refine ev_bind (ev_of (h1 rfl) fun r e z => ev_bind (ev_of z fun q e ⟨h3, h4⟩ => ?_))
      rw [if_pos h3]
      exact rest _ _ h4
    | false => exact rest _ _ (h2 rfl)
/-- the block leaves the frame as it was: what it yields is a filtered map -/
theorem ok_compF {α : Type} {en : α → D} {xs : List α} {P : List D → En → Prop} {e0 : En} (F : α → Option D) (hl : xs.length ≤ SZ) (h0 : wipeE e vs = e0)
    (st : ∀ x, x ∈ xs → Ok (gt (en x) e0) fun e => Ev (tt e) fun b e => Br b (Ev (el e) fun r e => Ev (frz e r) fun d e => F x = some d ∧ wipeE e vs = e0) (F x = none ∧ wipeE e vs = e0))
    (fin : ∀ e2, wipeE e2 vs = e0 → P (xs.filterMap F) e2) : Ev (compGo vs gt tt el (xs.map en) e []) P := by
  refine ok_compD (fun k e acc => wipeE e vs = e0 ∧ acc = (xs.take k).filterMap F) ⟨h0, by simp⟩ (fun k d e acc hd ⟨h1, h2⟩ => ?_) fun e acc ⟨h1, h2⟩ => ?_
  · rw [List.getElem?_map] at hd
    obtain ⟨x, h3, h4⟩ := Option.map_eq_some_iff.mp hd
    subst h4
    rw [h1]
    obtain ⟨hk, _⟩ := List.getElem?_eq_some_iff.mp h3
    have ht : xs.take (k + 1) = xs.take k ++ [x] := by
      rw [List.take_add_one, h3]
      rfl
    refine ok_of (st x (List.mem_of_getElem? h3)) fun e1 z => ev_of z fun p e ⟨h5, h6⟩ => ⟨fun c => ev_of (h5 c) fun r e z => ev_of z fun q e ⟨h7, h8⟩ => ⟨?_, h8, ?_⟩, fun c => ⟨(h6 c).2, ?_⟩⟩
    · subst h2
      have := List.length_filterMap_le F (xs.take k)
      have : (xs.take k).length < SZ := by rw [List.length_take]; omega
      omega
    · rw [ht, List.filterMap_append, h2]
      simp [h7]
    · rw [ht, List.filterMap_append, h2]
      simp [(h6 c).1]
  · have e3 : acc = xs.filterMap F := by
      rw [h2, List.length_map, List.take_length]
    subst e3
    exact fin e h1
theorem ok_compM {α : Type} {en : α → D} {xs : List α} {P : List D → En → Prop} {e0 : En} (F : α → D) (hl : xs.length ≤ SZ) (h0 : wipeE e vs = e0)
    (st : ∀ x, x ∈ xs → Ok (gt (en x) e0) fun e => Ev (tt e) fun b e => Br b (Ev (el e) fun r e => Ev (frz e r) fun d e => F x = d ∧ wipeE e vs = e0) False)
    (fin : ∀ e2, wipeE e2 vs = e0 → P (xs.map F) e2) : Ev (compGo vs gt tt el (xs.map en) e []) P := by
  refine ok_compF (F := fun x => some (F x)) hl h0 (fun x hx => ok_of (st x hx) fun e1 z => ev_of z fun p e ⟨h1, h2⟩ => ⟨fun c => ev_of (h1 c) fun r e z => ev_of z fun q e ⟨h3, h4⟩ => ⟨by rw [h3], h4⟩, fun c => (h2 c).elim⟩) fun e2 h2 => ?_
  have := fin e2 h2
  rwa [← List.filterMap_eq_map] at this
/-- behind a block that left the frame as it was -/
theorem merge_back (e : En) : ∀ {vs : List Nat} {e1 : En}, wipeE e1 vs = wipeE e vs → mergeE e e1 vs = e := by
  intro vs e1 h
  refine List.ext_getElem? fun i => ?_
  have h1 : (wipeE e1 vs)[i]? = (wipeE e vs)[i]? := by rw [h]
  have h2 : e1.length = e.length := by
    have := congrArg List.length h
    rwa [wipeE_len, wipeE_len] at this
  rw [wipeE_get, wipeE_get] at h1
  rw [mergeE_get e e1 h2.symm]
  split
  · rfl
  · rename_i c
    rwa [if_neg c, if_neg c] at h1
end

/-! ### operators by their kinds -/
section
variable {P : Res → Prop} {i j : Int} {a b : List D} {x y : D}
theorem ok_addI (k : P (.val (.int (i + j)))) : Ok (vAdd (.int i) (.int j)) P := ok_rfl rfl k
theorem ok_addT (h : a.length + b.length ≤ SZ) (k : P (.val (.tuple (a ++ b)))) : Ok (vAdd (.tuple a) (.tuple b)) P := ok_rfl (by show ((okLen (a.length + b.length) (.val (.tuple (a ++ b)))).or none) = _; unfold okLen; rw [if_pos h]; rfl) k
theorem ok_addL (h : a.length + b.length ≤ SZ) (k : P (.fresh (.list (a ++ b)))) : Ok (vAdd (.list a) (.list b)) P := ok_rfl (by show okLen (a.length + b.length) (.fresh (.list (a ++ b))) = _; unfold okLen; rw [if_pos h]) k
theorem ok_subI (k : P (.val (.int (i - j)))) : Ok (pSub (.int i) (.int j)) P := ok_rfl rfl k
theorem ok_mulI (h : mulOk i j) (k : P (.val (.int (i * j)))) : Ok (vMul (.int i) (.int j)) P := ok_rfl (by
  show ((if mulOk i j then some (PyData.int (i * j)) else none).map Res.val).or _ = _
  rw [if_pos h]; rfl) k
theorem ok_mulL (h : -(2 ^ 63) ≤ j ∧ j < 2 ^ 63) (h2 : a.length * j.toNat ≤ SZ) (k : P (.fresh (.list (List.replicate j.toNat a).flatten))) : Ok (vMul (.list a) (.int j)) P := ok_rfl (by
  show (if -(2 ^ 63) ≤ j ∧ j < 2 ^ 63 then okLen (a.length * j.toNat) (.fresh (.list (List.replicate j.toNat a).flatten)) else none) = _
  rw [if_pos h]
  unfold okLen
  rw [if_pos h2]) k
theorem ok_modI (h : 0 < j) (k : P (.val (.int (i % j)))) : Ok (pMod (.int i) (.int j)) P := ok_rfl (by
  show (if 0 < j then some (PyData.int (i % j)) else none).map Res.val = _
  rw [if_pos h]; rfl) k
theorem ok_divI (h : 0 < j ∧ j < 1073741824) (k : P (.val (.int (i / j)))) : Ok (pDiv (.int i) (.int j)) P := ok_rfl (by
  show (if 0 < j ∧ j < 1073741824 then some (PyData.int (i / j)) else none).map Res.val = _
  rw [if_pos h]; rfl) k
theorem ok_powI (h : 0 ≤ j ∧ j ≤ 1000000 ∧ i.natAbs < 2 ^ 64) (k : P (.val (.int (i ^ j.toNat)))) : Ok (pPow (.int i) (.int j)) P := ok_rfl (by
  show (if 0 ≤ j ∧ j ≤ 1000000 ∧ i.natAbs < 2 ^ 64 then some (PyData.int (i ^ j.toNat)) else none).map Res.val = _
  rw [if_pos h]; rfl) k
theorem ok_ltI (k : P (.val (.bool (decide (i < j))))) : Ok (pLt (.int i) (.int j)) P := ok_rfl rfl k
theorem ok_leI (k : P (.val (.bool (decide (i ≤ j))))) : Ok (pLe (.int i) (.int j)) P := ok_rfl rfl k
theorem ok_gtI (k : P (.val (.bool (decide (j < i))))) : Ok (pGt (.int i) (.int j)) P := ok_rfl rfl k
theorem ok_geI (k : P (.val (.bool (decide (j ≤ i))))) : Ok (pGe (.int i) (.int j)) P := ok_rfl rfl k
theorem ok_eqI (k : P (.val (.bool (i == j)))) : Ok (sEq (.int i) (.int j)) P := ok_rfl rfl k
theorem ok_neI (k : P (.val (.bool (!(i == j))))) : Ok (sNe (.int i) (.int j)) P := ok_rfl rfl k
theorem ok_eqB {a b : Bool} (k : P (.val (.bool (a == b)))) : Ok (sEq (.bool a) (.bool b)) P := ok_rfl rfl k
theorem ok_neB {a b : Bool} (k : P (.val (.bool (!(a == b))))) : Ok (sNe (.bool a) (.bool b)) P := ok_rfl rfl k
theorem ok_eqD (h : SeqAt.shaped x = true) (h2 : SeqAt.shaped y = true) (k : P (.val (.bool (PyData.eqv x y)))) : Ok (sEq x y) P := ok_rfl (by unfold sEq; rw [if_pos ⟨h, h2⟩]) k
theorem ok_neD (h : SeqAt.shaped x = true) (h2 : SeqAt.shaped y = true) (k : P (.val (.bool (!PyData.eqv x y)))) : Ok (sNe x y) P := ok_rfl (by unfold sNe; rw [if_pos ⟨h, h2⟩]) k
theorem eqv_nil : ∀ a : List D, PyData.eqv (.list a) (.list []) = a.isEmpty
  | [] => rfl
  | _ :: _ => rfl
theorem ok_neNil (h : SeqAt.shaped (.list a) = true) (k : P (.val (.bool (!a.isEmpty)))) : Ok (sNe (.list a) (.list [])) P := ok_neD h rfl (by rw [eqv_nil]; exact k)
theorem ok_eqNil (h : SeqAt.shaped (.list a) = true) (k : P (.val (.bool a.isEmpty))) : Ok (sEq (.list a) (.list [])) P := ok_eqD h rfl (by rw [eqv_nil]; exact k)
theorem ok_isN {neg : Bool} {r : Res} (h : sIsN neg x y = some r) (k : P r) : Ok (sIsN neg x y) P := ok_rfl h k
theorem ok_ixL {d : D} (h : atI a i = some d) (k : P (.val d)) : Ok (sIx (.list a) (.int i)) P := ok_rfl (by show (atI a i).map _ = _; rw [h]; rfl) k
theorem ok_ixT {d : D} (h : atI a i = some d) (k : P (.val d)) : Ok (sIx (.tuple a) (.int i)) P := ok_rfl (by show (atI a i).map _ = _; rw [h]; rfl) k
theorem ok_one {f : D → Option Res} (k : Ok (f x) P) : Ok (one f [x]) P := k
theorem ok_lenL (k : P (.val (.int a.length))) : Ok (sLen (.list a)) P := ok_rfl rfl k
theorem ok_lenT (k : P (.val (.int a.length))) : Ok (sLen (.tuple a)) P := ok_rfl rfl k
theorem ok_intI (k : P (.val (.int i))) : Ok (sInt (.int i)) P := ok_rfl rfl k
theorem ok_listL (k : P (.fresh (.list a))) : Ok (sList (.list a)) P := ok_rfl rfl k
theorem ok_listT (k : P (.fresh (.list a))) : Ok (sList (.tuple a)) P := ok_rfl rfl k
theorem ok_tupleL (k : P (.val (.tuple a))) : Ok (sTuple (.list a)) P := ok_rfl rfl k
theorem ok_tupleT (k : P (.val (.tuple a))) : Ok (sTuple (.tuple a)) P := ok_rfl rfl k
theorem ok_max2 (k : P (.val (.int (if j > i then j else i)))) : Ok (sMax2 [.int i, .int j]) P := ok_rfl rfl k
theorem ok_min2 (k : P (.val (.int (if j < i then j else i)))) : Ok (sMin2 [.int i, .int j]) P := ok_rfl rfl k
theorem ok_sRev {r : Res} (h : sRev x = some r) (k : P r) : Ok (sRev x) P := ok_rfl h k
theorem ok_sumL {ns : List Int} (h : a = ns.map PyData.int) (k : P (.val (.int ns.sum))) : Ok (sSum (.list a)) P := by subst h; exact ok_rfl (show (intsOf _).map _ = _ by rw [intsOf_map]; rfl) k
theorem ok_sumT {ns : List Int} (h : a = ns.map PyData.int) (k : P (.val (.int ns.sum))) : Ok (sSum (.tuple a)) P := by subst h; exact ok_rfl (show (intsOf _).map _ = _ by rw [intsOf_map]; rfl) k
theorem ok_allL {bs : List Bool} (h : a = bs.map PyData.bool) (k : P (.val (.bool (bs.all id)))) : Ok (sAll (.list a)) P := by subst h; exact ok_rfl (show (boolsOf _).map _ = _ by rw [boolsOf_map]; rfl) k
theorem ok_anyL {bs : List Bool} (h : a = bs.map PyData.bool) (k : P (.val (.bool (bs.any id)))) : Ok (sAny (.list a)) P := by subst h; exact ok_rfl (show (boolsOf _).map _ = _ by rw [boolsOf_map]; rfl) k
theorem ok_maxL {ns : List Int} (h : a = ns.map PyData.int) (hn : ns ≠ []) (k : P (.val (.int (maxI ns)))) : Ok (sMax (.list a)) P := by
  subst h
  refine ok_rfl (show (intsOf _).bind _ = _ by rw [intsOf_map]; exact if_neg (by simpa using hn)) k
theorem ok_minL {ns : List Int} (h : a = ns.map PyData.int) (hn : ns ≠ []) (k : P (.val (.int (minI ns)))) : Ok (sMin (.list a)) P := by
  subst h
  refine ok_rfl (show (intsOf _).bind _ = _ by rw [intsOf_map]; exact if_neg (by simpa using hn)) k
theorem ok_in {neg : Bool} {l : List D} (h : seqOf y = some l) (h1 : flatD x = true) (h2 : l.all flatD = true) (k : P (.val (.bool (if neg then !(l.any fun y => PyData.eqv y x) else l.any fun y => PyData.eqv y x)))) : Ok (sIn neg x y) P :=
  ok_rfl (show (seqOf y).bind _ = _ by rw [h]; exact if_pos ⟨h1, h2⟩) k
end
/-- a def answers r, and gives its arguments back as they were -/
def Rt (m : Fn) (as : List Slot) (r : Res) : Prop := m as = some (r, as)
theorem rt_ev {m : Fn} {as : List Slot} {r : Res} (h : Ev (m as) fun z o => z = r ∧ o = as) : Rt m as r := by
  obtain ⟨z, o, h1, rfl, rfl⟩ := h
  exact h1
theorem ok_rt {m : Fn} {as : List Slot} {r : Res} {P : Res → List Slot → Prop} (h : Rt m as r) (k : P r as) : Ev (m as) P := ev_rfl h k
theorem ok_fnP {n : Nat} {g : FS} {as : List Slot} {e0 : En} {P : Res → List Slot → Prop} (h : as ++ List.replicate (n - as.length) .dead = e0) (k : Ok (g e0) (FnEnd as P)) : Ev (mkFn n g as) P := by
  subst h
  exact ok_fn k
/-! ### marks: what kind of goal stands -/
theorem mk1 {x : Option (R × En)} {P : R → En → Prop} (h : Ev x P) : Ev x P := h
theorem mk2 {x : Option (Res × En)} {P : Res → En → Prop} (h : Ev x P) : Ev x P := h
theorem mk3 {x : Option (Bool × En)} {P : Bool → En → Prop} (h : Ev x P) : Ev x P := h
theorem mk4 {x : Option (List R × En)} {P : List R → En → Prop} (h : Ev x P) : Ev x P := h
theorem mk5 {x : Option Fl} {P : Fl → Prop} (h : Ok x P) : Ok x P := h
theorem mk6 {x : Option (Option Int × En)} {P : Option Int → En → Prop} (h : Ev x P) : Ev x P := h
theorem mk7 {x : Option (List D × En)} {P : List D → En → Prop} (h : Ev x P) : Ev x P := h
theorem mk8 {x : Option Res} {P : Res → Prop} (h : Ok x P) : Ok x P := h
theorem mk9 {x : Option D} {P : D → Prop} (h : Ok x P) : Ok x P := h
theorem mkE {x : Option En} {P : En → Prop} (h : Ok x P) : Ok x P := h
theorem ok_seqK {u v : FS} {e : En} {P : Fl → Prop} (Q : En → Prop) (k : Ok (u e) fun fl => ∃ e', fl = .next e' ∧ Q e') (h : ∀ e', Q e' → Ok (v e') P) : Ok (sSeq u v e) P := by
  refine ok_seq (ok_of k fun fl ⟨e', h1, h2⟩ => ?_)
  subst h1
  exact h e' h2
theorem fl_next {e : En} {Q : En → Prop} (h : Q e) : ∃ e', Fl.next e = .next e' ∧ Q e' := ⟨e, rfl, h⟩
end DL

set_option Elab.async false
set_option linter.all false
set_option maxRecDepth 100000
set_option maxHeartbeats 2000000
/-! DL15: what the laws' pure parts share. -/
namespace DL
open PySem PySem.Spec PyProof.Rows L2
theorem br_dec {c : Prop} [Decidable c] {A B : Prop} (h : c → A) (k : ¬c → B) : Br (decide c) A B := ⟨fun z => h (by simpa using z), fun z => k (by simpa using z)⟩
/-- what the law's feed holds behind n draws -/
def Feed (n : Nat) (l : List D) : Prop := ∃ a b c : Int, l = [.int a, .int b, .int c] ∧ 0 ≤ b ∧ b < 2 ^ 140 ∧ 0 ≤ c ∧ c ≤ n
theorem Feed.mono {n m : Nat} {l : List D} (h : Feed n l) (k : n ≤ m) : Feed m l := by
  obtain ⟨a, b, c, h1, h2, h3, h4, h5⟩ := h
  exact ⟨a, b, c, h1, h2, h3, h4, by omega⟩
theorem mulS {i j : Int} (h : (-(2 ^ 64) < i ∧ i < 2 ^ 64) ∨ (-(2 ^ 64) < j ∧ j < 2 ^ 64)) : mulOk i j := .inl h
theorem mulW {i j : Int} (hi : 0 ≤ i ∧ i < 2 ^ 400) (hj : 0 ≤ j ∧ j < 2 ^ 400) : mulOk i j := by
  have h1 : i.natAbs < 2 ^ 400 := by have := hi.2; omega
  have h2 : j.natAbs < 2 ^ 400 := by have := hj.2; omega
  exact .inr (wide_mul h1 h2 (by decide) (by decide) (by decide))
theorem mul_lt {i j : Int} {a b : Nat} (hi : 0 ≤ i ∧ i < 2 ^ a) (hj : 0 ≤ j ∧ j < 2 ^ b) : 0 ≤ i * j ∧ i * j < 2 ^ (a + b) := by
  refine ⟨Int.mul_nonneg hi.1 hj.1, ?_⟩
  have h1 : i * j ≤ (2 ^ a) * j := Int.mul_le_mul_of_nonneg_right (Int.le_of_lt hi.2) hj.1
  have h2 : (2 : Int) ^ a * j < 2 ^ a * 2 ^ b := Int.mul_lt_mul_of_pos_left hj.2 (Int.pow_pos (by decide))
  rw [Int.pow_add]
  omega
theorem mod_rng {i j : Int} (h : 0 < j) : 0 ≤ i % j ∧ i % j < j := ⟨Int.emod_nonneg _ (by omega), Int.emod_lt_of_pos _ h⟩
/-! ### slices -/
def cutG {α : Type} (l : List α) (lo hi : Option Int) : List α := (l.drop (HT.sIx l.length 0 lo)).take (HT.sIx l.length l.length hi - HT.sIx l.length 0 lo)
theorem cut_map {α : Type} (f : α → D) (l : List α) (lo hi : Option Int) : cutD (l.map f) lo hi = (cutG l lo hi).map f := by
  unfold cutD cutG
  rw [List.length_map, ← List.map_drop, ← List.map_take]
theorem cut_to {α : Type} (l : List α) {k : Int} (h : 0 ≤ k) : cutG l none (some k) = l.take k.toNat := by
  obtain ⟨n, rfl⟩ := Int.eq_ofNat_of_zero_le h
  unfold cutG
  rw [HT.sIx_nat, HT.sIx_none]
  simp only [List.drop_zero, Nat.sub_zero, Int.toNat_natCast]
  rw [List.take_eq_take_iff]
  omega
theorem cut_from {α : Type} (l : List α) {k : Int} (h : 0 ≤ k) : cutG l (some k) none = l.drop k.toNat := by
  obtain ⟨n, rfl⟩ := Int.eq_ofNat_of_zero_le h
  unfold cutG
  rw [HT.sIx_nat, HT.sIx_none]
  simp only [Int.toNat_natCast]
  by_cases c : n ≤ l.length
  · rw [Nat.min_eq_left c, ← List.length_drop, List.take_length]
  · rw [Nat.min_eq_right (by omega), List.drop_eq_nil_of_le (by omega), List.drop_eq_nil_of_le (by omega)]
    simp
theorem atI_nat {α : Type} (l : List α) {k : Int} (h : 0 ≤ k) : atI l k = l[k.toNat]? := by
  unfold atI ixN
  rw [if_pos h]
  split
  · rfl
  · rename_i c
    rw [List.getElem?_eq_none (by omega)]
    rfl
theorem atI_last {α : Type} (l : List α) (h : l ≠ []) : atI l (-1) = l[l.length - 1]? := by
  have : 0 < l.length := List.length_pos_iff.mpr h
  unfold atI ixN
  rw [if_neg (by decide), if_pos (by omega)]
  show l[((-1 : Int) + (l.length : Int)).toNat]? = _
  congr 1
  omega
/-! ### plain data -/
mutual
theorem eqv_refl : ∀ d : D, d.canLay0 = true → PyData.eqv d d = true
  | .none, _ => rfl
  | .bool b, _ => by simp [PyData.eqv]
  | .int i, _ => by simp [PyData.eqv]
  | .str x, _ => by simp [PyData.eqv]
  | .list l, h => by
    show PyData.eqvAll l l = true
    exact eqvAll_refl l h
  | .tuple l, h => by
    show PyData.eqvAll l l = true
    exact eqvAll_refl l h
  | .dict _, h => by cases h
theorem eqvAll_refl : ∀ l : List D, PyData.canLayAll0 l = true → PyData.eqvAll l l = true
  | [], _ => rfl
  | x :: xs, h => by
    have h' : (x.canLay0 && PyData.canLayAll0 xs) = true := h
    rw [Bool.and_eq_true] at h'
    show (PyData.eqv x x && PyData.eqvAll xs xs) = true
    rw [eqv_refl x h'.1, eqvAll_refl xs h'.2]
    rfl
end
theorem lay_mem : ∀ {l : List D}, PyData.canLayAll0 l = true → ∀ x ∈ l, x.canLay0 = true
  | x :: xs, h, y, hy => by
    have h' : (x.canLay0 && PyData.canLayAll0 xs) = true := h
    rw [Bool.and_eq_true] at h'
    rcases List.mem_cons.mp hy with rfl | hy
    · exact h'.1
    · exact lay_mem h'.2 y hy
theorem depth_mem : ∀ {l : List D}, ∀ x ∈ l, x.depth ≤ PyData.depthAll l
  | x :: xs, y, hy => by
    show y.depth ≤ max x.depth (PyData.depthAll xs)
    rcases List.mem_cons.mp hy with rfl | hy
    · exact Nat.le_max_left _ _
    · exact Nat.le_trans (depth_mem y hy) (Nat.le_max_right _ _)
theorem zip_self (l : List D) : zipD l l = l.map fun x => .tuple [x, x] := by
  unfold zipD
  induction l with
  | nil => rfl
  | cons x xs ih => simp only [List.zip_cons_cons, List.map_cons, ih]
/-- data of lists, tuples, ints, bools, None: no deeper than n -/
def Pl (n : Nat) (d : D) : Prop := d.canLay0 = true ∧ d.depth ≤ n
theorem Pl.shaped {n : Nat} {d : D} (h : Pl n d) (k : n ≤ 64) : SeqAt.shaped d = true := by
  unfold SeqAt.shaped
  rw [h.1, decide_eq_true (Nat.le_trans h.2 k)]
  rfl
theorem Pl.mono {n m : Nat} {d : D} (h : Pl n d) (k : n ≤ m) : Pl m d := ⟨h.1, Nat.le_trans h.2 k⟩
theorem pl_int (n : Nat) (i : Int) : Pl n (.int i) := ⟨rfl, Nat.zero_le _⟩
theorem pl_bool (n : Nat) (b : Bool) : Pl n (.bool b) := ⟨rfl, Nat.zero_le _⟩
theorem pl_none (n : Nat) : Pl n .none := ⟨rfl, Nat.zero_le _⟩
def Pls (n : Nat) (l : List D) : Prop := ∀ d ∈ l, Pl n d
theorem pls_nil (n : Nat) : Pls n [] := fun _ h => nomatch h
theorem pls_cons {n : Nat} {d : D} {l : List D} (h : Pl n d) (k : Pls n l) : Pls n (d :: l) := fun x hx => by
  rcases List.mem_cons.mp hx with rfl | hx
  · exact h
  · exact k x hx
theorem pls_map {α : Type} {n : Nat} {f : α → D} {l : List α} (h : ∀ x ∈ l, Pl n (f x)) : Pls n (l.map f) := fun x hx => by
  obtain ⟨y, hy, rfl⟩ := List.mem_map.mp hx
  exact h y hy
theorem pls_ints (n : Nat) (l : List Int) : Pls n (l.map .int) := pls_map fun x _ => pl_int n x
theorem lay_all : ∀ {n : Nat} {l : List D}, Pls n l → PyData.canLayAll0 l = true ∧ PyData.depthAll l ≤ n
  | n, [], _ => ⟨rfl, Nat.zero_le _⟩
  | n, x :: xs, h => by
    obtain ⟨h1, h2⟩ := lay_all (n := n) (l := xs) fun d hd => h d (List.mem_cons_of_mem _ hd)
    obtain ⟨h3, h4⟩ := h x (List.mem_cons_self ..)
    refine ⟨?_, ?_⟩
    · show (x.canLay0 && PyData.canLayAll0 xs) = true
      rw [h3, h1]; rfl
    · show max x.depth (PyData.depthAll xs) ≤ n
      omega
theorem pl_list {n : Nat} {l : List D} (h : Pls n l) : Pl (n + 1) (.list l) := ⟨(lay_all h).1, Nat.succ_le_succ (lay_all h).2⟩
theorem pl_tup {n : Nat} {l : List D} (h : Pls n l) : Pl (n + 1) (.tuple l) := ⟨(lay_all h).1, Nat.succ_le_succ (lay_all h).2⟩
theorem pl_ints (n : Nat) (l : List Int) : Pl (n + 1) (.list (l.map .int)) := pl_list (pls_ints n l)
theorem pl_intT (n : Nat) (l : List Int) : Pl (n + 1) (.tuple (l.map .int)) := pl_tup (pls_ints n l)
/-- nothing passes the test -/
theorem ok_compN {α : Type} {en : α → D} {xs : List α} {P : List D → En → Prop} {e e0 : En} {vs : List Nat} {gt : FG} {tt : FT} {el : FE} (h0 : wipeE e vs = e0)
    (st : ∀ x, x ∈ xs → Ok (gt (en x) e0) fun e => Ev (tt e) fun b e => Br b False (wipeE e vs = e0))
    (fin : ∀ e2, wipeE e2 vs = e0 → P [] e2) : Ev (compGo vs gt tt el (xs.map en) e []) P := by
  refine ok_compD (fun k e acc => wipeE e vs = e0 ∧ acc = []) ⟨h0, rfl⟩ (fun k d e acc hd ⟨h1, h2⟩ => ?_) fun e acc ⟨h1, h2⟩ => ?_
  · rw [List.getElem?_map] at hd
    obtain ⟨x, h3, h4⟩ := Option.map_eq_some_iff.mp hd
    subst h4
    rw [h1]
    exact ok_of (st x (List.mem_of_getElem? h3)) fun e1 z => ev_of z fun p e ⟨h5, h6⟩ => ⟨fun c => (h5 c).elim, fun c => ⟨h6 c, h2⟩⟩
  · subst h2
    exact fin e h1
theorem merge_bk {e e1 e0 : En} {vs : List Nat} (h : wipeE e1 vs = e0) (k : wipeE e vs = e0) : mergeE e e1 vs = e := merge_back e (h.trans k.symm)
theorem br_beq {α : Type} [BEq α] [LawfulBEq α] {x y : α} {A B : Prop} (h : x = y → A) (k : x ≠ y → B) : Br (x == y) A B := ⟨fun z => h (by simpa using z), fun z => k (by simpa using z)⟩
theorem br_bne {α : Type} [BEq α] [LawfulBEq α] {x y : α} {A B : Prop} (h : x ≠ y → A) (k : x = y → B) : Br (!(x == y)) A B := ⟨fun z => h (by simpa using z), fun z => k (by simpa using z)⟩
theorem br_nil {α : Type} {x : List α} {A B : Prop} (h : x ≠ [] → A) (k : x = [] → B) : Br (!x.isEmpty) A B := ⟨fun z => h (by simpa using z), fun z => k (by simpa using z)⟩
theorem br_both {b : Bool} {A B : Prop} (h : b = true → A) (k : b = false → B) : Br b A B := ⟨h, k⟩
theorem enum_map {α : Type} (en : α → D) (l : List α) : enumD (l.map en) = l.zipIdx.map fun p => .tuple [.int (p.2 : Nat), en p.1] := by
  refine List.ext_getElem? fun k => ?_
  unfold enumD zipD rangeD
  simp only [List.getElem?_map, List.getElem?_zip_eq_some, List.length_map, List.getElem?_zipIdx, Nat.zero_add]
  cases e : l[k]? with
  | none =>
    have := List.getElem?_eq_none_iff.mp e
    rw [List.getElem?_eq_none (by simp; omega)]
    rfl
  | some x =>
    have hk := (List.getElem?_eq_some_iff.mp e).1
    rw [show ((List.map (fun i => PyData.int (0 + (i : Nat))) (List.range l.length)).zip (l.map en))[k]? = some (.int (0 + (k : Nat)), en x) from List.getElem?_zip_eq_some.mpr ⟨by simp [hk], by simp [e]⟩]
    simp
theorem range_map (n : Nat) : rangeD 0 n = (List.range n).map fun i => .int (i : Nat) := by
  unfold rangeD
  refine List.map_congr_left fun i _ => ?_
  rw [Int.zero_add]
theorem zip_map {α β : Type} (en : α → D) (fn : β → D) (a : List α) (b : List β) : zipD (a.map en) (b.map fn) = (a.zip b).map fun p => .tuple [en p.1, fn p.2] := by
  unfold zipD
  rw [List.zip_map, List.map_map]
  rfl
set_option exponentiation.threshold 1000
theorem bnd {x : Int} (h : 0 ≤ x ∧ x < 2 ^ (142 + 142)) : 0 ≤ x ∧ x < 2 ^ 400 := ⟨h.1, Int.lt_of_lt_of_le h.2 (by decide +kernel)⟩
theorem modW {i j : Int} (h : 0 < j) (k : j ≤ 2 ^ 140) : 0 ≤ i % j ∧ i % j < 2 ^ 400 := ⟨(mod_rng h).1, Int.lt_of_lt_of_le (Int.lt_of_lt_of_le (mod_rng h).2 k) (by decide +kernel)⟩
end DL

set_option Elab.async false
set_option linter.all false
set_option maxRecDepth 100000
set_option maxHeartbeats 2000000
/-! DL26: the new mirrors read by what they answer. -/
namespace DL
open PySem PySem.Spec PyProof.Rows L2
section
variable {e : En} {f g : FE} {fv : FV} {i j : Nat} {P2 : Res → En → Prop} {P5 : Fl → Prop}
def IsTup (d : D) (C : List D → Prop) : Prop := ∃ l, d = .tuple l ∧ C l
theorem isTup {l : List D} {C : List D → Prop} (h : C l) : IsTup (.tuple l) C := ⟨l, rfl, h⟩
def IsTD (e : En) (i : Nat) (C : Bool → List (D × D) → Prop) : Prop := ∃ b es, e[i]? = some (.own b (tD es)) ∧ C b es
theorem isTD {b : Bool} {es : List (D × D)} {C : Bool → List (D × D) → Prop} (h : e[i]? = some (.own b (tD es))) (k : C b es) : IsTD e i C := ⟨b, es, h, k⟩
theorem ok_newT (k : P2 (.fresh (tD [])) e) : Ev (fNewT e) P2 := ev_some k
theorem ok_newK (k : P2 (.fresh (kD [])) e) : Ev (fNewK e) P2 := ev_some k
theorem ok_getT (k : IsTD e i fun _ _ => Ev (f e) fun r e => Ev (g e) fun s e => Ok (look e r) fun kd => IsTup kd fun l => Ev (frz e s) fun z e => IsTD e i fun _ es => l.all isK = true ∧ P2 (.val ((valE es (.tuple l)).getD z)) e) : Ev (fGetT i f g e) P2 := by
  obtain ⟨b, es, h, k⟩ := k
  unfold fGetT
  rw [h]
  refine ev_bind (ev_of k fun r e z => ev_bind (ev_of z fun s e ⟨kd, h1, l, h2, z⟩ => ?_))
  subst h2
  simp only [h1]
  refine ev_bind (ev_of z fun z e ⟨b, es, h3, h4, h5⟩ => ?_)
  simp only [h3, if_pos h4]
  exact ev_some h5
theorem ok_ixDT (k : IsTD e i fun _ _ => Ev (f e) fun r e => Ok (look e r) fun kd => IsTup kd fun l => IsTD e i fun _ es => l.all isK = true ∧ Ok (valE es (.tuple l)) fun d => P2 (.val d) e) : Ev (fIxT i f e) P2 := by
  obtain ⟨b, es, h, k⟩ := k
  unfold fIxT
  rw [h]
  refine ev_bind (ev_of k fun r e ⟨kd, h1, l, h2, b, es, h3, h4, h5⟩ => ?_)
  subst h2
  simp only [h1, h3, if_pos h4]
  exact evO_map h5
theorem ok_inDT {neg : Bool} (k : Ev (f e) fun r e => Ok (look e r) fun kd => IsTup kd fun l => IsTD e i fun _ es => l.all isK = true ∧ P2 (.val (.bool (if neg then !(valE es (.tuple l)).isSome else (valE es (.tuple l)).isSome))) e) : Ev (fInT neg f i e) P2 := by
  refine ev_bind (ev_of k fun r e ⟨kd, h1, l, h2, b, es, h3, h4, h5⟩ => ?_)
  subst h2
  simp only [h1, h3, if_pos h4]
  exact ev_some h5
theorem ok_putT (k : Ev (fv e) fun r e => IsV r fun d => IsTD e i fun _ _ => Ev (f e) fun r e => Ok (look e r) fun kd => IsTup kd fun l => IsTD e i fun b es => (l.all isK = true ∧ es.length < SZ) ∧ SetE e i (.own b (tD (putE es (.tuple l) d))) fun e => P5 (.next e)) : Ok (sPutT i f fv e) P5 := by
  refine okE_bind (ev_of k fun r e ⟨d, h0, b, es, h, z⟩ => ?_)
  subst h0
  simp only [h]
  refine okE_bind (ev_of z fun r e ⟨kd, h1, l, h2, b, es, h3, h4, h5⟩ => ?_)
  subst h2
  simp only [h1, h3, if_pos h4]
  exact ok_some h5
theorem ok_move {c : D} {o : Slot} {e' : En} (h1 : e[j]? = some (.own false c)) (h2 : e[i]? = some o) (h3 : o.pin = false) (h4 : i ≠ j) (h5 : (e.set j .dead).set i (.own false c) = e') (k : P5 (.next e')) : Ok (sMove i j e) P5 := by
  subst h5
  unfold sMove
  rw [h1]
  simp only [h2]
  rw [if_neg (by rw [h3]; simp [h4])]
  exact ok_some k
theorem ok_extend (k : IsO e i fun _ _ => Ev (fv e) fun r e => ∃ l2, r = .fresh (.list l2) ∧ IsO e i fun b l => l.length + l2.length ≤ SZ ∧ SetE e i (.own b (.list (l ++ l2))) fun e => P2 (.val .none) e) : Ev (fExtend i fv e) P2 := by
  obtain ⟨b, l, h, k⟩ := k
  unfold fExtend
  rw [h]
  refine ev_bind (ev_of k fun r e ⟨l2, h0, b, l, h1, h2, h3⟩ => ?_)
  subst h0
  simp only [h1, if_pos h2]
  exact ev_some h3
theorem ok_popAt (k : IsO e i fun _ _ => Ev (f e) fun r e => Ok (look e r) fun d => IsI d fun k => IsO e i fun b l => l.length ≤ SZ ∧ Ok (ixN l.length k) fun j => Ok (l[j]?) fun d => SetE e i (.own b (.list (l.eraseIdx j))) fun e => P2 (.val d) e) : Ev (fPopAt i f e) P2 := by
  obtain ⟨b, l, h, k⟩ := k
  unfold fPopAt
  rw [h]
  refine ev_bind (ev_of k fun r e ⟨d, h1, k, h2, b, l, h3, h4, h5⟩ => ?_)
  subst h2
  simp only [h1, h3, if_pos h4]
  exact evO_bind (ok_of h5 fun j z => evO_map z)
theorem ok_sortI {ns : List Int} {l : List D} {P : Res → Prop} (h : l = ns.map PyData.int) (k : P (.fresh (.list ((sortI ns).map .int)))) : Ok (sSorted (.list l)) P := by
  subst h
  exact ok_rfl (show (intsOf _).map _ = _ by rw [intsOf_map]; rfl) k
theorem ok_sortD {l : List D} {P : Res → Prop} (h : sortOk l = true) (k : P (.fresh (.list (l.mergeSort (PySem.W.dataLe false id))))) : Ok (sSortD (.list l)) P := ok_rfl (if_pos h) k
end
end DL

set_option Elab.async false
set_option linter.all false
set_option maxRecDepth 100000
set_option maxHeartbeats 2000000
/-! DL27: comprehensions of two clauses, what they yield. -/
namespace DL
open PySem PySem.Spec PyProof.Rows L2
section
variable {e : En} {P2 : Res → En → Prop} {gt gt1 : FG} {tt tt1 : FT} {el : FE} {vs vs1 : List Nat} {it it1 : FI}
theorem ok_comp2 (k : Ev (it e) fun l e => freeB e vs = true ∧ Ev (compGo2 vs vs1 gt tt it1 gt1 tt1 el l (wipeE e vs) []) fun r e1 => P2 (.fresh (.list r)) (mergeE e e1 vs)) : Ev (fComp2 vs vs1 it gt tt it1 gt1 tt1 el e) P2 := by
  refine ev_bind (ev_of k fun p e ⟨h1, h2⟩ => ?_)
  rw [if_pos h1]
  exact ev_map h2
/-- behind what is there already -/
theorem ok_compFA {α : Type} {en : α → D} {xs : List α} {P : List D → En → Prop} {e0 : En} {acc0 : List D} (F : α → Option D) (hl : acc0.length + xs.length ≤ SZ) (h0 : wipeE e vs = e0)
    (st : ∀ x, x ∈ xs → Ok (gt (en x) e0) fun e => Ev (tt e) fun b e => Br b (Ev (el e) fun r e => Ev (frz e r) fun d e => F x = some d ∧ wipeE e vs = e0) (F x = none ∧ wipeE e vs = e0))
    (fin : ∀ e2, wipeE e2 vs = e0 → P (acc0 ++ xs.filterMap F) e2) : Ev (compGo vs gt tt el (xs.map en) e acc0) P := by
  refine ok_compD (fun k e acc => wipeE e vs = e0 ∧ acc = acc0 ++ (xs.take k).filterMap F) ⟨h0, by simp⟩ (fun k d e acc hd ⟨h1, h2⟩ => ?_) fun e acc ⟨h1, h2⟩ => ?_
  · rw [List.getElem?_map] at hd
    obtain ⟨x, h3, h4⟩ := Option.map_eq_some_iff.mp hd
    subst h4
    rw [h1]
    obtain ⟨hk, _⟩ := List.getElem?_eq_some_iff.mp h3
    have ht : xs.take (k + 1) = xs.take k ++ [x] := by
      rw [List.take_add_one, h3]
      rfl
    refine ok_of (st x (List.mem_of_getElem? h3)) fun e1 z => ev_of z fun p e ⟨h5, h6⟩ => ⟨fun c => ev_of (h5 c) fun r e z => ev_of z fun q e ⟨h7, h8⟩ => ⟨?_, h8, ?_⟩, fun c => ⟨(h6 c).2, ?_⟩⟩
    · subst h2
      have := List.length_filterMap_le F (xs.take k)
      have : (xs.take k).length < xs.length := by rw [List.length_take]; omega
      rw [List.length_append]
      omega
    · rw [ht, List.filterMap_append, h2, List.append_assoc]
      simp [h7]
    · rw [ht, List.filterMap_append, h2]
      simp [(h6 c).1]
  · have e3 : acc = acc0 ++ xs.filterMap F := by
      rw [h2, List.length_map, List.take_length]
    subst e3
    exact fin e h1
/-- the block leaves the frame as it was; G x: what the second clause yields at x -/
theorem ok_comp2G {α : Type} {en : α → D} {xs : List α} {P : List D → En → Prop} {e0 : En} (G : α → List D) (h0 : wipeE e vs = e0)
    (st : ∀ x, x ∈ xs → ∀ acc : List D, acc.length + (G x).length ≤ (xs.flatMap G).length → Ok (gt (en x) e0) fun e => Ev (tt e) fun b e => Br b (Ev (it1 e) fun l e => freeB e vs1 = true ∧ Ev (compGo vs1 gt1 tt1 el l e acc) fun out e => out = acc ++ G x ∧ wipeE e vs = e0) (G x = [] ∧ wipeE e vs = e0))
    (fin : ∀ e2, wipeE e2 vs = e0 → P (xs.flatMap G) e2) : Ev (compGo2 vs vs1 gt tt it1 gt1 tt1 el (xs.map en) e []) P := by
  have key : ∀ (ys : List α) (pre : List α) (e : En), xs = pre ++ ys → wipeE e vs = e0 → Ev (compGo2 vs vs1 gt tt it1 gt1 tt1 el (ys.map en) e (pre.flatMap G)) P := by
    intro ys
    induction ys with
    | nil =>
      intro pre e hx he
      rw [List.append_nil] at hx
      subst hx
      exact ev_some (fin e he)
    | cons x ys ih =>
      intro pre e hx he
      have hm : x ∈ xs := by rw [hx]; simp
      have hle : (pre.flatMap G).length + (G x).length ≤ (xs.flatMap G).length := by
        rw [hx, List.flatMap_append, List.flatMap_cons, List.length_append, List.length_append]
        omega
      have nx : ∀ e2, wipeE e2 vs = e0 → Ev (compGo2 vs vs1 gt tt it1 gt1 tt1 el (ys.map en) e2 (pre.flatMap G ++ G x)) P := fun e2 h2 => by
        have z := ih (pre ++ [x]) e2 (by rw [hx]; simp) h2
        rwa [List.flatMap_append, List.flatMap_cons, List.flatMap_nil, List.append_nil] at z
      show Ev ((gt (en x) (wipeE e vs)).bind _) P
      rw [he]
      refine evO_bind (ok_of (st x hm _ hle) fun e1 z => ev_bind (ev_of z fun b e2 ⟨h1, h2⟩ => ?_))
      cases b with
      | true =>
        refine ev_bind (ev_of (h1 rfl) fun l e3 ⟨h3, h4⟩ => ?_)
        simp only
        rw [if_pos h3]
        refine ev_bind (ev_of h4 fun out e4 ⟨h5, h6⟩ => ?_)
        subst h5
        exact nx e4 h6
      | false =>
        obtain ⟨h3, h4⟩ := h2 rfl
        have z := nx e2 h4
        rw [h3, List.append_nil] at z
        exact z
  exact key xs [] e rfl h0
end
end DL

set_option Elab.async false
set_option linter.all false
set_option maxRecDepth 100000
set_option maxHeartbeats 2000000
/-! DL28: a dict is locked while a loop walks it. -/
namespace DL
open PySem PySem.Spec PyProof.Rows L2
/-- the frame's constants while slot i is locked -/
def Bd.lock (B : Bd) (i : Nat) (σ : L2.St) : Bd := ⟨B.H0, B.p.set i true, σ⟩
def Wd.lock (w : Wd) (a : Addr) (o : HO) : Wd := ⟨upd w.F a o, upd w.H a o, fun x => w.O x ∧ x ≠ a⟩
theorem lock_stt {K : PySem.W.Frag} {B : Bd} {w : Wd} {σ : L2.St} {e : En} (st : Stt K B w σ e) {i : Nat} {c : D} {a : Addr} {u : HO} {od : Obj} (hi : e[i]? = some (.own false c)) (ha : σ[i]? = some (some (.ref a))) (hu : w.H a = some u) (hc : OwD K w.F u c) (nF : w.F a = none) :
    Stt K (B.lock i σ) (w.lock a (.frz od u)) σ (e.set i (.lck c)) ∧ Le w (w.lock a (.frz od u)) := by
  have hl := lt_of_get hi
  have oa : w.O a := (st.ow a).mpr ⟨i, false, c, hi, ha⟩
  have sf : Same w.F (upd w.F a (.frz od u)) := same_upd nF
  have own_at : ∀ {k : Nat} {b : Bool} {l : D}, (e.set i (.lck c))[k]? = some (Slot.own b l) → k ≠ i ∧ e[k]? = some (Slot.own b l) := fun {k b l} q => by
    rw [get_set] at q
    by_cases h : i = k
    · rw [if_pos ⟨h, hl⟩] at q; cases q
    · rw [if_neg fun z => h z.1] at q; exact ⟨fun z => h z.symm, q⟩
  refine ⟨⟨fun x o q => ?_, by rw [List.length_set]; exact st.len, fun k s q => ?_, fun k m b l b' l' q1 q2 q3 => ?_, fun x => ⟨fun q => ?_, fun ⟨k, b, l, q1, q2⟩ => ?_⟩, ?_, fun _ _ => rfl, fun x q => st.dom x ?_, fun k l x q1 q2 => ?_⟩,
    ⟨sf, fun x o q n => ?_, fun x o q => ?_, fun x q => .inl q.1, fun x q => ?_⟩⟩
  · by_cases z : x = a
    · subst z
      have q' : upd w.F x (.frz od u) x = some o := q
      rw [upd_same] at q'
      show upd w.H x (.frz od u) x = some o
      rw [upd_same]; exact q'
    · have q' : upd w.F a (.frz od u) x = some o := q
      rw [upd_ne z] at q'
      show upd w.H a (.frz od u) x = some o
      rw [upd_ne z]; exact st.sub x o q'
  · rw [get_set] at q
    by_cases h : i = k
    · subst h
      rw [if_pos ⟨rfl, hl⟩] at q
      cases q
      exact ⟨a, od, u, ha, upd_same, ow_same sf hc⟩
    · rw [if_neg fun z => h z.1] at q
      have z := st.sl k s q
      cases s with
      | dead => trivial
      | val b d => obtain ⟨v, h1, h2⟩ := z; exact ⟨v, h1, dq_same sf h2⟩
      | lck c2 => obtain ⟨x, od2, u2, h1, h2, h3⟩ := z; exact ⟨x, od2, u2, h1, sf _ _ h2, ow_same sf h3⟩
      | own b l =>
        obtain ⟨x, o2, h1, h2, h3, h4⟩ := z
        have n : x ≠ a := fun y => h (st.inj i k _ _ _ _ hi q (by rw [ha, h1, y]))
        refine ⟨x, o2, h1, ?_, ?_, ow_same sf h4⟩
        · show upd w.H a (.frz od u) x = some o2
          rw [upd_ne n]; exact h2
        · show upd w.F a (.frz od u) x = none
          rw [upd_ne n]; exact h3
  · exact st.inj k m _ _ _ _ (own_at q1).2 (own_at q2).2 q3
  · obtain ⟨k, b, l, h1, h2⟩ := (st.ow x).mp q.1
    have n : i ≠ k := fun z => by
      subst z
      rw [ha] at h2
      cases h2
      exact q.2 rfl
    exact ⟨k, b, l, by rw [get_set, if_neg fun z => n z.1]; exact h1, h2⟩
  · obtain ⟨n, q3⟩ := own_at q1
    refine ⟨(st.ow x).mpr ⟨k, b, l, q3, q2⟩, fun z => n (st.inj k i _ _ _ _ q3 hi (by rw [q2, ha, z]))⟩
  · show (e.set i (.lck c)).map Slot.pin = B.p.set i true
    rw [List.map_set, st.pin]
    rfl
  · have q' : upd w.H a (.frz od u) x = none := q
    by_cases z : x = a
    · subst z; rw [upd_same] at q'; cases q'
    · rw [upd_ne z] at q'; exact q'
  · exact st.fr k l x (own_at q1).2 q2
  · show upd w.H a (.frz od u) x = some o
    rw [upd_ne (fun z => n (by rw [z]; exact oa))]
    exact q
  · by_cases z : x = a
    · subst z; exact .inr (.inr (.inl oa))
    · have q' : upd w.F a (.frz od u) x = some o := q
      rw [upd_ne z] at q'; exact .inl q'
  · have q' : upd w.H a (.frz od u) x = none := q
    by_cases z : x = a
    · subst z; rw [upd_same] at q'; cases q'
    · rw [upd_ne z] at q'; exact q'
end DL

set_option Elab.async false
set_option linter.all false
set_option maxRecDepth 100000
set_option maxHeartbeats 2000000
/-! DL29: a dict that is being walked: read; the walk of its keys; the lock. -/
namespace DL
open PySem PySem.Spec PyProof.Rows L2
section
variable {K : PySem.W.Frag} {B : Bd} {w w' : Wd} {σ : L2.St} {e : En}
theorem lck_dT (st : Stt K B w σ e) {i : Nat} {es : List (D × D)} (hi : e[i]? = some (Slot.lck (tD es))) : ∃ a ks, σ[i]? = some (some (.ref a)) ∧ Rd w.H a (.dT ks) ∧ Dk K w.F ks es := by
  obtain ⟨a, od, u, h1, h2, h3⟩ := st.sl i _ hi
  cases h3 with
  | dctT h => exact ⟨a, _, h1, .inr ⟨od, st.sub _ _ h2⟩, h⟩
theorem lck_dK (st : Stt K B w σ e) {i : Nat} {es : List (D × D)} (hi : e[i]? = some (Slot.lck (kD es))) : ∃ a ks, σ[i]? = some (some (.ref a)) ∧ Rd w.H a (.dK ks) ∧ Dj K w.F ks es := by
  obtain ⟨a, od, u, h1, h2, h3⟩ := st.sl i _ hi
  cases h3 with
  | dctK h => exact ⟨a, _, h1, .inr ⟨od, st.sub _ _ h2⟩, h⟩
theorem dget_t {H : Hp} {a b : Addr} {kvs : List (List L2.Key × V)} {k : List L2.Key} (e : Rd H a (.dT kvs)) (eb : H b = some (.tup (k.map kV))) : DGet H a (.ref b) (valV kvs k) := .inr ⟨kvs, k, b, e, rfl, eb, rfl⟩
theorem dget_k {H : Hp} {a : Addr} {kvs : List (L2.Key × V)} {k : L2.Key} (e : Rd H a (.dK kvs)) : DGet H a (kV k) (valV kvs k) := .inl ⟨kvs, k, e, rfl, rfl⟩
end
section
variable {X : Cx} {a x : Expr} {f g : FE} {fv : FV} {y : Str} {i : Nat} {p apos cpos spos tpos : Pos}
/-- d.get(k, x) -/
def fGetTL (i : Nat) (f g : FE) : FV := fun e => match e[i]? with
  | some (.lck (.dict ((.none, .none) :: _))) => (f e).bind fun p => (g p.2).bind fun q => match look q.2 p.1 with
    | some (.tuple l) => (frz q.2 q.1).bind fun z => match z.2[i]? with
      | some (.lck (.dict ((.none, .none) :: es))) => if l.all isK = true then some (.val ((valE es (.tuple l)).getD z.1), z.2) else none
      | _ => none
    | _ => none
  | _ => none
theorem d_getTL (hu : X.A.units + 1 < cLine) (hv : PE X (.Name y p) (tVar i)) (hk : PE X a (tE X.K f)) (hx : PE X x (tE X.K g)) (m : M2 X (.Name y p) "get" apos a x cpos) :
    PE X (.Call (.Attribute (.Name y p) "get" apos) [a, x] [] cpos) (tV X.K (fGetTL i f g)) := by
  refine pe_imp (pe_dget2 hu hv hk hx m) fun σ H Q ⟨B, w, e, r, e', hH, st, hf, q⟩ => ?_
  subst hH
  unfold fGetTL at hf
  split at hf
  · rename_i es0 hs0
    obtain ⟨a0, ks0, k1, k2, k3⟩ := lck_dT st hs0
    refine ⟨.ref a0, k1, a0, rfl, .inr ⟨_, k2⟩, ?_⟩
    obtain ⟨⟨r1, e1⟩, j1, j2⟩ := Option.bind_eq_some_iff.mp hf
    refine ⟨B, w, e, r1, e1, rfl, st, j1, fun v1 w1 s1 l1 p1 => ?_⟩
    obtain ⟨⟨r2, e2⟩, j3, j4⟩ := Option.bind_eq_some_iff.mp j2
    refine ⟨B, w1, e1, r2, e2, rfl, s1, j3, fun v2 w2 s2 l2 p2 => ?_⟩
    simp only at j4
    split at j4
    · rename_i l hl
      have ti := look_ok s2 hl (p1.later l2)
      obtain ⟨⟨d, e3⟩, m1, m2⟩ := Option.bind_eq_some_iff.mp j4
      obtain ⟨w3, n1, s3, l3, dq⟩ := frz_ok s2 m1 p2
      simp only at m2
      split at m2
      · rename_i es hs3
        split at m2
        · rename_i hc
          cases m2
          obtain ⟨a2, ks, o1, o2, o3⟩ := lck_dT s3 hs3
          rw [k1] at o1
          cases o1
          obtain ⟨bk, k, e4, e5, e6⟩ := key_at s2.sub ti hc
          subst e4
          rw [n1] at o2
          refine ⟨_, dget_t o2 e5, ?_⟩
          have fin := q ((valV ks k).getD v2) w3 s3 ((l1.trans l2).trans l3)
          rw [n1] at fin
          refine fin ?_
          show Dq X.K w3.F _ ((valE es (.tuple l)).getD d)
          rw [e6]
          rcases valT k o3 with ⟨u1, u2⟩ | ⟨v3, d3, u1, u2, u3⟩
          · rw [u1, u2]; exact dq
          · rw [u1, u2]; exact u3
        · cases m2
      · cases m2
    · cases j4
  · cases hf
def fGetKL (i : Nat) (f g : FE) : FV := fun e => match e[i]? with
  | some (.lck (.dict ((.bool true, .none) :: _))) => (f e).bind fun p => (g p.2).bind fun q => match look q.2 p.1 with
    | some kd => (frz q.2 q.1).bind fun z => match z.2[i]? with
      | some (.lck (.dict ((.bool true, .none) :: es))) => if isK kd = true then some (.val ((valE es kd).getD z.1), z.2) else none
      | _ => none
    | _ => none
  | _ => none
theorem d_getKL (hu : X.A.units + 1 < cLine) (hv : PE X (.Name y p) (tVar i)) (hk : PE X a (tE X.K f)) (hx : PE X x (tE X.K g)) (m : M2 X (.Name y p) "get" apos a x cpos) :
    PE X (.Call (.Attribute (.Name y p) "get" apos) [a, x] [] cpos) (tV X.K (fGetKL i f g)) := by
  refine pe_imp (pe_dget2 hu hv hk hx m) fun σ H Q ⟨B, w, e, r, e', hH, st, hf, q⟩ => ?_
  subst hH
  unfold fGetKL at hf
  split at hf
  · rename_i es0 hs0
    obtain ⟨a0, ks0, k1, k2, k3⟩ := lck_dK st hs0
    refine ⟨.ref a0, k1, a0, rfl, .inl ⟨_, k2⟩, ?_⟩
    obtain ⟨⟨r1, e1⟩, j1, j2⟩ := Option.bind_eq_some_iff.mp hf
    refine ⟨B, w, e, r1, e1, rfl, st, j1, fun v1 w1 s1 l1 p1 => ?_⟩
    obtain ⟨⟨r2, e2⟩, j3, j4⟩ := Option.bind_eq_some_iff.mp j2
    refine ⟨B, w1, e1, r2, e2, rfl, s1, j3, fun v2 w2 s2 l2 p2 => ?_⟩
    simp only at j4
    split at j4
    · rename_i l hl
      have ti := look_ok s2 hl (p1.later l2)
      obtain ⟨⟨d, e3⟩, m1, m2⟩ := Option.bind_eq_some_iff.mp j4
      obtain ⟨w3, n1, s3, l3, dq⟩ := frz_ok s2 m1 p2
      simp only at m2
      split at m2
      · rename_i es hs3
        split at m2
        · rename_i hc
          cases m2
          obtain ⟨a2, ks, o1, o2, o3⟩ := lck_dK s3 hs3
          rw [k1] at o1
          cases o1
          obtain ⟨k, e4, e6⟩ := key_atK ti hc
          subst e4 e6
          rw [n1] at o2
          refine ⟨_, dget_k o2, ?_⟩
          have fin := q ((valV ks k).getD v2) w3 s3 ((l1.trans l2).trans l3)
          rw [n1] at fin
          refine fin ?_
          show Dq X.K w3.F _ ((valE es (keyD k)).getD d)
          rcases valJ k o3 with ⟨u1, u2⟩ | ⟨v3, d3, u1, u2, u3⟩
          · rw [u1, u2]; exact dq
          · rw [u1, u2]; exact u3
        · cases m2
      · cases m2
    · cases j4
  · cases hf
/-- d[k] -/
def fIxTL (i : Nat) (f : FE) : FV := fun e => match e[i]? with
  | some (.lck _) => (f e).bind fun p => match look p.2 p.1 with
    | some (.tuple l) => match p.2[i]? with
      | some (.lck (.dict ((.none, .none) :: es))) => if l.all isK = true then (valE es (.tuple l)).map fun d => (.val d, p.2) else none
      | _ => none
    | _ => none
  | _ => none
theorem d_ixTL (hu : X.A.units + 1 < cLine) (hv : PE X (.Name y p) (tVar i)) (hk : PE X a (tE X.K f)) (hs : NoSl a) : PE X (.Subscript (.Name y p) a spos) (tV X.K (fIxTL i f)) := by
  refine pe_imp (pe_dget hu hv hk hs) fun σ H Q ⟨B, w, e, r, e', hH, st, hf, q⟩ => ?_
  subst hH
  unfold fIxTL at hf
  split at hf
  · rename_i c0 hs0
    obtain ⟨a0, od0, u0, k1, k2, k3⟩ := st.sl i _ hs0
    refine ⟨.ref a0, k1, ?_⟩
    obtain ⟨⟨r1, e1⟩, j1, j2⟩ := Option.bind_eq_some_iff.mp hf
    refine ⟨B, w, e, r1, e1, rfl, st, j1, fun v1 w1 s1 l1 p1 => ?_⟩
    simp only at j2
    split at j2
    · rename_i l hl
      have ti := look_ok s1 hl p1
      split at j2
      · rename_i es hs3
        split at j2
        · rename_i hc
          obtain ⟨d, m1, m2⟩ := Option.map_eq_some_iff.mp j2
          cases m2
          obtain ⟨a2, ks, o1, o2, o3⟩ := lck_dT s1 hs3
          rw [k1] at o1
          cases o1
          obtain ⟨bk, k, e4, e5, e6⟩ := key_at s1.sub ti hc
          subst e4
          rw [e6] at m1
          rcases valT k o3 with ⟨u1, u2⟩ | ⟨v3, d3, u1, u2, u3⟩
          · rw [u2] at m1; cases m1
          · rw [u2] at m1
            cases m1
            exact ⟨a0, v3, rfl, u1 ▸ dget_t o2 e5, q v3 w1 s1 l1 u3⟩
        · cases j2
      · cases j2
    · cases j2
  · cases hf
/-- d[k] -/
def fIxKL (i : Nat) (f : FE) : FV := fun e => match e[i]? with
  | some (.lck _) => (f e).bind fun p => match look p.2 p.1 with
    | some kd => match p.2[i]? with
      | some (.lck (.dict ((.bool true, .none) :: es))) => if isK kd = true then (valE es kd).map fun d => (.val d, p.2) else none
      | _ => none
    | _ => none
  | _ => none
theorem d_ixKL (hu : X.A.units + 1 < cLine) (hv : PE X (.Name y p) (tVar i)) (hk : PE X a (tE X.K f)) (hs : NoSl a) : PE X (.Subscript (.Name y p) a spos) (tV X.K (fIxKL i f)) := by
  refine pe_imp (pe_dget hu hv hk hs) fun σ H Q ⟨B, w, e, r, e', hH, st, hf, q⟩ => ?_
  subst hH
  unfold fIxKL at hf
  split at hf
  · rename_i c0 hs0
    obtain ⟨a0, od0, u0, k1, k2, k3⟩ := st.sl i _ hs0
    refine ⟨.ref a0, k1, ?_⟩
    obtain ⟨⟨r1, e1⟩, j1, j2⟩ := Option.bind_eq_some_iff.mp hf
    refine ⟨B, w, e, r1, e1, rfl, st, j1, fun v1 w1 s1 l1 p1 => ?_⟩
    simp only at j2
    split at j2
    · rename_i l hl
      have ti := look_ok s1 hl p1
      split at j2
      · rename_i es hs3
        split at j2
        · rename_i hc
          obtain ⟨d, m1, m2⟩ := Option.map_eq_some_iff.mp j2
          cases m2
          obtain ⟨a2, ks, o1, o2, o3⟩ := lck_dK s1 hs3
          rw [k1] at o1
          cases o1
          obtain ⟨k, e4, e6⟩ := key_atK ti hc
          subst e4 e6
          rcases valJ k o3 with ⟨u1, u2⟩ | ⟨v3, d3, u1, u2, u3⟩
          · rw [u2] at m1; cases m1
          · rw [u2] at m1
            cases m1
            exact ⟨a0, v3, rfl, u1 ▸ dget_k o2, q v3 w1 s1 l1 u3⟩
        · cases j2
      · cases j2
    · cases j2
  · cases hf
def fInTL (neg : Bool) (f : FE) (i : Nat) : FV := fun e => (f e).bind fun p => match look p.2 p.1 with
  | some (.tuple l) => match p.2[i]? with
    | some (.lck (.dict ((.none, .none) :: es))) => if l.all isK = true then some (.val (.bool (if neg then !(valE es (.tuple l)).isSome else (valE es (.tuple l)).isSome)), p.2) else none
    | _ => none
  | _ => none
theorem inT_runL {K : PySem.W.Frag} {σ : L2.St} {H : Hp} {Q : VK} {neg : Bool} (q : tV K (fInTL neg f i) σ H Q) : (tE K f) σ H fun y H1 => tVar i σ H1 fun x H2 => ∃ a o, x = .ref a ∧ DGet H2 a y o ∧ Q (.bl (if neg then !o.isSome else o.isSome)) H2 := by
  obtain ⟨B, w, e, r, e', hH, st, hf, q⟩ := q
  obtain ⟨⟨r1, e1⟩, j1, j2⟩ := Option.bind_eq_some_iff.mp hf
  refine ⟨B, w, e, r1, e1, hH, st, j1, fun v1 w1 s1 l1 p1 => ?_⟩
  simp only at j2
  split at j2
  · rename_i l hl
    have ti := look_ok s1 hl p1
    split at j2
    · rename_i es hs3
      split at j2
      · rename_i hc
        cases j2
        obtain ⟨a2, ks, o1, o2, o3⟩ := lck_dT s1 hs3
        obtain ⟨bk, k, e4, e5, e6⟩ := key_at s1.sub ti hc
        subst e4
        refine ⟨.ref a2, o1, a2, _, rfl, dget_t o2 e5, q _ w1 s1 l1 ?_⟩
        have e7 : (valV ks k).isSome = (valE es (.tuple l)).isSome := by
          rw [e6]
          rcases valT k o3 with ⟨u1, u2⟩ | ⟨v3, d3, u1, u2, u3⟩
          · rw [u1, u2]; rfl
          · rw [u1, u2]; rfl
        rw [e7]
        exact Dq.bl _
      · cases j2
    · cases j2
  · cases j2
theorem d_inTL (hu : X.A.units + 1 < cLine) (hv : PE X (.Name y p) (tVar i)) (hk : PE X a (tE X.K f)) (hm : behindInMarks .In (.Name y p) = false := by rfl) : PE X (.Compare a [.In] [.Name y p] spos) (tV X.K (fInTL false f i)) := pe_imp (pe_cmp (pc_din hu hk hv) hm) fun _ _ _ q => inT_runL q
theorem d_notInTL (hu : X.A.units + 1 < cLine) (hv : PE X (.Name y p) (tVar i)) (hk : PE X a (tE X.K f)) (hm : behindInMarks .NotIn (.Name y p) = false := by rfl) : PE X (.Compare a [.NotIn] [.Name y p] spos) (tV X.K (fInTL true f i)) := pe_imp (pe_cmp (pc_dnotin hu hk hv) hm) fun _ _ _ q => inT_runL q
theorem t_inTL (hu : X.A.units + 1 < cLine) (hv : PE X (.Name y p) (tVar i)) (hk : PE X a (tE X.K f)) (hm : behindInMarks .In (.Name y p) = false := by rfl) : PT X (.Compare a [.In] [.Name y p] spos) (tT X.K (fTestV (fInTL false f i))) := pt_imp (pt_cmp (pc_din hu hk hv) hm) fun _ _ _ q => inT_runL (test_run q)
theorem t_notInTL (hu : X.A.units + 1 < cLine) (hv : PE X (.Name y p) (tVar i)) (hk : PE X a (tE X.K f)) (hm : behindInMarks .NotIn (.Name y p) = false := by rfl) : PT X (.Compare a [.NotIn] [.Name y p] spos) (tT X.K (fTestV (fInTL true f i))) := pt_imp (pt_cmp (pc_dnotin hu hk hv) hm) fun _ _ _ q => inT_runL (test_run q)
/-- k in d, k not in d -/
def fInKL (neg : Bool) (f : FE) (i : Nat) : FV := fun e => (f e).bind fun p => match look p.2 p.1 with
  | some kd => match p.2[i]? with
    | some (.lck (.dict ((.bool true, .none) :: es))) => if isK kd = true then some (.val (.bool (if neg then !(valE es kd).isSome else (valE es kd).isSome)), p.2) else none
    | _ => none
  | _ => none
theorem inK_runL {K : PySem.W.Frag} {σ : L2.St} {H : Hp} {Q : VK} {neg : Bool} (q : tV K (fInKL neg f i) σ H Q) : (tE K f) σ H fun y H1 => tVar i σ H1 fun x H2 => ∃ a o, x = .ref a ∧ DGet H2 a y o ∧ Q (.bl (if neg then !o.isSome else o.isSome)) H2 := by
  obtain ⟨B, w, e, r, e', hH, st, hf, q⟩ := q
  obtain ⟨⟨r1, e1⟩, j1, j2⟩ := Option.bind_eq_some_iff.mp hf
  refine ⟨B, w, e, r1, e1, hH, st, j1, fun v1 w1 s1 l1 p1 => ?_⟩
  simp only at j2
  split at j2
  · rename_i l hl
    have ti := look_ok s1 hl p1
    split at j2
    · rename_i es hs3
      split at j2
      · rename_i hc
        cases j2
        obtain ⟨a2, ks, o1, o2, o3⟩ := lck_dK s1 hs3
        obtain ⟨k, e4, e6⟩ := key_atK ti hc
        subst e4 e6
        refine ⟨.ref a2, o1, a2, _, rfl, dget_k o2, q _ w1 s1 l1 ?_⟩
        have e7 : (valV ks k).isSome = (valE es (keyD k)).isSome := by
          rcases valJ k o3 with ⟨u1, u2⟩ | ⟨v3, d3, u1, u2, u3⟩
          · rw [u1, u2]; rfl
          · rw [u1, u2]; rfl
        rw [e7]
        exact Dq.bl _
      · cases j2
    · cases j2
  · cases j2
theorem d_inKL (hu : X.A.units + 1 < cLine) (hv : PE X (.Name y p) (tVar i)) (hk : PE X a (tE X.K f)) (hm : behindInMarks .In (.Name y p) = false := by rfl) : PE X (.Compare a [.In] [.Name y p] spos) (tV X.K (fInKL false f i)) := pe_imp (pe_cmp (pc_din hu hk hv) hm) fun _ _ _ q => inK_runL q
theorem d_notInKL (hu : X.A.units + 1 < cLine) (hv : PE X (.Name y p) (tVar i)) (hk : PE X a (tE X.K f)) (hm : behindInMarks .NotIn (.Name y p) = false := by rfl) : PE X (.Compare a [.NotIn] [.Name y p] spos) (tV X.K (fInKL true f i)) := pe_imp (pe_cmp (pc_dnotin hu hk hv) hm) fun _ _ _ q => inK_runL q
theorem t_inKL (hu : X.A.units + 1 < cLine) (hv : PE X (.Name y p) (tVar i)) (hk : PE X a (tE X.K f)) (hm : behindInMarks .In (.Name y p) = false := by rfl) : PT X (.Compare a [.In] [.Name y p] spos) (tT X.K (fTestV (fInKL false f i))) := pt_imp (pt_cmp (pc_din hu hk hv) hm) fun _ _ _ q => inK_runL (test_run q)
theorem t_notInKL (hu : X.A.units + 1 < cLine) (hv : PE X (.Name y p) (tVar i)) (hk : PE X a (tE X.K f)) (hm : behindInMarks .NotIn (.Name y p) = false := by rfl) : PT X (.Compare a [.NotIn] [.Name y p] spos) (tT X.K (fTestV (fInKL true f i))) := pt_imp (pt_cmp (pc_dnotin hu hk hv) hm) fun _ _ _ q => inK_runL (test_run q)

/-! ### the keys, in their order -/
theorem da_keyV {K : PySem.W.Frag} {H : Hp} : ∀ ks : List L2.Key, Da K H (ks.map kV) (ks.map keyD)
  | [] => .nil
  | .inl i :: ks => .cons (.int i) (da_keyV ks)
  | .inr s :: ks => .cons (.str s) (da_keyV ks)
theorem dq_keyV {K : PySem.W.Frag} {H : Hp} (k : L2.Key) : Dq K H (kV k) (keyD k) := by
  cases k with
  | inl i => exact .int i
  | inr s => exact .str s
theorem dk_at {K : PySem.W.Frag} {H : Hp} : ∀ {ks : List (List L2.Key × V)} {es : List (D × D)} (i : Nat), Dk K H ks es → ks.length = es.length ∧ ∀ k v, ks[i]? = some (k, v) → ∃ d, es[i]? = some (.tuple (k.map keyD), d) ∧ Dq K H v d
  | _, _, i, .nil => ⟨rfl, fun k v h => by simp at h⟩
  | _, _, 0, .cons (k := k0) h t => ⟨by rw [List.length_cons, List.length_cons, (dk_at 0 t).1], fun k v q => by
      simp at q
      obtain ⟨rfl, rfl⟩ := q
      exact ⟨_, rfl, h⟩⟩
  | _, _, i + 1, .cons h t => ⟨by rw [List.length_cons, List.length_cons, (dk_at i t).1], fun k v q => by
      have z := (dk_at i t).2 k v (by simpa using q)
      simpa using z⟩
theorem dj_at {K : PySem.W.Frag} {H : Hp} : ∀ {ks : List (L2.Key × V)} {es : List (D × D)} (i : Nat), Dj K H ks es → ks.length = es.length ∧ ∀ k v, ks[i]? = some (k, v) → ∃ d, es[i]? = some (keyD k, d) ∧ Dq K H v d
  | _, _, i, .nil => ⟨rfl, fun k v h => by simp at h⟩
  | _, _, 0, .cons (k := k0) h t => ⟨by rw [List.length_cons, List.length_cons, (dj_at 0 t).1], fun k v q => by
      simp at q
      obtain ⟨rfl, rfl⟩ := q
      exact ⟨_, rfl, h⟩⟩
  | _, _, i + 1, .cons h t => ⟨by rw [List.length_cons, List.length_cons, (dj_at i t).1], fun k v q => by
      have z := (dj_at i t).2 k v (by simpa using q)
      simpa using z⟩
def fKeys (i : Nat) : FI := fun e => match e[i]? with
  | some (.lck (.dict ((.none, .none) :: es))) => some (es.map (·.1), e)
  | some (.lck (.dict ((.bool true, .none) :: es))) => some (es.map (·.1), e)
  | _ => none
theorem i_keys {tg : Expr} (hv : PE X (.Name y p) (tVar i)) : PI X tg (.Name y p) (tI X.K (fKeys i)) := by
  refine pi_imp (pi_keys hv) fun σ H R ⟨B, w, e, ds, e', hH, st, hf, q⟩ => ?_
  subst hH
  unfold fKeys at hf
  split at hf
  · rename_i es hs
    cases hf
    obtain ⟨a, od, u, h1, h2, h3⟩ := st.sl i _ hs
    cases h3 with
    | dctT h =>
      rename_i ks
      refine ⟨.ref a, h1, a, od, rfl, .inr ⟨ks, st.sub _ _ h2, ?_⟩⟩
      refine q _ w st (Le.refl w) ⟨fun j H s hj => ⟨s _ _ h2, by rw [(dk_at 0 h).1]; simpa using hj⟩, fun H s => ⟨s _ _ h2, by rw [(dk_at 0 h).1]; simp⟩, fun j H x H' d s hd y => ?_⟩
      obtain ⟨e1, k, v, q1, z1, z2, z3⟩ := y
      obtain ⟨d', k1, k2⟩ := (dk_at j h).2 k v z1
      rw [List.getElem?_map, k1] at hd
      cases hd
      subst z2
      exact .inr (.inr (.inl ⟨q1, _, e1, z3, fun F' _ hF => .tup hF (da_keyV k)⟩))
  · rename_i es hs
    cases hf
    obtain ⟨a, od, u, h1, h2, h3⟩ := st.sl i _ hs
    cases h3 with
    | dctK h =>
      rename_i ks
      refine ⟨.ref a, h1, a, od, rfl, .inl ⟨ks, st.sub _ _ h2, ?_⟩⟩
      refine q _ w st (Le.refl w) ⟨fun j H s hj => ⟨s _ _ h2, by rw [(dj_at 0 h).1]; simpa using hj⟩, fun H s => ⟨s _ _ h2, by rw [(dj_at 0 h).1]; simp⟩, fun j H x H' d s hd y => ?_⟩
      obtain ⟨e1, k, v, z1, z2⟩ := y
      obtain ⟨d', k1, k2⟩ := (dj_at j h).2 k v z1
      rw [List.getElem?_map, k1] at hd
      cases hd
      subst z2
      exact .inl ⟨e1, dq_keyV k⟩
  · cases hf
end
/-! ### the lock -/
section
variable {K : PySem.W.Frag} {F : Hp} {a : Addr} {od : Obj} {u : HO}
def dropH (F : Hp) (a : Addr) : Hp := fun x => if x = a then none else F x
theorem drop_ne {x : Addr} (h : x ≠ a) : dropH F a x = F x := if_neg h
theorem drop_same : dropH F a a = none := if_pos rfl
def NL (u : HO) : Prop := ∀ xs, u ≠ .lst xs
theorem la_drop {b : Addr} {xs : List V} (hF : F a = some (.frz od u)) (nl : NL u) (h : LstAt K F b xs) : LstAt K (dropH F a) b xs := by
  rcases h with (h | ⟨u', h⟩) | h
  · exact .inl (.inl (by rw [drop_ne (fun z => by subst z; rw [hF] at h; cases h)]; exact h))
  · exact .inl (.inr ⟨u', by rw [drop_ne (fun z => by subst z; rw [hF] at h; cases h; exact nl _ rfl)]; exact h⟩)
  · exact .inr h
mutual
theorem dq_drop (hF : F a = some (.frz od u)) (nl : NL u) : ∀ {v : V} {d : D}, Dq K F v d → Dq K (dropH F a) v d
  | _, _, .non => .non
  | _, _, .bl b => .bl b
  | _, _, .int i => .int i
  | _, _, .str x => .str x
  | _, _, .lst h t => .lst (la_drop hF nl h) (da_drop' hF nl t)
  | _, _, .tup h t => .tup (by rw [drop_ne (fun z => by rw [z, hF] at h; cases h)]; exact h) (da_drop' hF nl t)
theorem da_drop' (hF : F a = some (.frz od u)) (nl : NL u) : ∀ {vs : List V} {ds : List D}, Da K F vs ds → Da K (dropH F a) vs ds
  | _, _, .nil => .nil
  | _, _, .cons h t => .cons (dq_drop hF nl h) (da_drop' hF nl t)
end
theorem dk_drop (hF : F a = some (.frz od u)) (nl : NL u) : ∀ {ks : List (List L2.Key × V)} {es : List (D × D)}, Dk K F ks es → Dk K (dropH F a) ks es
  | _, _, .nil => .nil
  | _, _, .cons h t => .cons (dq_drop hF nl h) (dk_drop hF nl t)
theorem dj_drop (hF : F a = some (.frz od u)) (nl : NL u) : ∀ {ks : List (L2.Key × V)} {es : List (D × D)}, Dj K F ks es → Dj K (dropH F a) ks es
  | _, _, .nil => .nil
  | _, _, .cons h t => .cons (dq_drop hF nl h) (dj_drop hF nl t)
theorem ow_drop (hF : F a = some (.frz od u)) (nl : NL u) {o : HO} {c : D} (h : OwD K F o c) : OwD K (dropH F a) o c := by
  cases h with
  | lst h => exact .lst (da_drop' hF nl h)
  | dctT h => exact .dctT (dk_drop hF nl h)
  | dctK h => exact .dctK (dj_drop hF nl h)
end
section
variable {K : PySem.W.Frag} {B : Bd} {w w1 : Wd} {σ τ : L2.St} {e e1 : En}
def isLck : Slot → Bool
  | .lck _ => true
  | _ => false
def Wd.unl (w : Wd) (a : Addr) (u : HO) : Wd := ⟨dropH w.F a, upd w.H a u, fun x => w.O x ∨ x = a⟩
theorem unlock_stt (st : Stt K B w σ e) {i : Nat} {c c' : D} {a : Addr} {u : HO} {od : Obj} (hi : e[i]? = some (.own false c)) (ha : σ[i]? = some (some (.ref a))) (hu : w.H a = some u) (nF : w.F a = none) (nl : NL u)
    (s1 : Stt K (B.lock i σ) w1 τ e1) (le : Le (w.lock a (.frz od u)) w1) (hi1 : e1[i]? = some (.lck c')) (hL : e1.map isLck = (e.set i (.lck c)).map isLck) :
    w1.H a = some (.frz od u) ∧ w1.F a = some (.frz od u) ∧ Stt K B (w1.unl a u) τ (e1.set i (.own false c')) ∧ Le w (w1.unl a u) := by
  have hl := lt_of_get hi
  have hl1 := lt_of_get hi1
  have oa : w.O a := (st.ow a).mpr ⟨i, false, c, hi, ha⟩
  have hF : w1.F a = some (.frz od u) := le.fz _ _ (show upd w.F a (.frz od u) a = _ from upd_same)
  have hH := s1.sub _ _ hF
  have pl : B.p.length = e.length := by rw [← st.pin, List.length_map]
  have pB : ∀ k : Nat, k ≠ i → (B.lock i σ).p[k]? = B.p[k]? := fun k h => by
    show (B.p.set i true)[k]? = _
    rw [List.getElem?_set_ne (Ne.symm h)]
  have pi : (B.lock i σ).p[i]? = some true := by
    show (B.p.set i true)[i]? = _
    rw [get_set, if_pos ⟨rfl, by rw [pl]; exact hl⟩]
  have τi : τ[i]? = some (some (.ref a)) := by rw [s1.pins i pi]; exact ha
  -- no other locked slot stands at a
  have other : ∀ (k : Nat) (c2 : D), k ≠ i → e1[k]? = some (.lck c2) → τ[k]? ≠ some (some (.ref a)) := fun k c2 h hk q => by
    have z1 : ((e.set i (.lck c)).map isLck)[k]? = some true := by rw [← hL, List.getElem?_map, hk]; rfl
    rw [List.getElem?_map, List.getElem?_set_ne (Ne.symm h)] at z1
    obtain ⟨s, z2, z3⟩ := Option.map_eq_some_iff.mp z1
    cases s with
    | dead => cases z3
    | val b d => cases z3
    | own b c3 => cases z3
    | lck c3 =>
      have hp : B.p[k]? = some true := by rw [← st.pin, List.getElem?_map, z2]; rfl
      have e2 : τ[k]? = σ[k]? := s1.pins k (by rw [pB k h]; exact hp)
      rw [e2] at q
      obtain ⟨x, od2, u2, y1, y2, _⟩ := st.sl k _ z2
      rw [q] at y1
      cases y1
      rw [nF] at y2
      cases y2
  have own_at : ∀ {k : Nat} {b : Bool} {l : D}, (e1.set i (.own false c'))[k]? = some (Slot.own b l) → (k = i ∧ b = false ∧ l = c') ∨ (k ≠ i ∧ e1[k]? = some (Slot.own b l)) := fun {k b l} q => by
    rw [get_set] at q
    by_cases h : i = k
    · rw [if_pos ⟨h, hl1⟩] at q; cases q; exact .inl ⟨h.symm, rfl, rfl⟩
    · rw [if_neg fun z => h z.1] at q; exact .inr ⟨fun z => h z.symm, q⟩
  have own_ne : ∀ {k : Nat} {b : Bool} {l : D} {x : Addr}, e1[k]? = some (Slot.own b l) → τ[k]? = some (some (.ref x)) → x ≠ a := fun {k b l x} q1 q2 z => by
    obtain ⟨x', o, h1, h2, h3, h4, _⟩ := s1.own_at q1
    rw [q2] at h1
    cases h1
    subst z
    rw [hF] at h3
    cases h3
  have hi' : OwD K w1.F u c' := by
    obtain ⟨x, od2, u2, h1, h2, h3⟩ := s1.sl i _ hi1
    rw [τi] at h1
    cases h1
    rw [hF] at h2
    cases h2
    exact h3
  refine ⟨hH, hF, ⟨fun x o q => ?_, by rw [List.length_set]; exact s1.len, fun k s q => ?_, fun k m b l b' l' q1 q2 q3 => ?_, fun x => ⟨fun q => ?_, fun ⟨k, b, l, q1, q2⟩ => ?_⟩, ?_, fun k q => ?_, fun x q => ?_, fun k l x q1 q2 => ?_⟩,
    ⟨fun x o q => ?_, fun x o q n => ?_, fun x o q => ?_, fun x q => ?_, fun x q => ?_⟩⟩
  · by_cases z : x = a
    · subst z
      have q' : dropH w1.F x x = some o := q
      rw [drop_same] at q'; cases q'
    · have q' : dropH w1.F a x = some o := q
      rw [drop_ne z] at q'
      show upd w1.H a u x = some o
      rw [upd_ne z]; exact s1.sub x o q'
  · rw [get_set] at q
    by_cases h : i = k
    · subst h
      rw [if_pos ⟨rfl, hl1⟩] at q
      cases q
      exact ⟨a, u, τi, upd_same, drop_same, ow_drop hF nl hi'⟩
    · rw [if_neg fun z => h z.1] at q
      have z := s1.sl k s q
      cases s with
      | dead => trivial
      | val b d => obtain ⟨v, h1, h2⟩ := z; exact ⟨v, h1, dq_drop hF nl h2⟩
      | lck c2 =>
        obtain ⟨x, od2, u2, h1, h2, h3⟩ := z
        have n : x ≠ a := fun y => by
          subst y
          exact other k c2 (fun z => h z.symm) q h1
        refine ⟨x, od2, u2, h1, ?_, ow_drop hF nl h3⟩
        show dropH w1.F a x = _
        rw [drop_ne n]; exact h2
      | own b l =>
        obtain ⟨x, o2, h1, h2, h3, h4⟩ := z
        have n := own_ne q h1
        refine ⟨x, o2, h1, ?_, ?_, ow_drop hF nl h4⟩
        · show upd w1.H a u x = some o2
          rw [upd_ne n]; exact h2
        · show dropH w1.F a x = none
          rw [drop_ne n]; exact h3
  · rcases own_at q1 with ⟨rfl, _, _⟩ | ⟨n1, p1⟩
    · rcases own_at q2 with ⟨rfl, _, _⟩ | ⟨n2, p2⟩
      · rfl
      · obtain ⟨x, o, h1, _⟩ := s1.own_at p2
        rw [← q3, τi] at h1
        cases h1
        exact absurd rfl (own_ne p2 (by rw [← q3]; exact τi))
    · rcases own_at q2 with ⟨rfl, _, _⟩ | ⟨n2, p2⟩
      · exact absurd rfl (own_ne p1 (by rw [q3]; exact τi))
      · exact s1.inj k m _ _ _ _ p1 p2 q3
  · rcases q with q | q
    · obtain ⟨k, b, l, h1, h2⟩ := (s1.ow x).mp q
      have n : i ≠ k := fun z => by subst z; rw [hi1] at h1; cases h1
      exact ⟨k, b, l, by rw [get_set, if_neg fun z => n z.1]; exact h1, h2⟩
    · subst q
      exact ⟨i, false, c', by rw [get_set, if_pos ⟨rfl, hl1⟩], τi⟩
  · rcases own_at q1 with ⟨rfl, _, _⟩ | ⟨n1, p1⟩
    · rw [τi] at q2; cases q2; exact .inr rfl
    · exact .inl ((s1.ow x).mpr ⟨k, b, l, p1, q2⟩)
  · rw [List.map_set, s1.pin]
    show (B.p.set i true).set i false = B.p
    rw [List.set_set]
    refine List.ext_getElem? fun k => ?_
    rw [get_set]
    split
    · rename_i h
      rw [← h.1, ← st.pin, List.getElem?_map, hi]
      rfl
    · rfl
  · by_cases h : k = i
    · subst h
      rw [← st.pin, List.getElem?_map, hi] at q
      cases q
    · have z := s1.pins k (by rw [pB k h]; exact q)
      rw [z]
      exact st.pins k q
  · by_cases z : x = a
    · subst z
      have q' : upd w1.H x u x = none := q
      rw [upd_same] at q'; cases q'
    · have q' : upd w1.H a u x = none := q
      rw [upd_ne z] at q'; exact s1.dom x q'
  · rcases own_at q1 with ⟨rfl, _, _⟩ | ⟨n1, p1⟩
    · rw [τi] at q2; cases q2; exact st.fr _ _ _ hi ha
    · exact s1.fr k l x p1 q2
  · have n : x ≠ a := fun z => by rw [z, nF] at q; cases q
    show dropH w1.F a x = some o
    rw [drop_ne n]
    refine le.fz _ _ ?_
    show upd w.F a _ x = some o
    rw [upd_ne n]; exact q
  · have n2 : x ≠ a := fun z => n (by rw [z]; exact oa)
    show upd w1.H a u x = some o
    rw [upd_ne n2]
    refine le.keep _ _ ?_ fun z => n z.1
    show upd w.H a _ x = some o
    rw [upd_ne n2]; exact q
  · by_cases z : x = a
    · subst z
      have q' : dropH w1.F x x = some o := q
      rw [drop_same] at q'; cases q'
    · have q' : dropH w1.F a x = some o := q
      rw [drop_ne z] at q'
      rcases le.new x o q' with y | y | y | ⟨xs, y⟩
      · have y' : upd w.F a (.frz od u) x = some o := y
        rw [upd_ne z] at y'; exact .inl y'
      · have y' : upd w.H a (.frz od u) x = none := y
        rw [upd_ne z] at y'; exact .inr (.inl y')
      · exact .inr (.inr (.inl y.1))
      · have y' : upd w.H a (.frz od u) x = some (.tup xs) := y
        rw [upd_ne z] at y'; exact .inr (.inr (.inr ⟨xs, y'⟩))
  · rcases q with q | q
    · rcases le.own x q with y | y
      · exact .inl y.1
      · have y' : upd w.H a (.frz od u) x = none := y
        by_cases z : x = a
        · subst z; rw [upd_same] at y'; cases y'
        · rw [upd_ne z] at y'; exact .inr y'
    · subst q; exact .inl oa
  · have q' : upd w1.H a u x = none := q
    by_cases z : x = a
    · subst z; rw [upd_same] at q'; cases q'
    · rw [upd_ne z] at q'
      have y := le.dom x q'
      have y' : upd w.H a (.frz od u) x = none := y
      rw [upd_ne z] at y'; exact y'
end
def unlE (i : Nat) (m : List Bool) (e : En) : Option En := match e[i]? with
  | some (.lck c) => if e.map isLck = m then some (e.set i (.own false c)) else none
  | _ => none
theorem unlE_some {i : Nat} {m : List Bool} {e e' : En} (h : unlE i m e = some e') : ∃ c, e[i]? = some (.lck c) ∧ e.map isLck = m ∧ e' = e.set i (.own false c) := by
  unfold unlE at h
  split at h
  · rename_i c hc
    split at h
    · rename_i hm
      cases h
      exact ⟨c, hc, hm, rfl⟩
    · cases h
  · cases h
def unlF (i : Nat) (m : List Bool) : Fl → Option Fl
  | .next e => (unlE i m e).map .next
  | .brk e => (unlE i m e).map .brk
  | .cont e => (unlE i m e).map .cont
  | .ret r e => (unlE i m e).map (.ret r)
/-- while the statement runs slot i's own dict is locked -/
def sLk (i : Nat) (g : FS) : FS := fun e => match e[i]? with
  | some (.own false (.dict c)) => (g (e.set i (.lck (.dict c)))).bind (unlF i ((e.set i (.lck (.dict c))).map isLck))
  | _ => none
theorem s_lk {X : Cx} {st : Stmt} {g : FS} (i : Nat) (h : PS X st (tS X.K g)) : PS X st (tS X.K (sLk i g)) := by
  refine ps_imp (ps_lock h) fun D σ H ⟨B, w, e, fl, hH, stt, hg, q⟩ => ?_
  unfold sLk at hg
  split at hg
  · rename_i c hi
    obtain ⟨a, u, ha, hu, nF, hc, oa⟩ := stt.own_at hi
    have nl : NL u := fun xs z => by subst z; cases hc
    have mu : Mut (some u) := by cases hc <;> trivial
    subst hH
    refine ⟨a, u, hu, mu, fun od => ?_⟩
    obtain ⟨s1, l1⟩ := lock_stt (od := od) stt hi ha hu hc nF
    obtain ⟨fl1, k1, k2⟩ := Option.bind_eq_some_iff.mp hg
    refine ⟨_, _, _, fl1, rfl, s1, k1, ?_⟩
    cases fl1 with
    | next e1 =>
      intro τ w1 s2 l2
      obtain ⟨e2, k3, k4⟩ := Option.map_eq_some_iff.mp (show (unlE i _ e1).map _ = some fl from k2)
      obtain ⟨c1, hi1, hL, k5⟩ := unlE_some k3
      subst k4 k5
      obtain ⟨z1, z2, z3, z4⟩ := unlock_stt stt hi ha hu nF nl s2 l2 hi1 hL
      exact ⟨z1, q τ (w1.unl a u) z3 z4⟩
    | brk e1 =>
      intro τ w1 s2 l2
      obtain ⟨e2, k3, k4⟩ := Option.map_eq_some_iff.mp (show (unlE i _ e1).map _ = some fl from k2)
      obtain ⟨c1, hi1, hL, k5⟩ := unlE_some k3
      subst k4 k5
      obtain ⟨z1, z2, z3, z4⟩ := unlock_stt stt hi ha hu nF nl s2 l2 hi1 hL
      exact ⟨z1, q τ (w1.unl a u) z3 z4⟩
    | cont e1 =>
      intro τ w1 s2 l2
      obtain ⟨e2, k3, k4⟩ := Option.map_eq_some_iff.mp (show (unlE i _ e1).map _ = some fl from k2)
      obtain ⟨c1, hi1, hL, k5⟩ := unlE_some k3
      subst k4 k5
      obtain ⟨z1, z2, z3, z4⟩ := unlock_stt stt hi ha hu nF nl s2 l2 hi1 hL
      exact ⟨z1, q τ (w1.unl a u) z3 z4⟩
    | ret r e1 =>
      intro v τ w1 s2 l2 ok
      obtain ⟨e2, k3, k4⟩ := Option.map_eq_some_iff.mp (show (unlE i _ e1).map _ = some fl from k2)
      obtain ⟨c1, hi1, hL, k5⟩ := unlE_some k3
      subst k4 k5
      obtain ⟨z1, z2, z3, z4⟩ := unlock_stt stt hi ha hu nF nl s2 l2 hi1 hL
      refine ⟨z1, q v τ (w1.unl a u) z3 z4 ?_⟩
      cases r with
      | val d => exact dq_drop z2 nl ok
      | fresh c2 =>
        obtain ⟨x, o, y1, y2, y3, y4, y5, y6⟩ := ok
        have n : x ≠ a := fun z => by subst z; rw [z2] at y3; cases y3
        refine ⟨x, o, y1, ?_, ?_, fun z => z.elim y4 n, y5, ow_drop z2 nl y6⟩
        · show upd w1.H a u x = some o
          rw [upd_ne n]; exact y2
        · show dropH w1.F a x = none
          rw [drop_ne n]; exact y3
  · cases hg
end DL

set_option Elab.async false
set_option linter.all false
set_option maxRecDepth 100000
set_option maxHeartbeats 2000000
/-! DL30: {k: v} with one tuple key; reading a dict that may be locked; rules. -/
namespace DL
open PySem PySem.Spec PyProof.Rows L2
theorem u1 {n : Nat} (h : n + 64 < cLine) : n + 1 < cLine := by omega
/-! ### {k: v} -/
def tDisp1T (tk tv : TE) : TE := fun σ H Q => ∀ p, H p = none → tk σ (upd H p (.dT [])) fun x H1 => tv σ H1 fun y H2 => H2 p = some (.dT []) ∧ ∃ k b, x = .ref b ∧ H2 b = some (.tup (k.map kV)) ∧ Q (.ref p) (upd H2 p (.dT [(k, y)]))
theorem pe_disp1T {X : Cx} {pos : Pos} {k v : Expr} {tk tv : TE} (hu : X.A.units + 1 < cLine) (hk : PE X k tk) (hv : PE X v tv) : PE X (.Dict [some k] [v] pos) (tDisp1T tk tv) := by
  refine ⟨fun pins s σ H Q I q => ?_⟩
  have hn := I.hok.fresh (Nat.le_refl s.heap.objs.size)
  have I1 := I.laid (a := s.heap.objs.size) (o := .dT []) (h' := s.heap.push { cls := .type "dict", data := .dict #[] }) (t' := s.toks) (fun _ _ q => Heap.get?_push_of_some _ q) (Nat.le_refl _) (dt_empty s.heap I.big)
  refine wpAny_Dict_any rfl rfl (by simp) (by simp) ?_
  refine pairTrees_cons_walk (thn (hk.run pins _ σ _ _ I1 (q _ hn)) fun u s1 ⟨x, H1, I2, rx, q1⟩ => thn (hv.run pins s1 σ H1 _ I2 q1) fun w2 s2 ⟨y, H2, I3, ry, q2⟩ => pairTrees_nil_walk ?_)
  obtain ⟨e, kk, b, ex, eb, q3⟩ := q2
  subst ex
  cases (show u = Value.ref b from rx)
  unfold storeAll
  rw [List.forIn_cons]
  refine wpAny_bind (wpAny_bind ?_)
  obtain ⟨z, hd, xs, rel, dd⟩ := dt_of I3.hok e
  have hz : xs.length ≤ sizeLine := by rw [← Paired.length rel]; exact z
  refine wpAny_dictSet_heap (hsz := hz) (show (tupleKind (mixKind X.prog X.w)).room X.A from Nat.lt_of_le_of_lt (Nat.le_succ _) hu) (key_of I3.hok eb) dd fun h' dd' hs => wpAny_pure ?_
  show wpAny _ _ (forIn [] PUnit.unit _) _ _ _
  rw [List.forIn_nil]
  refine wpAny_pure ?_
  obtain ⟨o, es, ep, hq, h2, h3, h4, _, h5⟩ := dd'
  refine ⟨.ref s.heap.objs.size, _, ?_, rfl, q3⟩
  refine d_write I3 (by rw [e]; exact True.intro) hs ⟨o, hq⟩ ⟨?_, hd, _, (rel.put kk eb ry).keeps fun c ys ec => ?_, o, es, ep, hq, h2, h3, h4, h5⟩
  · show 1 ≤ sizeLine
    decide
  · rw [upd_ne (ne_of ec e (fun z => nomatch z))]
    exact ec
section
variable {K : PySem.W.Frag} {B : Bd} {w w' : Wd} {σ : L2.St} {e : En}
/-- an object that nobody holds changes -/
theorem chg (st : Stt K B w σ e) {p : Addr} {o o' : HO} (h1 : w.H p = some o) (h2 : w.F p = none) (h3 : ¬ w.O p) : Stt K B ⟨w.F, upd w.H p o', w.O⟩ σ e := by
  have nF : ∀ {a u}, w.F a = some u → a ≠ p := fun q z => by rw [z, h2] at q; cases q
  refine ⟨fun a u q => ?_, st.len, fun i s q => ?_, st.inj, st.ow, st.pin, st.pins, fun a q => st.dom a ?_, st.fr⟩
  · have q' : w.F a = some u := q
    show upd w.H p o' a = some u
    rw [upd_ne (nF q')]; exact st.sub a u q'
  · have k := st.sl i s q
    cases s with
    | dead => trivial
    | val c d => exact k
    | lck c => exact k
    | own c m =>
      obtain ⟨x, xs, k1, k2, k3, k4⟩ := k
      refine ⟨x, xs, k1, ?_, k3, k4⟩
      show upd w.H p o' x = some xs
      rw [upd_ne (fun z => h3 (by subst z; exact (st.ow x).mpr ⟨i, c, m, q, k1⟩))]
      exact k2
  · have q' : upd w.H p o' a = none := q
    by_cases z : a = p
    · subst z; rw [upd_same] at q'; cases q'
    · rw [upd_ne z] at q'; exact q'
theorem stay (le : Le w w') {p : Addr} {o : HO} (h1 : w.H p = some o) (h2 : w.F p = none) (h3 : ¬ w.O p) (nt : ∀ xs, o ≠ .tup xs) : w'.H p = some o ∧ w'.F p = none ∧ ¬ w'.O p := by
  refine ⟨le.keep _ _ h1 h3, ?_, fun z => ?_⟩
  · cases q : w'.F p with
    | none => rfl
    | some u =>
      rcases le.new _ u q with z | z | z | ⟨xs, z⟩
      · rw [z] at h2; cases h2
      · rw [z] at h1; cases h1
      · exact absurd z h3
      · rw [z] at h1; cases h1; exact absurd rfl (nt xs)
  · rcases le.own _ z with z | z
    · exact h3 z
    · rw [z] at h1; cases h1
end
def fDisp1T (fk fv : FE) : FV := fun e => (fk e).bind fun p => (fv p.2).bind fun q => match look q.2 p.1 with
  | some (.tuple l) => (frz q.2 q.1).bind fun z => if l.all isK = true then some (.fresh (tD [(.tuple l, z.1)]), z.2) else none
  | _ => none
theorem d_disp1T {X : Cx} {pos : Pos} {k v : Expr} {fk fv : FE} (hu : X.A.units + 1 < cLine) (hk : PE X k (tE X.K fk)) (hv : PE X v (tE X.K fv)) : PE X (.Dict [some k] [v] pos) (tV X.K (fDisp1T fk fv)) := by
  refine pe_imp (pe_disp1T hu hk hv) fun σ H Q ⟨B, w, e, r, e', hH, st, hf, q⟩ => ?_
  subst hH
  intro p np
  obtain ⟨⟨r1, e1⟩, j1, j2⟩ := Option.bind_eq_some_iff.mp hf
  obtain ⟨⟨r2, e2⟩, j3, j4⟩ := Option.bind_eq_some_iff.mp j2
  obtain ⟨l0, st0⟩ := st.addL (o := .dT []) np
  have a0 : (w.addL p (.dT [])).H p = some (.dT []) := upd_same
  refine ⟨B, w.addL p (.dT []), e, r1, e1, rfl, st0, j1, fun v1 w1 s1 l1 p1 => ?_⟩
  refine ⟨B, w1, e1, r2, e2, rfl, s1, j3, fun v2 w2 s2 l2 p2 => ?_⟩
  simp only at j4
  split at j4
  · rename_i l hl
    have ti := look_ok s2 hl (p1.later l2)
    obtain ⟨⟨d, e3⟩, m1, m2⟩ := Option.bind_eq_some_iff.mp j4
    obtain ⟨w3, n1, s3, l3, dq⟩ := frz_ok s2 m1 p2
    simp only at m2
    split at m2
    · rename_i hc
      cases m2
      obtain ⟨bk, kk, e4, e5, e6⟩ := key_at s2.sub ti hc
      subst e4
      have le03 := (l1.trans l2).trans l3
      obtain ⟨b1, b2, b3⟩ := stay le03 a0 (st.nF np) (st.nO np) (fun xs z => nomatch z)
      rw [← n1]
      refine ⟨b1, kk, bk, rfl, by rw [n1]; exact e5, ?_⟩
      have leF : Le w ⟨w3.F, upd w3.H p (.dT [(kk, v2)]), w3.O⟩ := by
        have z := l0.trans le03
        refine ⟨z.fz, fun a u h n => ?_, z.new, z.own, fun a h => z.dom a ?_⟩
        · have y := z.keep a u h n
          have np' : a ≠ p := fun c => by subst c; rw [np] at h; cases h
          show upd w3.H p _ a = some u
          rw [upd_ne np']; exact y
        · have h' : upd w3.H p (.dT [(kk, v2)]) a = none := h
          by_cases c : a = p
          · subst c; rw [upd_same] at h'; cases h'
          · rw [upd_ne c] at h'; exact h'
      refine q (.ref p) ⟨w3.F, upd w3.H p (.dT [(kk, v2)]), w3.O⟩ (chg s3 b1 b2 b3) leF ⟨p, _, rfl, upd_same, b2, b3, np, ?_⟩
      rw [e6]
      exact .dctT (.cons dq .nil)
    · cases m2
  · cases j4
/-! ### reading, locked or not -/
section
variable {X : Cx} {a x : Expr} {f g : FE} {y : Str} {i : Nat} {p apos cpos spos tpos : Pos}
def isL (e : En) (i : Nat) : Bool := match e[i]? with
  | some (.lck _) => true
  | _ => false
def fGetT2 (i : Nat) (f g : FE) : FV := fun e => if isL e i = true then fGetTL i f g e else fGetT i f g e
def fIxT2 (i : Nat) (f : FE) : FV := fun e => if isL e i = true then fIxTL i f e else fIxT i f e
theorem pe_or {X : Cx} {e : Expr} {t u : TE} (h : PE X e t) (k : PE X e u) : PE X e (fun σ H Q => t σ H Q ∨ u σ H Q) := ⟨fun pins s σ H Q I hw => hw.elim (h.run pins s σ H Q I) (k.run pins s σ H Q I)⟩
theorem tV_ite {K : PySem.W.Frag} {σ : L2.St} {H : Hp} {Q : VK} {c : En → Bool} {m n : FV} (h : tV K (fun e => if c e = true then m e else n e) σ H Q) : tV K m σ H Q ∨ tV K n σ H Q := by
  obtain ⟨B, w, e, r, e', hH, st, hf, q⟩ := h
  have hf : (if c e = true then m e else n e) = some (r, e') := hf
  by_cases z : c e = true
  · rw [if_pos z] at hf; exact .inl ⟨B, w, e, r, e', hH, st, hf, q⟩
  · rw [if_neg z] at hf; exact .inr ⟨B, w, e, r, e', hH, st, hf, q⟩
theorem d_getT2 (hu : X.A.units + 1 < cLine) (hv : PE X (.Name y p) (tVar i)) (hk : PE X a (tE X.K f)) (hx : PE X x (tE X.K g)) (m : M2 X (.Name y p) "get" apos a x cpos) :
    PE X (.Call (.Attribute (.Name y p) "get" apos) [a, x] [] cpos) (tV X.K (fGetT2 i f g)) := pe_imp (pe_or (d_getTL hu hv hk hx m) (d_getT hu hv hk hx m)) fun σ H Q h => tV_ite h
theorem d_ixT2 (hu : X.A.units + 1 < cLine) (hv : PE X (.Name y p) (tVar i)) (hk : PE X a (tE X.K f)) (hs : NoSl a) : PE X (.Subscript (.Name y p) a spos) (tV X.K (fIxT2 i f)) := pe_imp (pe_or (d_ixTL hu hv hk hs) (d_ixT hu hv hk hs)) fun σ H Q h => tV_ite h
end
/-! ### typed dicts -/
def dget {κ ν : Type} [DecidableEq κ] (d : List (κ × ν)) (k : κ) : Option ν := (d.find? fun p => decide (p.1 = k)).map (·.2)
def dput {κ ν : Type} [DecidableEq κ] (d : List (κ × ν)) (k : κ) (v : ν) : List (κ × ν) := if (d.any fun p => decide (p.1 = k)) = true then d.map (fun p => if p.1 = k then (p.1, v) else p) else d ++ [(k, v)]
def dputO {κ ν : Type} [DecidableEq κ] (d : List (κ × ν)) (k : κ) (v : ν) : Option (List (κ × ν)) := if d.length < SZ then some (dput d k v) else none
def encE {κ ν : Type} (f : κ → D) (g : ν → D) (d : List (κ × ν)) : List (D × D) := d.map fun p => (f p.1, g p.2)
def eDT {κ ν : Type} (f : κ → D) (g : ν → D) (d : List (κ × ν)) : D := tD (encE f g d)
def eDK {κ ν : Type} (f : κ → D) (g : ν → D) (d : List (κ × ν)) : D := kD (encE f g d)
class EncKeyT {κ : Type} [DecidableEq κ] (f : κ → D) where
  tl : κ → List D
  tup : ∀ k, f k = .tuple (tl k)
  isk : ∀ k, (tl k).all isK = true
  keq : ∀ a b, keyEq (f a) (f b) = decide (a = b)
class EncKey1 {κ : Type} [DecidableEq κ] (f : κ → D) : Prop where
  isk : ∀ k, isK (f k) = true
  keq : ∀ a b, keyEq1 (f a) (f b) = decide (a = b)
end DL

set_option Elab.async false
set_option linter.all false
set_option maxRecDepth 100000
set_option maxHeartbeats 2000000
/-! DL31: typed dicts; rules. -/
namespace DL
open PySem PySem.Spec PyProof.Rows L2
section
variable {κ ν : Type} [DecidableEq κ] {f : κ → D} {g : ν → D}
theorem valE_enc [q : EncKeyT f] (k : κ) : ∀ d : List (κ × ν), valE (encE f g d) (f k) = (dget d k).map g
  | [] => rfl
  | p :: d => by
    have ih := valE_enc k d
    unfold valE dget encE at *
    rw [List.map_cons, List.find?_cons, List.find?_cons]
    dsimp only
    rw [q.keq]
    by_cases c : p.1 = k
    · simp [c]
    · simp only [c, decide_false]
      exact ih
theorem any_enc [q : EncKeyT f] (k : κ) : ∀ d : List (κ × ν), ((encE f g d).any fun e => keyEq e.1 (f k)) = d.any fun p => decide (p.1 = k)
  | [] => rfl
  | p :: d => by
    have ih := any_enc k d
    unfold encE at *
    rw [List.map_cons, List.any_cons, List.any_cons, ih, q.keq]
theorem putE_enc [q : EncKeyT f] (k : κ) (v : ν) (d : List (κ × ν)) : putE (encE f g d) (f k) (g v) = encE f g (dput d k v) := by
  unfold putE dput
  rw [any_enc]
  split
  · unfold encE
    rw [List.map_map, List.map_map]
    refine List.map_congr_left fun p _ => ?_
    dsimp only [Function.comp]
    rw [q.keq]
    by_cases c : p.1 = k <;> simp [c]
  · unfold encE
    rw [List.map_append]
    rfl
variable {e : En} {i : Nat} {P2 : Res → En → Prop} {P5 : Fl → Prop} {ff fg : FE} {fv : FV}
/-- slot i holds the dict, locked or not -/
def AtD (e : En) (i : Nat) (c : D) : Prop := e[i]? = some (.lck c) ∨ ∃ b, e[i]? = some (.own b c)
theorem okh_getT [q : EncKeyT f] {d0 : List (κ × ν)} (h0 : AtD e i (eDT f g d0)) (a : Ev (ff e) fun r1 e1 => Ev (fg e1) fun r2 e2 => ∃ k, look e2 r1 = some (f k) ∧ Ev (frz e2 r2) fun z e3 => ∃ d x, z = g x ∧ AtD e3 i (eDT f g d) ∧ (e3[i]? = some (.lck (eDT f g d)) ↔ e[i]? = some (.lck (eDT f g d0))) ∧ P2 (.val (g ((dget d k).getD x))) e3) : Ev (fGetT2 i ff fg e) P2 := by
  obtain ⟨r1, e1, h1, r2, e2, h2, k, h3, z, e3, h4, d, x, h5, h6, h7, h8⟩ := a
  have key : (valE (encE f g d) (f k)).getD z = g ((dget d k).getD x) := by
    rw [valE_enc, h5]
    cases dget d k <;> rfl
  have tk := q.tup k
  rcases h0 with h0 | ⟨b, h0⟩
  · have hL : isL e i = true := by unfold isL; rw [h0]
    have h9 := h7.mpr h0
    unfold fGetT2
    rw [if_pos hL]
    refine ⟨_, e3, ?_, h8⟩
    unfold fGetTL
    rw [h0]
    show ((ff e).bind _) = _
    rw [h1]
    show ((fg e1).bind _) = _
    rw [h2]
    simp only [Option.bind_some]
    rw [h3, tk]
    show ((frz e2 r2).bind _) = _
    rw [h4]
    simp only [Option.bind_some]
    rw [h9]
    show (if (q.tl k).all isK = true then some (Res.val ((valE (encE f g d) (.tuple (q.tl k))).getD z), e3) else none) = _
    rw [if_pos (q.isk k), ← tk, key]
  · have hL : ¬ isL e i = true := by unfold isL; rw [h0]; exact Bool.false_ne_true
    have h9 : ∃ b, e3[i]? = some (.own b (eDT f g d)) := by
      rcases h6 with h6 | h6
      · have := h7.mp h6
        rw [h0] at this
        cases this
      · exact h6
    obtain ⟨b2, h9⟩ := h9
    unfold fGetT2
    rw [if_neg hL]
    refine ⟨_, e3, ?_, h8⟩
    unfold fGetT
    rw [h0]
    show ((ff e).bind _) = _
    rw [h1]
    show ((fg e1).bind _) = _
    rw [h2]
    simp only [Option.bind_some]
    rw [h3, tk]
    show ((frz e2 r2).bind _) = _
    rw [h4]
    simp only [Option.bind_some]
    rw [h9]
    show (if (q.tl k).all isK = true then some (Res.val ((valE (encE f g d) (.tuple (q.tl k))).getD z), e3) else none) = _
    rw [if_pos (q.isk k), ← tk, key]
theorem okh_ixDT [q : EncKeyT f] {d0 : List (κ × ν)} (h0 : AtD e i (eDT f g d0)) (a : Ev (ff e) fun r1 e1 => ∃ k d v, look e1 r1 = some (f k) ∧ AtD e1 i (eDT f g d) ∧ (e1[i]? = some (.lck (eDT f g d)) ↔ e[i]? = some (.lck (eDT f g d0))) ∧ dget d k = some v ∧ P2 (.val (g v)) e1) : Ev (fIxT2 i ff e) P2 := by
  obtain ⟨r1, e1, h1, k, d, v, h3, h6, h7, hv, h8⟩ := a
  have key : valE (encE f g d) (f k) = some (g v) := by rw [valE_enc, hv]; rfl
  have tk := q.tup k
  rcases h0 with h0 | ⟨b, h0⟩
  · have hL : isL e i = true := by unfold isL; rw [h0]
    have h9 := h7.mpr h0
    unfold fIxT2
    rw [if_pos hL]
    refine ⟨_, e1, ?_, h8⟩
    unfold fIxTL
    rw [h0]
    show ((ff e).bind _) = _
    rw [h1]
    simp only [Option.bind_some]
    rw [h3, tk]
    simp only
    rw [h9]
    show (if (q.tl k).all isK = true then (valE (encE f g d) (.tuple (q.tl k))).map fun d => (Res.val d, e1) else none) = _
    rw [if_pos (q.isk k), ← tk, key]
    rfl
  · have hL : ¬ isL e i = true := by unfold isL; rw [h0]; exact Bool.false_ne_true
    have h9 : ∃ b, e1[i]? = some (.own b (eDT f g d)) := by
      rcases h6 with h6 | h6
      · have := h7.mp h6
        rw [h0] at this
        cases this
      · exact h6
    obtain ⟨b2, h9⟩ := h9
    unfold fIxT2
    rw [if_neg hL]
    refine ⟨_, e1, ?_, h8⟩
    unfold fIxT
    rw [h0]
    show ((ff e).bind _) = _
    rw [h1]
    simp only [Option.bind_some]
    rw [h3, tk]
    simp only
    rw [h9]
    show (if (q.tl k).all isK = true then (valE (encE f g d) (.tuple (q.tl k))).map fun d => (Res.val d, e1) else none) = _
    rw [if_pos (q.isk k), ← tk, key]
    rfl
theorem okh_getTl [q : EncKeyT f] {d0 : List (κ × ν)} (h0 : e[i]? = some (.lck (eDT f g d0))) (a : Ev (ff e) fun r1 e1 => Ev (fg e1) fun r2 e2 => ∃ k, look e2 r1 = some (f k) ∧ Ev (frz e2 r2) fun z e3 => ∃ d x, z = g x ∧ e3[i]? = some (.lck (eDT f g d)) ∧ P2 (.val (g ((dget d k).getD x))) e3) : Ev (fGetT2 i ff fg e) P2 :=
  okh_getT (.inl h0) (ev_of a fun r1 e1 z => ev_of z fun r2 e2 ⟨k, h1, z⟩ => ⟨k, h1, ev_of z fun z e3 ⟨d, x, h2, h3, h4⟩ => ⟨d, x, h2, .inl h3, ⟨fun _ => h0, fun _ => h3⟩, h4⟩⟩)
theorem okh_getTo [q : EncKeyT f] {d0 : List (κ × ν)} {b0 : Bool} (h0 : e[i]? = some (.own b0 (eDT f g d0))) (a : Ev (ff e) fun r1 e1 => Ev (fg e1) fun r2 e2 => ∃ k, look e2 r1 = some (f k) ∧ Ev (frz e2 r2) fun z e3 => ∃ b d x, z = g x ∧ e3[i]? = some (.own b (eDT f g d)) ∧ P2 (.val (g ((dget d k).getD x))) e3) : Ev (fGetT2 i ff fg e) P2 :=
  okh_getT (.inr ⟨_, h0⟩) (ev_of a fun r1 e1 z => ev_of z fun r2 e2 ⟨k, h1, z⟩ => ⟨k, h1, ev_of z fun z e3 ⟨b, d, x, h2, h3, h4⟩ => ⟨d, x, h2, .inr ⟨b, h3⟩, ⟨fun h => (by rw [h3] at h; cases h), fun h => (by rw [h0] at h; cases h)⟩, h4⟩⟩)
theorem okh_ixTl [q : EncKeyT f] {d0 : List (κ × ν)} (h0 : e[i]? = some (.lck (eDT f g d0))) (a : Ev (ff e) fun r1 e1 => ∃ k d v, look e1 r1 = some (f k) ∧ e1[i]? = some (.lck (eDT f g d)) ∧ dget d k = some v ∧ P2 (.val (g v)) e1) : Ev (fIxT2 i ff e) P2 :=
  okh_ixDT (.inl h0) (ev_of a fun r1 e1 ⟨k, d, v, h1, h3, h4, h5⟩ => ⟨k, d, v, h1, .inl h3, ⟨fun _ => h0, fun _ => h3⟩, h4, h5⟩)
theorem okh_ixTo [q : EncKeyT f] {d0 : List (κ × ν)} {b0 : Bool} (h0 : e[i]? = some (.own b0 (eDT f g d0))) (a : Ev (ff e) fun r1 e1 => ∃ k b d v, look e1 r1 = some (f k) ∧ e1[i]? = some (.own b (eDT f g d)) ∧ dget d k = some v ∧ P2 (.val (g v)) e1) : Ev (fIxT2 i ff e) P2 :=
  okh_ixDT (.inr ⟨_, h0⟩) (ev_of a fun r1 e1 ⟨k, b, d, v, h1, h3, h4, h5⟩ => ⟨k, d, v, h1, .inr ⟨b, h3⟩, ⟨fun h => (by rw [h3] at h; cases h), fun h => (by rw [h0] at h; cases h)⟩, h4, h5⟩)
theorem isLck_pin {s : Slot} (h : s.pin = false) : isLck s = false := by cases s <;> first | rfl | cases h
theorem okh_putT [q : EncKeyT f] (a : Ev (fv e) fun r e1 => ∃ x b0 d0, (r = .val (g x) ∧ e1[i]? = some (.own b0 (eDT f g d0))) ∧ Ev (ff e1) fun r1 e2 => ∃ b d k d' e', (look e2 r1 = some (f k) ∧ e2[i]? = some (.own b (eDT f g d))) ∧ dputO d k x = some d' ∧ e2.set i (.own b (eDT f g d')) = e' ∧ P5 (.next e')) : Ok (sPutT i ff fv e) P5 := by
  refine ok_putT (ev_of a fun r e1 ⟨x, b0, d0, ⟨h1, h2⟩, z⟩ => ?_)
  subst h1
  refine isV (isTD h2 (ev_of z fun r1 e2 ⟨b, d, k, d', e', ⟨h3, h4⟩, h5, h6, h7⟩ => ok_look (h3.trans (congrArg some (q.tup k))) (isTup (isTD h4 ?_))))
  unfold dputO at h5
  split at h5
  · rename_i c
    cases h5
    refine ⟨⟨q.isk k, by unfold encE; rw [List.length_map]; exact c⟩, ?_⟩
    rw [← q.tup k, putE_enc]
    subst h6
    exact h7
  · cases h5
theorem okh_disp1T [q : EncKeyT f] (a : Ev (ff e) fun r1 e1 => Ev (fg e1) fun r2 e2 => ∃ k, look e2 r1 = some (f k) ∧ Ev (frz e2 r2) fun z e3 => ∃ x, z = g x ∧ P2 (.fresh (eDT f g [(k, x)])) e3) : Ev (fDisp1T ff fg e) P2 := by
  obtain ⟨r1, e1, h1, r2, e2, h2, k, h3, z, e3, h4, x, h5, h8⟩ := a
  have tk := q.tup k
  refine ⟨_, e3, ?_, h8⟩
  unfold fDisp1T
  rw [h1]
  show ((fg e1).bind _) = _
  rw [h2]
  simp only [Option.bind_some]
  rw [h3, tk]
  show ((frz e2 r2).bind _) = _
  rw [h4]
  simp only [Option.bind_some]
  rw [if_pos (q.isk k), ← tk, h5]
  rfl
theorem okt_newT (k : P2 (.fresh (eDT f g [])) e) : Ev (fNewT e) P2 := ok_newT k
end
/-! keys -/
theorem keyEqs_map {α : Type} [DecidableEq α] (f : α → D) [q : EncKey1 f] : ∀ a b : List α, keyEqs (a.map f) (b.map f) = decide (a = b)
  | [], [] => rfl
  | [], _ :: _ => rfl
  | _ :: _, [] => rfl
  | x :: xs, y :: ys => by
    show (keyEq1 (f x) (f y) && keyEqs (xs.map f) (ys.map f)) = _
    rw [q.keq, keyEqs_map f xs ys]
    by_cases h1 : x = y <;> by_cases h2 : xs = ys <;> simp [h1, h2]
/-! the lock -/
theorem ok_sLk {i : Nat} {g : FS} {e : En} {P5 : Fl → Prop} {es : List (D × D)} (e' : En) (h0 : e[i]? = some (.own false (.dict es))) (h1 : e.set i (.lck (.dict es)) = e')
    (k : Ok (g e') fun fl => ∃ fl', unlF i (e'.map isLck) fl = some fl' ∧ P5 fl') : Ok (sLk i g e) P5 := by
  obtain ⟨fl, h2, fl', h3, h4⟩ := k
  refine ⟨fl', ?_, h4⟩
  unfold sLk
  rw [h0]
  subst h1
  show ((g _).bind _) = _
  rw [h2]
  exact h3
theorem unl_next {i : Nat} {m : List Bool} {e e' : En} {P5 : Fl → Prop} (h : unlE i m e = some e') (k : P5 (.next e')) : ∃ fl', unlF i m (.next e) = some fl' ∧ P5 fl' := ⟨_, by show (unlE i m e).map _ = _; rw [h]; rfl, k⟩
theorem unl_ret {i : Nat} {m : List Bool} {e e' : En} {r : Res} {P5 : Fl → Prop} (h : unlE i m e = some e') (k : P5 (.ret r e')) : ∃ fl', unlF i m (.ret r e) = some fl' ∧ P5 fl' := ⟨_, by show (unlE i m e).map _ = _; rw [h]; rfl, k⟩
theorem okt_keysT {κ ν : Type} {f : κ → D} {g : ν → D} {i : Nat} {e : En} {P7 : List D → En → Prop} (d : List (κ × ν)) (h : e[i]? = some (.lck (eDT f g d))) (k : P7 ((d.map (·.1)).map f) e) : Ev (fKeys i e) P7 := by
  refine ⟨_, e, ?_, k⟩
  unfold fKeys
  rw [h]
  show some (((encE f g d).map (·.1)), e) = _
  unfold encE
  rw [List.map_map, List.map_map]
  rfl
end DL

set_option Elab.async false
set_option linter.all false
set_option maxRecDepth 100000
set_option maxHeartbeats 2000000
/-! DL32: a, b = x, y and a, b, c = x, y, z, new lists kept, also where a name is a cell. -/
namespace DL
open PySem PySem.Spec PyProof.Rows L2
section
variable {K : PySem.W.Frag} {B : Bd} {w w1 w2 : Wd} {σ : L2.St} {e : En} {v1 v2 : V} {r1 r2 : Res} {H0 : Hp}
theorem res_ne (ok1 : ResOK K H0 w1 v1 r1) (ok2 : ResOK K w1.H w2 v2 r2) : ∀ l, r1 = .fresh l → ∀ l2, r2 = .fresh l2 → v1 ≠ v2 := fun l h1 l2 h2 z => by
  subst h1 h2
  obtain ⟨a, o, a1, a2, _⟩ := ok1
  obtain ⟨b, u, b1, _, _, _, b5, _⟩ := ok2
  rw [a1, b1] at z
  cases z
  rw [a2] at b5
  cases b5
theorem res_keep (s2 : Stt K B w σ e) {i : Nat} {o : Slot} (hi : e[i]? = some o) (ok2 : ResOK K H0 w v2 r2) (hne : ∀ l, r1 = .fresh l → ∀ l2, r2 = .fresh l2 → v1 ≠ v2) :
    ResOK K H0 ⟨w.F, w.H, ownO (σ.set i (some v1)) (e.set i (setR r1))⟩ v2 r2 := by
  cases r2 with
  | val d => exact ok2
  | fresh l =>
    obtain ⟨c, us, c1, c2, c3, c4, c5, c6⟩ := ok2
    refine ⟨c, us, c1, c2, c3, fun z => ?_, c5, c6⟩
    obtain ⟨n, b, l', z1, z2⟩ := z
    rw [get_set] at z1
    by_cases y : i = n
    · subst y
      rw [if_pos ⟨rfl, lt_of_get hi⟩] at z1
      rw [List.getElem?_set_self (by rw [s2.len]; exact lt_of_get hi)] at z2
      cases r1 with
      | val d => cases z1
      | fresh l1' =>
        have e1 : v1 = .ref c := by simpa using z2
        exact hne _ rfl _ rfl (by rw [e1, c1])
    · rw [if_neg fun q => y q.1] at z1
      rw [List.getElem?_set_ne y] at z2
      exact c4 ((s2.ow c).mpr ⟨n, b, l', z1, z2⟩)
end
section
variable {X : Cx} {f f2 f3 : FV} {a b c : Expr} {i j k : Nat} {x y z : Str} {px py pz pt pos : Pos} {kt k2 : Nat} {pt2 : Pos}
/-- two stores -/
theorem two_st {K : PySem.W.Frag} {B : Bd} {w0 w : Wd} {σ : L2.St} {e e3 e4 : En} {v1 v2 : V} {r1 r2 : Res} (st : Stt K B w σ e) (le : Le w0 w) (hd : ∀ a, w0.H a = none → B.H0 a = none) (ok1 : ResOK K w0.H w v1 r1) (ok2 : ResOK K w0.H w v2 r2) (hne : ∀ l, r1 = .fresh l → ∀ l2, r2 = .fresh l2 → v1 ≠ v2)
    (k5 : putV i (setR r1) e = some e3) (k7 : putV j (setR r2) e3 = some e4) : ∃ w', w'.H = w.H ∧ Stt K B w' ((σ.set i (some v1)).set j (some v2)) e4 ∧ Le w0 w' := by
  obtain ⟨o1, j1, j2, j3⟩ := put_some k5
  obtain ⟨o2, m1, m2, m3⟩ := put_some k7
  subst j3 m3
  obtain ⟨a1, a2⟩ := set_stt st le ok1 hd j1 j2
  have ok2' := res_keep (r1 := r1) (v1 := v1) st j1 ok2 hne
  obtain ⟨b1, b2⟩ := set_stt a1 a2 ok2' hd m1 m2
  exact ⟨⟨w.F, w.H, ownO ((σ.set i (some v1)).set j (some v2)) ((e.set i (setR r1)).set j (setR r2))⟩, rfl, b1, b2⟩
theorem three_st {K : PySem.W.Frag} {B : Bd} {w0 w : Wd} {σ : L2.St} {e e3 e4 e5 : En} {v1 v2 v3 : V} {r1 r2 r3 : Res} (st : Stt K B w σ e) (le : Le w0 w) (hd : ∀ a, w0.H a = none → B.H0 a = none) (ok1 : ResOK K w0.H w v1 r1) (ok2 : ResOK K w0.H w v2 r2) (ok3 : ResOK K w0.H w v3 r3)
    (h12 : ∀ l, r1 = .fresh l → ∀ l2, r2 = .fresh l2 → v1 ≠ v2) (h13 : ∀ l, r1 = .fresh l → ∀ l2, r3 = .fresh l2 → v1 ≠ v3) (h23 : ∀ l, r2 = .fresh l → ∀ l2, r3 = .fresh l2 → v2 ≠ v3)
    (k5 : putV i (setR r1) e = some e3) (k7 : putV j (setR r2) e3 = some e4) (k9 : putV k (setR r3) e4 = some e5) : ∃ w', w'.H = w.H ∧ Stt K B w' (((σ.set i (some v1)).set j (some v2)).set k (some v3)) e5 ∧ Le w0 w' := by
  obtain ⟨o1, j1, j2, j3⟩ := put_some k5
  obtain ⟨o2, m1, m2, m3⟩ := put_some k7
  obtain ⟨o3, n1, n2, n3⟩ := put_some k9
  subst j3 m3 n3
  obtain ⟨a1, a2⟩ := set_stt st le ok1 hd j1 j2
  have ok2' := res_keep (r1 := r1) (v1 := v1) st j1 ok2 h12
  have ok3' := res_keep (r1 := r1) (v1 := v1) st j1 ok3 h13
  obtain ⟨b1, b2⟩ := set_stt a1 a2 ok2' hd m1 m2
  have ok3'' := res_keep (r1 := r2) (v1 := v2) a1 m1 ok3' h23
  obtain ⟨c1, c2⟩ := set_stt b1 b2 ok3'' hd n1 n2
  exact ⟨⟨w.F, w.H, ownO (((σ.set i (some v1)).set j (some v2)).set k (some v3)) (((e.set i (setR r1)).set j (setR r2)).set k (setR r3))⟩, rfl, c1, c2⟩
theorem res_dom {K : PySem.W.Frag} {H0 H1 : Hp} {w : Wd} {v : V} {r : Res} (h : ResOK K H1 w v r) (k : ∀ a, H1 a = none → H0 a = none) : ResOK K H0 w v r := h.mono k
/-- the pair is made: a name is a cell -/
theorem s_parT (hc : X.calm = true) (h1 : PE X a (tV X.K f)) (h2 : PE X b (tV X.K f2)) (g1 : PG X (.Name x px) (gName i)) (g2 : PG X (.Name y py) (gName j))
    (hw : swappedStores [.Tuple [.Name x px, .Name y py] kt pt] (.Tuple [a, b] k2 pt2) X.env = pure none := by rfl)
    (hs : swapsWithSole [.Tuple [.Name x px, .Name y py] kt pt] (.Tuple [a, b] k2 pt2) pos.line X.env = pure false := by rfl)
    (n1 : starEach [a, b] X.env = (false, eval a X.env) :: starEach [b] X.env := by rfl) (n2 : starEach [b] X.env = (false, eval b X.env) :: starEach [] X.env := by rfl)
    (q1 : (assignEach [.Name x px, .Name y py] X.env).map (·.2) = assign (.Name x px) X.env :: (assignEach [.Name y py] X.env).map (·.2) := by rfl) (q2 : (assignEach [.Name y py] X.env).map (·.2) = assign (.Name y py) X.env :: (assignEach [] X.env).map (·.2) := by rfl)
    (q3 : (assignEach [.Name x px, .Name y py] X.env).length = 2 := by rfl) (q4 : (assignEach [.Name x px, .Name y py] X.env).findIdx? (·.1) = none := by rfl)
    (q5 : (assignEach [.Tuple [.Name x px, .Name y py] kt pt] X.env).map (·.2) = [assign (.Tuple [.Name x px, .Name y py] kt pt) X.env] := by rfl) :
    PS X (.Assign [.Tuple [.Name x px, .Name y py] kt pt] (.Tuple [a, b] k2 pt2) pos) (tS X.K (sPar i j f f2)) := by
  refine ps_imp (ps_asg (pe_tup (pa_cons h1 (pa_cons h2 pa_nil n2) n1)) (pg_tup (n := 2) hc (pgs_cons g1 (pgs_cons g2 pgs_nil q2) q1) q3 q4) hs hw q5) fun D σ H ⟨B, w, e, fl, hH, st, hf, q⟩ => ?_
  obtain ⟨⟨r1, e1⟩, k1, k2⟩ := Option.bind_eq_some_iff.mp hf
  obtain ⟨⟨r2, e2⟩, k3, k4⟩ := Option.bind_eq_some_iff.mp k2
  obtain ⟨e3, k5, k6⟩ := Option.bind_eq_some_iff.mp k4
  obtain ⟨e4, k7, k8⟩ := Option.map_eq_some_iff.mp k6
  subst k8
  refine ⟨B, w, e, r1, e1, hH, st, k1, fun v1 w1 s1 l1 ok1 => ?_⟩
  refine ⟨B, w1, e1, r2, e2, rfl, s1, k3, fun v2 w2 s2 l2 ok2 => ?_⟩
  refine ⟨(by show 2 ≤ sizeLine; decide), fun p np => ?_⟩
  obtain ⟨l3, s3⟩ := s2.addL (o := .tup [v1, v2]) np
  have ne := res_ne ok1 ok2
  have o1 : ResOK X.K w.H (w2.addL p (.tup [v1, v2])) v1 r1 := (ok1.later l2 s1.sub).later l3 s2.sub
  have o2 : ResOK X.K w.H (w2.addL p (.tup [v1, v2])) v2 r2 := (ok2.mono fun c z => l1.dom c z).later l3 s2.sub
  obtain ⟨w', z1, z2, z3⟩ := two_st s3 ((l1.trans l2).trans l3) (fun c z => st.dom c z) o1 o2 ne k5 k7
  refine ⟨p, [v1, v2], rfl, .inl (.inl upd_same), rfl, v1, _, rfl, v2, _, rfl, rfl, ?_⟩
  have fin := q _ w' z2 z3
  rw [z1] at fin
  exact fin
def sPar3 (i j k : Nat) (f f2 f3 : FV) : FS := fun e => (f e).bind fun p => (f2 p.2).bind fun q => (f3 q.2).bind fun r => (putV i (setR p.1) r.2).bind fun e1 => (putV j (setR q.1) e1).bind fun e2 => (putV k (setR r.1) e2).map .next
theorem s_parT3 (hc : X.calm = true) (h1 : PE X a (tV X.K f)) (h2 : PE X b (tV X.K f2)) (h3 : PE X c (tV X.K f3)) (g1 : PG X (.Name x px) (gName i)) (g2 : PG X (.Name y py) (gName j)) (g3 : PG X (.Name z pz) (gName k))
    (hw : swappedStores [.Tuple [.Name x px, .Name y py, .Name z pz] kt pt] (.Tuple [a, b, c] k2 pt2) X.env = pure none := by rfl)
    (hs : swapsWithSole [.Tuple [.Name x px, .Name y py, .Name z pz] kt pt] (.Tuple [a, b, c] k2 pt2) pos.line X.env = pure false := by rfl)
    (n1 : starEach [a, b, c] X.env = (false, eval a X.env) :: starEach [b, c] X.env := by rfl) (n2 : starEach [b, c] X.env = (false, eval b X.env) :: starEach [c] X.env := by rfl) (n3 : starEach [c] X.env = (false, eval c X.env) :: starEach [] X.env := by rfl)
    (q1 : (assignEach [.Name x px, .Name y py, .Name z pz] X.env).map (·.2) = assign (.Name x px) X.env :: (assignEach [.Name y py, .Name z pz] X.env).map (·.2) := by rfl) (q2 : (assignEach [.Name y py, .Name z pz] X.env).map (·.2) = assign (.Name y py) X.env :: (assignEach [.Name z pz] X.env).map (·.2) := by rfl)
    (q2' : (assignEach [.Name z pz] X.env).map (·.2) = assign (.Name z pz) X.env :: (assignEach [] X.env).map (·.2) := by rfl)
    (q3 : (assignEach [.Name x px, .Name y py, .Name z pz] X.env).length = 3 := by rfl) (q4 : (assignEach [.Name x px, .Name y py, .Name z pz] X.env).findIdx? (·.1) = none := by rfl)
    (q5 : (assignEach [.Tuple [.Name x px, .Name y py, .Name z pz] kt pt] X.env).map (·.2) = [assign (.Tuple [.Name x px, .Name y py, .Name z pz] kt pt) X.env] := by rfl) :
    PS X (.Assign [.Tuple [.Name x px, .Name y py, .Name z pz] kt pt] (.Tuple [a, b, c] k2 pt2) pos) (tS X.K (sPar3 i j k f f2 f3)) := by
  refine ps_imp (ps_asg (pe_tup (pa_cons h1 (pa_cons h2 (pa_cons h3 pa_nil n3) n2) n1)) (pg_tup (n := 3) hc (pgs_cons g1 (pgs_cons g2 (pgs_cons g3 pgs_nil q2') q2) q1) q3 q4) hs hw q5) fun D σ H ⟨B, w, e, fl, hH, st, hf, q⟩ => ?_
  obtain ⟨⟨r1, e1⟩, k1, k2⟩ := Option.bind_eq_some_iff.mp hf
  obtain ⟨⟨r2, e2⟩, k3, k4⟩ := Option.bind_eq_some_iff.mp k2
  obtain ⟨⟨r3, e2'⟩, k3', k4'⟩ := Option.bind_eq_some_iff.mp k4
  obtain ⟨e3, k5, k6⟩ := Option.bind_eq_some_iff.mp k4'
  obtain ⟨e4, k7, k8⟩ := Option.bind_eq_some_iff.mp k6
  obtain ⟨e5, k9, k10⟩ := Option.map_eq_some_iff.mp k8
  subst k10
  refine ⟨B, w, e, r1, e1, hH, st, k1, fun v1 w1 s1 l1 ok1 => ?_⟩
  refine ⟨B, w1, e1, r2, e2, rfl, s1, k3, fun v2 w2 s2 l2 ok2 => ?_⟩
  refine ⟨B, w2, e2, r3, e2', rfl, s2, k3', fun v3 w3 s3 l3 ok3 => ?_⟩
  refine ⟨(by show 3 ≤ sizeLine; decide), fun p np => ?_⟩
  obtain ⟨l4, s4⟩ := s3.addL (o := .tup [v1, v2, v3]) np
  have ok1' := ok1.later l2 s1.sub
  have o1 : ResOK X.K w.H (w3.addL p (.tup [v1, v2, v3])) v1 r1 := (ok1'.later l3 s2.sub).later l4 s3.sub
  have o2 : ResOK X.K w.H (w3.addL p (.tup [v1, v2, v3])) v2 r2 := ((ok2.mono fun c z => l1.dom c z).later l3 s2.sub).later l4 s3.sub
  have o3 : ResOK X.K w.H (w3.addL p (.tup [v1, v2, v3])) v3 r3 := (ok3.mono fun c z => (l1.trans l2).dom c z).later l4 s3.sub
  obtain ⟨w', z1, z2, z3⟩ := three_st s4 (((l1.trans l2).trans l3).trans l4) (fun c z => st.dom c z) o1 o2 o3 (res_ne ok1 ok2) (res_ne ok1' ok3) (res_ne ok2 ok3) k5 k7 k9
  refine ⟨p, [v1, v2, v3], rfl, .inl (.inl upd_same), rfl, v1, _, rfl, v2, _, rfl, v3, _, rfl, rfl, ?_⟩
  have fin := q _ w' z2 z3
  rw [z1] at fin
  exact fin
/-- a, b, c = x, y, z with plain local names -/
def tPar3 (i j k : Nat) (ta : TA) : TS := fun D σ H => ta σ H fun vs H1 => ∃ v w u, vs = [v, w, u] ∧ D.nx (((σ.set i (some v)).set j (some w)).set k (some u)) H1
theorem ps_par3 {ta : TA} (hc : X.calm = true) (hN : X.N.Nodup) (hi : X.N[i]? = some x) (hj : X.N[j]? = some y) (hk : X.N[k]? = some z) (hij : i ≠ j) (hik : i ≠ k) (hjk : j ≠ k)
    (hx : X.env.scope.names.lookup x = some .local) (hy : X.env.scope.names.lookup y = some .local) (hz : X.env.scope.names.lookup z = some .local) (ha : PA X [a, b, c] ta)
    (hw : swappedStores [.Tuple [.Name x px, .Name y py, .Name z pz] kt pt] (.Tuple [a, b, c] k2 pt2) X.env = pure (some [x, y, z]))
    (hs : swapsWithSole [.Tuple [.Name x px, .Name y py, .Name z pz] kt pt] (.Tuple [a, b, c] k2 pt2) pos.line X.env = pure false := by rfl) :
    PS X (.Assign [.Tuple [.Name x px, .Name y py, .Name z pz] kt pt] (.Tuple [a, b, c] k2 pt2) pos) (tPar3 i j k ta) := by
  refine ⟨fun pins s σ H D I h => ?_⟩
  rw [exec_Assign_arm]
  refine wpAny_bind (wpAny_standAt ?_)
  rw [hs]
  refine wpAny_bind (wpAny_pure ?_)
  rw [if_neg (by decide)]
  refine wpAny_bind (Tuple_ (thn (ha.run _ pins s σ H _ I h) fun us s1 ⟨vs, H1, I1, r1, q1⟩ => ?_))
  obtain ⟨v, w, u, e1, q1⟩ := q1
  subst e1
  obtain ⟨u1, u2, u3, rfl, rv, rw', ru⟩ : ∃ u1 u2 u3, us = [u1, u2, u3] ∧ RelV v u1 ∧ RelV w u2 ∧ RelV u u3 := by
    cases r1 with
    | cons p q =>
      cases q with
      | cons p' q' =>
        cases q' with
        | cons p'' q'' =>
          cases q''
          exact ⟨_, _, _, rfl, p, p', p''⟩
  refine wpAny_newObj_type ?_ (by show 3 ≤ sizeLine; decide)
  have I2 : Inv X pins σ H1 { s1 with heap := s1.heap.push { cls := .type "tuple", data := .seq [u1, u2, u3].toArray } } := I1.kept (t' := s1.toks) fun b o e => Heap.get?_push_of_some _ e
  rw [hw]
  refine wpAny_bind (wpAny_pure ?_)
  show wpAny (model X.prog X.w) X.A (do rule "assign.swapped-stores"; let items ← unpackItems (.ref s1.heap.objs.size) 3 none; assignInOrder [fun v => bindName X.env z v, fun v => bindName X.env y v, fun v => bindName X.env x v] items.reverse; pure Flow.next) _ _ _
  refine wpAny_bind (wpAny_rule (wpAny_bind (unpackItems_tuple (items := #[u1, u2, u3]) (I.ok.hd hc) (IsTup.new s1.heap _) fun h' hx' => ?_)))
  have I3 := I2.kept (h' := h') (t' := s1.toks) fun b o e => hx' b o (Nat.ne_of_lt (Heap.lt_size e)) e
  show wpAny _ _ (assignInOrder [fun v => bindName X.env z v, fun v => bindName X.env y v, fun v => bindName X.env x v] [u3, u2, u1] >>= fun _ => pure Flow.next) _ _ _
  refine wpAny_bind (assignInOrder_cons (wpAny_bindName (store_ok I3 hN hk (.inl hz) ru (fun s2 I4 => ?_) (.inr hz))))
  refine assignInOrder_cons (wpAny_bindName (store_ok I4 hN hj (.inl hy) rw' (fun s3 I5 => ?_) (.inr hy)))
  refine assignInOrder_cons (wpAny_bindName (store_ok I5 hN hi (.inl hx) rv (fun s4 I6 => assignInOrder_nil (wpAny_pure ?_)) (.inr hx)))
  rw [List.set_comm _ _ (Ne.symm hij), List.set_comm _ _ (Ne.symm hik), List.set_comm _ _ (Ne.symm hjk)] at I6
  exact ⟨_, H1, I6, q1⟩
theorem s_par3 (hc : X.calm = true) (hN : X.N.Nodup) (hi : X.N[i]? = some x) (hj : X.N[j]? = some y) (hk : X.N[k]? = some z) (hij : i ≠ j) (hik : i ≠ k) (hjk : j ≠ k)
    (hx : X.env.scope.names.lookup x = some .local) (hy : X.env.scope.names.lookup y = some .local) (hz : X.env.scope.names.lookup z = some .local) (h1 : PE X a (tV X.K f)) (h2 : PE X b (tV X.K f2)) (h3 : PE X c (tV X.K f3))
    (hw : swappedStores [.Tuple [.Name x px, .Name y py, .Name z pz] kt pt] (.Tuple [a, b, c] k2 pt2) X.env = pure (some [x, y, z]))
    (hs : swapsWithSole [.Tuple [.Name x px, .Name y py, .Name z pz] kt pt] (.Tuple [a, b, c] k2 pt2) pos.line X.env = pure false := by rfl)
    (n1 : starEach [a, b, c] X.env = (false, eval a X.env) :: starEach [b, c] X.env := by rfl) (n2 : starEach [b, c] X.env = (false, eval b X.env) :: starEach [c] X.env := by rfl) (n3 : starEach [c] X.env = (false, eval c X.env) :: starEach [] X.env := by rfl) :
    PS X (.Assign [.Tuple [.Name x px, .Name y py, .Name z pz] kt pt] (.Tuple [a, b, c] k2 pt2) pos) (tS X.K (sPar3 i j k f f2 f3)) := by
  refine ps_imp (ps_par3 hc hN hi hj hk hij hik hjk hx hy hz (pa_cons h1 (pa_cons h2 (pa_cons h3 pa_nil n3) n2) n1) hw hs) fun D σ H ⟨B, w, e, fl, hH, st, hf, q⟩ => ?_
  obtain ⟨⟨r1, e1⟩, k1, k2⟩ := Option.bind_eq_some_iff.mp hf
  obtain ⟨⟨r2, e2⟩, k3, k4⟩ := Option.bind_eq_some_iff.mp k2
  obtain ⟨⟨r3, e2'⟩, k3', k4'⟩ := Option.bind_eq_some_iff.mp k4
  obtain ⟨e3, k5, k6⟩ := Option.bind_eq_some_iff.mp k4'
  obtain ⟨e4, k7, k8⟩ := Option.bind_eq_some_iff.mp k6
  obtain ⟨e5, k9, k10⟩ := Option.map_eq_some_iff.mp k8
  subst k10
  refine ⟨B, w, e, r1, e1, hH, st, k1, fun v1 w1 s1 l1 ok1 => ?_⟩
  refine ⟨B, w1, e1, r2, e2, rfl, s1, k3, fun v2 w2 s2 l2 ok2 => ?_⟩
  refine ⟨B, w2, e2, r3, e2', rfl, s2, k3', fun v3 w3 s3 l3 ok3 => ?_⟩
  have ok1' := ok1.later l2 s1.sub
  have o1 : ResOK X.K w.H w3 v1 r1 := ok1'.later l3 s2.sub
  have o2 : ResOK X.K w.H w3 v2 r2 := (ok2.mono fun c z => l1.dom c z).later l3 s2.sub
  have o3 : ResOK X.K w.H w3 v3 r3 := (ok3.mono fun c z => (l1.trans l2).dom c z)
  obtain ⟨w', z1, z2, z3⟩ := three_st s3 ((l1.trans l2).trans l3) (fun c z => st.dom c z) o1 o2 o3 (res_ne ok1 ok2) (res_ne ok1' ok3) (res_ne ok2 ok3) k5 k7 k9
  refine ⟨v1, v2, v3, rfl, ?_⟩
  have fin := q _ w' z2 z3
  rw [z1] at fin
  exact fin
theorem ok_par3 {e : En} {P5 : Fl → Prop} (h : Ev (f e) fun r e => Ev (f2 e) fun s e => Ev (f3 e) fun t e => Ok (putV i (setR r) e) fun e => Ok (putV j (setR s) e) fun e => Ok (putV k (setR t) e) fun e => P5 (.next e)) : Ok (sPar3 i j k f f2 f3 e) P5 :=
  okE_bind (ev_of h fun _ _ z => okE_bind (ev_of z fun _ _ z => okE_bind (ev_of z fun _ _ z => ok_bindI (ok_of z fun _ z => ok_bindI (ok_of z fun _ z => ok_mapI z)))))
end
end DL

set_option Elab.async false
set_option linter.all false
set_option maxRecDepth 100000
set_option maxHeartbeats 2000000
/-! DL33: sorted of a tuple of ints. -/
namespace PySem.W
open PySem PySem.Spec PyProof.Rows
section
variable {prog : Program} {w : World} {A : Around} {E : Value → Shared → Prop} {s : Shared}
theorem collect_tupX {it : Addr} {vs : List Value} {Q : List Value → Shared → Prop} (ht : IsTup s.heap it vs.toArray)
    (h : Q vs { s with heap := (s.heap.push (seqObj "list" #[] 0)).update s.heap.objs.size (Obj.mapSeq (· ++ vs.toArray)) }) (hsz : vs.length ≤ sizeLine) :
    wpAny (model prog w) A (collect (.ref it)) Q E s := by
  obtain ⟨o, ho, hc, n, hd⟩ := ht
  have hs2 : vs.toArray.size ≤ sizeLine := by rw [List.size_toArray]; exact hsz
  unfold collect
  refine wpAny_bind (wpAny_runValue (codeAny_builtin F.entry_proto_collect ?_))
  rw [Around.under_plainId F.plain_proto_collect _]
  show wpAny _ A.in1 (newList [] >>= fun l => again (.builtin "list.__iadd__" ⟨[l, .ref it], []⟩)) _ _ s
  refine wpAny_bind (wpAny_newObj_type ?_)
  refine wpAny_pure ⟨plainId_quiet F.plain_list_iadd _, codeAny_builtin F.entry_list_iadd ?_⟩
  rw [Around.under_plainId F.plain_list_iadd _]
  show wpAny _ A.in1 (Builtin.List.listExtendWith (.ref s.heap.objs.size) (.ref it) (.ref s.heap.objs.size)) _ _ _
  have hS : (s.heap.push { cls := .type "list", data := .seq ([] : List Value).toArray }).get? s.heap.objs.size = some { cls := .type "list", data := .seq #[] 0 } := Heap.get?_push_size _ rfl
  have hS₂ := Heap.get?_update_self (Obj.mapSeq (· ++ vs.toArray)) hS rfl
  have fin' : wpAny (model prog w) A (match Value.ref s.heap.objs.size with
      | Value.ref a => do
        match (← load a).data with
          | Data.seq xs _ => pure xs.toList
          | _ => unsupported "internal:collect"
      | _ => unsupported "internal:collect") Q E { s with heap := (s.heap.push { cls := .type "list", data := .seq ([] : List Value).toArray }).update s.heap.objs.size (Obj.mapSeq (· ++ vs.toArray)) } := by
    show wpAny _ A (load s.heap.objs.size >>= _) _ _ _
    refine wpAny_bind (wpAny_load hS₂ ?_)
    refine wpAny_pure ?_
    have e : ((#[] : Array Value) ++ vs.toArray).toList = vs := by simp
    show Q ((#[] : Array Value) ++ vs.toArray).toList _
    rw [e]
    exact h
  refine wpAny_mono (wpAny_extend_seq (hsz := hs2) (A := A) (R := fun r s' => r = .ok (.ret (.ref s.heap.objs.size)) ∧ s' = { s with heap := (s.heap.push { cls := .type "list", data := .seq ([] : List Value).toArray }).update s.heap.objs.size (Obj.mapSeq (· ++ vs.toArray)) })
    (s := { s with heap := s.heap.push { cls := .type "list", data := .seq ([] : List Value).toArray } }) _ it _ 0 (.inr rfl) hS (Heap.get?_push_of_some _ ho) hc hd ⟨rfl, rfl⟩) (fun fin s' h => ?_) (fun e s' h => ?_)
  · cases fin with
    | done f =>
      obtain ⟨e, rfl⟩ := h
      cases e
      exact fin'
    | again c' => exact ⟨h.1, codeAny_mono h.2 fun r s'' hr => by obtain ⟨rfl, rfl⟩ := hr; exact fin'⟩
  · exact absurd h.1 (by simp)
theorem sorted_of_sortT {l : Addr} {vs : List Value} {kw : List (Str × Value)} {Q : Value → Shared → Prop} (hl : IsTup s.heap l vs.toArray) (hL : vs.length ≤ sizeLine) (ha1 : argsOk "sorted" ⟨[.ref l], kw⟩) (ha2 : ∀ x, argsOk "list.sort" ⟨[.ref x], kw⟩)
    (body : ∀ E' : Value → Shared → Prop, wpAny (model prog w) A.in1.in1 (Builtin.«list.sort» ⟨[.ref (s.heap.objs.size + 1)], kw⟩) (fun f s' => f = .done (.ret .none) ∧ Q (.ref (s.heap.objs.size + 1)) s') E' { s with heap := copyHeap s.heap vs }) :
    wpAny (model prog w) A (call (.builtin "sorted") [.ref l] kw) Q E s := by
  refine call_function_entry_kw kind_sorted plain_sorted entry_sorted ha1 ?_
  unfold Builtin.«sorted»
  refine wpAny_bind (m := checkCount "sorted" 1 1 _) (wpAny_pure ?_)
  refine wpAny_bind (collect_tupX hl ?_ hL)
  refine wpAny_bind (wpAny_newList ?_ hL)
  have hsz : ((s.heap.push (seqObj "list" #[] 0)).update s.heap.objs.size (Obj.mapSeq (· ++ vs.toArray))).objs.size = s.heap.objs.size + 1 := by
    rw [Heap.size_update, size_push']
  show wpAny _ _ _ _ _ { s with heap := copyHeap s.heap vs }
  rw [hsz]
  refine wpAny_bind (wpAny_holding (wpAny_call_entry_kw slot_list_sort ⟨_, copyHeap_at s.heap vs, rfl⟩ entry_list_sort ?body (ha2 _)))
  case body =>
    show wpAny (model prog w) A.in1.in1 (Builtin.«list.sort» ⟨[.ref (s.heap.objs.size + 1)], kw⟩) _ _ _
    refine wpAny_mono (body _) (fun f s' hf => ?_) fun _ _ e => e
    obtain ⟨rfl, hq⟩ := hf
    exact ⟨_, rfl, wpAny_pure ⟨_, rfl, hq⟩⟩
theorem sorted_dataT {β : Type} {R : Value → β → Prop} {enc : β → PyData} {vs : List Value} {bs : List β} {l : Addr} {Q : Value → Shared → Prop} (hl : IsTup s.heap l vs.toArray) (e : EachIs R vs bs) (er : EachIs (fun v b => ∃ as, Reads s.heap v (enc b) as) vs bs) (hal : AllAlike (bs.map enc)) (hk : Sortable (bs.map enc)) (hL : bs.length ≤ sizeLine)
    (hu : ∀ b, b ∈ bs → A.units + 2 + (enc b).depth < cLine) (h : ∀ out, out.length = bs.length → EachIs R out (bs.mergeSort (dataLe false enc)) → Q (.ref (s.heap.objs.size + 1)) { s with heap := sortedAll s.heap vs (List.toArray out) }) :
    wpAny (model prog w) A (call (.builtin "sorted") [.ref l]) Q E s := by
  have er' : EachIs (fun v b => ∃ as, Reads (sortingHeap (copyHeap s.heap vs) (s.heap.objs.size + 1) vs) v (enc b) as) vs bs := er.mono fun _ _ ⟨as, r⟩ => ⟨as, PyProof.Rows.Reads.keeps (fun _ _ => sorting_copy_old) r⟩
  refine sorted_of_sortT hl (by rw [e.length]; exact hL) (args_sorted1 _) (fun _ => args_list_sort _) fun _ => list_sort_vals (s := { s with heap := copyHeap s.heap vs }) (copyHeap_at s.heap vs) (SortsAt.data (s := { s with heap := sortingHeap (copyHeap s.heap vs) (s.heap.objs.size + 1) vs }) (each_map (R := fun v d => ∃ as, Reads (sortingHeap (copyHeap s.heap vs) (s.heap.objs.size + 1) vs) v d as) enc er') hal hk (bound_map hu)) (by rw [e.length]; exact hL) ⟨rfl, ?_⟩
  exact h _ (by rw [sortVals_length false rfl]; exact e.length) (sortVals_data false e er' hal)
end
end PySem.W
namespace DL
open PySem PySem.Spec PyProof.Rows L2
def rSortedIT (K : PySem.W.Frag) : List V → Hp → VK → Prop := fun vs H Q => ∃ (a : Addr) (ns : List Int), vs = [V.ref a] ∧ SqT K H a (ns.map V.int) ∧ ∀ (p : Addr), H p = none → Q (.ref p) (upd H p (.lst ((sortI ns).map V.int)))
theorem each_ints : ∀ {ns : List Int} {us : List Value}, Vals (ns.map V.int) us → PySem.W.EachIs (fun u n => RelV (V.int n) u) us ns
  | [], us, h => by cases h; exact .nil
  | n :: ns, us, h => by
    cases h with
    | cons a b => exact .cons a (each_ints b)
theorem ints_each : ∀ {ns : List Int} {us : List Value}, PySem.W.EachIs (fun u n => RelV (V.int n) u) us ns → Vals (ns.map V.int) us
  | [], _, .nil => .nil
  | _ :: _, _, .cons a b => .cons a (ints_each b)
theorem cr_sortedIT {X : Cx} (hu : X.A.units + 64 < cLine) : CallR X (.builtin "sorted") (rSortedIT X.K) := by
  intro pins s σ H vs us Q I r h
  obtain ⟨a, ns, rfl, hs, q⟩ := h
  obtain ⟨its, rv, hl, hz⟩ := I.tuple hs
  rw [Vals.ref1 r]
  have e := each_ints rv
  have er : PySem.W.EachIs (fun v n => ∃ as, Reads s.heap v ((fun n => PyData.int n) n) as) its ns := e.mono fun u n h => by
    exact Dp.reads I (.int n) (.int n) u (.int n) h
  rw [List.length_map] at hz
  refine PySem.W.sorted_dataT (enc := fun n => PyData.int n) hl e er (fun d hd d' hd' => ?_) (.inr fun d hd => ?_) hz (fun b hb => ?_) fun out _ ho => ?_
  · obtain ⟨x, _, rfl⟩ := List.mem_map.mp hd
    obtain ⟨y, _, rfl⟩ := List.mem_map.mp hd'
    rfl
  · obtain ⟨x, _, rfl⟩ := List.mem_map.mp hd
    exact ⟨(fun z => nomatch z), (fun l z => nomatch z)⟩
  · show X.A.units + 2 + 0 < cLine
    omega
  · have es : ns.mergeSort (PySem.W.dataLe false fun n => PyData.int n) = sortI ns := by
      refine sortI_uniq (List.mergeSort_perm _ _) ?_
      have := PySem.W.dataLe_int (fun n : Int => n)
      rw [this]
      have z := List.pairwise_mergeSort (le := fun a b : Int => decide (a ≤ b)) (fun a b c h1 h2 => by simp at *; omega) (fun a b => by simp; omega) ns
      exact z.imp fun h => by simpa using h
    rw [es] at ho
    obtain ⟨ep, he'⟩ := PyProof.Rows.sortedAll_at s.heap its out.toArray
    have hl2 : ((sortI ns).map V.int).length ≤ sizeLine := by
      rw [List.length_map, (sortI_perm ns).length_eq]; exact hz
    exact ⟨.ref _, upd H (s.heap.objs.size + 1) (.lst _), I.laid (t' := s.toks) (fun _ _ => PyProof.Rows.sortedAll_old) (Nat.le_succ _) ⟨hl2, out, ep, ints_each ho, he'⟩, rfl, q _ (I.hok.fresh (Nat.le_succ _))⟩
def sSortedT : D → Option Res
  | .tuple l => (intsOf l).map fun ns => .fresh (.list ((sortI ns).map PyData.int))
  | _ => none
theorem rc_sortedT {K} : RCIs K (rSortedIT K) (one sSortedT) := rc_one fun {B w σ e v d res Q} st t q k => by
  cases d <;> try cases q
  obtain ⟨ns, k3, k4⟩ := Option.map_eq_some_iff.mp q
  subst k4
  obtain ⟨a, vs, e1, e2, e3⟩ := t.tuple st.sub
  subst e1
  have e4 := e3
  rw [intsOf_eq k3] at e4
  rw [da_ints e4] at e2 e3
  exact ⟨a, ns, rfl, e2, fun p np => res_lst st (da_of_ints' K _ (sortI ns)) k p np⟩
end DL

set_option Elab.async false
set_option linter.all false
set_option maxRecDepth 100000
set_option maxHeartbeats 4000000
/-! DL34: tuple * int of every sign; is with truths; tuple(range(..)); xs[k] op= e. -/
namespace DL
open PySem PySem.Spec PyProof.Rows L2
theorem tuple_mul1 (l : Addr) (items : Array Value) (n : Nat) (dd : Option Addr) (sl : Array (Option Value)) (u : Tok) :
    Meets (Builtin.«tuple.__mul__» ⟨[.ref l, .int 1 u], []⟩) (fun _ R s => s.heap.get? l = some { cls := .type "tuple", dict := dd, data := .seq items n, slots := sl } ∧ R (.ok (.ret (Value.ref l))) s) :=
  .of_wp fun prog w A R s h => by
    obtain ⟨hp, g, d, tk, os⟩ := s
    obtain ⟨hl, h⟩ := h
    have f1 := AutoSeq1.idx_int
    wp_walk using wpAny_loadPart' hl
    exact ⟨_, rfl, h⟩
theorem tuple_mul0 (l : Addr) (items : Array Value) (n : Nat) (dd : Option Addr) (sl : Array (Option Value)) (x : Int) (u : Tok) (c0 : (decide (x < -(2 ^ 63)) || decide (x ≥ 2 ^ 63)) = false) (c1 : (items.isEmpty || x == 1) = false) (c2 : (decide (x ≤ 0) || items.isEmpty) = true) :
    Meets (Builtin.«tuple.__mul__» ⟨[.ref l, .int x u], []⟩) (fun _ R s => s.heap.get? l = some { cls := .type "tuple", dict := dd, data := .seq items n, slots := sl } ∧
      R (.ok (.ret (Value.ref s.heap.objs.size))) { s with heap := s.heap.push { cls := Value.type "tuple", data := Data.seq #[] }, toks := s.toks }) :=
  .of_wp fun prog w A R s h => by
    obtain ⟨hp, g, d, tk, os⟩ := s
    obtain ⟨hl, h⟩ := h
    have f1 := AutoSeq1.idx_int
    wp_walk using wpAny_loadPart' hl
    repeat (first
      | (refine wpAny_ite_false (decide_eq_false (by rw [c0]; exact Bool.false_ne_true)) ?_; wp_walk using wpAny_loadPart' hl)
      | (refine wpAny_ite_false (decide_eq_false (by rw [c1]; exact Bool.false_ne_true)) ?_; wp_walk using wpAny_loadPart' hl)
      | (refine wpAny_ite_true (decide_eq_true (by rw [c2])) ?_; wp_walk using wpAny_loadPart' hl))
    exact ⟨_, rfl, h⟩
def rRepU (K : PySem.W.Frag) : R2 := fun x y H Q => ∃ l k xs, x = .ref l ∧ y = .int k ∧ SqT K H l xs ∧ xs ≠ [] ∧ xs.length ≤ 1000 ∧ -1000 ≤ k ∧ k ≤ 1000 ∧ (k = 1 → Q (.ref l) H) ∧ (k ≠ 1 → ∀ p, H p = none → Q (.ref p) (upd H p (.tup (List.replicate k.toNat xs).flatten)))
theorem op_repU {X : Cx} : OpR X (binaryOp .Mult) (rRepU X.K) := by
  intro pins s σ H x y v u Q I rx ry h
  obtain ⟨l, k, xs, rfl, rfl, hT, hne, hz, k1, k2, q1, q2⟩ := h
  by_cases c : 2 ≤ k
  · exact op_repT pins s σ H _ _ v u Q I rx ry ⟨l, k, xs, rfl, rfl, hT, hne, c, k2, hz, q2 (by omega)⟩
  cases rx
  obtain ⟨t, rfl⟩ := ry
  have hT' := hT
  obtain ⟨its, r, ⟨⟨cls, dd, data, sl⟩, ho, hc, n, hd⟩, hs⟩ := I.tuple hT
  simp only at hc hd
  subst hc hd
  have hle : its.length = xs.length := r.length.symm
  have hn : its ≠ [] := fun e => hne (by
    rw [e] at hle
    exact List.eq_nil_of_length_eq_zero hle.symm)
  have hi : its.toArray.isEmpty = false := by
    cases its with
    | nil => exact absurd rfl hn
    | cons a b => rfl
  by_cases c1 : k = 1
  · subst c1
    refine wpAny_binaryOp_repeat_ref (T := "tuple") (U := "int") (by decide) ⟨_, ho, rfl⟩ (fun s' => typeIs_int s' 1 t) noFill_tuple_mul F.fills_int_mul F.slot_int_rmul repeat_tuple F.slot_int_index.lookup
      (call_meets F.slot_int_rmul (typeIs_int s 1 t) F.entry_int_rmul (F.args_int_rmul_2 _ _) (int_rmul_tuple 1 t l its.toArray n dd sl)
        ⟨ho, rfl, ⟨_, ho, rfl⟩, call_meets F.slot_tuple_mul ⟨_, ho, rfl⟩ F.entry_tuple_mul (F.args_tuple_mul_2 _ _) (tuple_mul1 l its.toArray n dd sl t) ⟨ho, ?_⟩⟩)
    exact ⟨.ref l, H, I, rfl, q1 rfl⟩
  · have c0 : (decide (k < -(2 ^ 63)) || decide (k ≥ 2 ^ 63)) = false := by
      rw [decide_eq_false (by omega), decide_eq_false (by omega)] <;> rfl
    have d1 : (its.toArray.isEmpty || k == 1) = false := by
      rw [hi, Bool.false_or]
      exact beq_eq_false_iff_ne.mpr c1
    have d2 : (decide (k ≤ 0) || its.toArray.isEmpty) = true := by
      rw [hi, Bool.or_false]
      exact decide_eq_true (by omega)
    refine wpAny_binaryOp_repeat_ref (T := "tuple") (U := "int") (by decide) ⟨_, ho, rfl⟩ (fun s' => typeIs_int s' k t) noFill_tuple_mul F.fills_int_mul F.slot_int_rmul repeat_tuple F.slot_int_index.lookup
      (call_meets F.slot_int_rmul (typeIs_int s k t) F.entry_int_rmul (F.args_int_rmul_2 _ _) (int_rmul_tuple k t l its.toArray n dd sl)
        ⟨ho, rfl, ⟨_, ho, rfl⟩, call_meets F.slot_tuple_mul ⟨_, ho, rfl⟩ F.entry_tuple_mul (F.args_tuple_mul_2 _ _) (tuple_mul0 l its.toArray n dd sl k t c0 d1 d2) ⟨ho, ?_⟩⟩)
    have q3 := q2 c1
    rw [show k.toNat = 0 by omega] at q3
    refine ⟨.ref s.heap.objs.size, _, I.laid (t' := s.toks) (o := .tup []) (fun b ob q => Heap.get?_push_of_some _ q) (Nat.le_refl _) ?_, rfl, q3 _ (I.hok.fresh (Nat.le_refl _))⟩
    exact ⟨Nat.zero_le _, [], .nil, IsTup.new _ _⟩
def sMulT : D → D → Option Res
  | .tuple a, .int k => if a ≠ [] ∧ a.length ≤ 1000 ∧ -1000 ≤ k ∧ k ≤ 1000 then some (.val (.tuple (List.replicate k.toNat a).flatten)) else none
  | _, _ => none
section
variable {K : PySem.W.Frag}
theorem r_mulT : R2Is K (rRepU K) sMulT := by
  constructor
  intro B w σ e x y a b res Q st h1 h2 q k
  cases a <;> try cases q
  cases b <;> try cases q
  rename_i a b
  have q' : (if a ≠ [] ∧ a.length ≤ 1000 ∧ -1000 ≤ b ∧ b ≤ 1000 then some (Res.val (.tuple (List.replicate b.toNat a).flatten)) else none) = some res := q
  split at q'
  · rename_i hb
    cases q'
    obtain ⟨p, vs, e1, s1, d1⟩ := h1.tuple st.sub
    have l1 := da_len d1
    refine ⟨p, b, vs, e1, h2.int, s1, fun z => hb.1 (List.eq_nil_of_length_eq_zero (by rw [← l1, z]; rfl)), by omega, hb.2.2.1, hb.2.2.2, fun z => ?_, fun _ t nt => res_tup st (da_replicate _ d1) k t nt⟩
    subst z
    rw [← e1]
    refine k x w st (Le.refl w) ?_
    rcases h1 with h1 | ⟨_, _, _, _, z⟩
    · show Dq K w.F x (.tuple (List.replicate (1 : Int).toNat a).flatten)
      have : (List.replicate (1 : Int).toNat a).flatten = a := by simp
      rw [this]
      exact h1
    · cases z
  · cases q'
end
def vMulT : D → D → Option Res := fun a b => (pMul a b).or ((sMulL a b).or (sMulT a b))
/-- is a truth -/
def sIsB (neg : Bool) : D → D → Option Res
  | .bool a, .bool b => some (.val (.bool (if neg then !decide (a = b) else decide (a = b))))
  | _, _ => none
theorem r_isB {K} : R2Is K (fun x y H Q => ∃ a b, x = .bl a ∧ y = .bl b ∧ Q (.bl (decide (a = b))) H) (sIsB false) := by
  constructor
  intro B w σ e x y a b res Q st h1 h2 q k
  cases a <;> try cases q
  cases b <;> try cases q
  exact ⟨_, _, h1.bool, h2.bool, k _ w st (Le.refl w) (Dq.bl _)⟩
theorem r_notB {K} : R2Is K (fun x y H Q => ∃ a b, x = .bl a ∧ y = .bl b ∧ Q (.bl (!decide (a = b))) H) (sIsB true) := by
  constructor
  intro B w σ e x y a b res Q st h1 h2 q k
  cases a <;> try cases q
  cases b <;> try cases q
  exact ⟨_, _, h1.bool, h2.bool, k _ w st (Le.refl w) (Dq.bl _)⟩
/-- xs[k] op= e -/
def sAugIx (op : Int → Int → Int) (i : Nat) (fi f : FE) : FS := fun e => match e[i]? with
  | some (.own _ (.list _)) => (fi e).bind fun q => match look q.2 q.1 with
    | some (.int k) => match q.2[i]? with
      | some (.own _ (.list l)) => match atI l k with
        | some (.int x) => (f q.2).bind fun p => match look p.2 p.1 with
          | some (.int y) => match p.2[i]? with
            | some (.own b (.list l2)) => (ixN l2.length k).map fun j => .next (p.2.set i (.own b (.list (l2.set j (.int (op x y))))))
            | _ => none
          | _ => none
        | _ => none
      | _ => none
    | _ => none
  | _ => none
theorem get_list {X : Cx} : PGet X (rIxL X.K) := by
  intro pins s σ H x y v u Q I rx ry h
  obtain ⟨p, xs, i, z, rfl, rfl, hq, he, q⟩ := h
  cases rx
  obtain ⟨t, rfl⟩ := ry
  obtain ⟨its, r, pl, hz⟩ := I.list hq
  obtain ⟨j, h1, h2, h3, h4, h5⟩ := atI_get he
  obtain ⟨w, ew, rw'⟩ := r.get h2
  have hl := r.length
  have hn := line63
  have fin : EP X pins σ Q w s := ⟨z, H, I, rw', q⟩
  by_cases h0 : 0 ≤ i
  · have hj : i.toNat = j := by
      rw [seqIndex_of h0 h5] at h1
      exact Option.some.inj h1
    exact getItem_listL pl.isList h0 (by omega) (by rw [hj]; simpa using ew) fin
  · have hj : (i + (its.toArray.size : Int)).toNat = j := by
      rw [seqIndex_neg (by omega) h4] at h1
      rw [List.size_toArray, ← hl]
      exact Option.some.inj h1
    exact wpAny_getItem_list_neg (Q := EP X pins σ Q) pl.isList (by omega) (by rw [List.size_toArray] <;> omega) (by omega) (by rw [hj]; simpa using ew) fin
def fTupR (g : FI) : FV := fun e => (g e).bind fun p => if p.1.length ≤ SZ then some (.val (.tuple p.1), p.2) else none
section
variable {X : Cx} {a b c : Expr} {fa fb fc : FE} {pos p p2 pos2 : Pos}
theorem d_mulT (ha : PE X a (tE X.K fa)) (hb : PE X b (tE X.K fb)) : PE X (.BinOp a .Mult b pos) (tV X.K (fBin vMulT fa fb)) :=
  d_bin (op_mulA.or (op_repR.or op_repU)) (r2_or r_mul (r2_or r_mulL r_mulT)) ha hb
theorem d_isB (ha : PE X a (tE X.K fa)) (hb : PE X b (tE X.K fb)) : PE X (.Compare a [.Is] [b] pos) (tV X.K (fBin (sIsB false) fa fb)) := d_cmp op_is_bl r_isB ha hb (nomark _)
theorem d_notB (ha : PE X a (tE X.K fa)) (hb : PE X b (tE X.K fb)) : PE X (.Compare a [.IsNot] [b] pos) (tV X.K (fBin (sIsB true) fa fb)) := d_cmp op_isnot_bl r_notB ha hb (nomark _)
theorem t_isB (ha : PE X a (tE X.K fa)) (hb : PE X b (tE X.K fb)) : PT X (.Compare a [.Is] [b] pos) (tT X.K (fTestV (fBin (sIsB false) fa fb))) := t_cmp op_is_bl r_isB ha hb (nomark _)
theorem t_notB (ha : PE X a (tE X.K fa)) (hb : PE X b (tE X.K fb)) : PT X (.Compare a [.IsNot] [b] pos) (tT X.K (fTestV (fBin (sIsB true) fa fb))) := t_cmp op_isnot_bl r_notB ha hb (nomark _)
theorem s_augIx {o : Operator} {f : Int → Int → Int} {i : Nat} {y : Str} {fi fe : FE} {ix e : Expr} {spos tpos py : Pos} (hop : PIp X o (ipI f)) (hv : PE X (.Name y py) (tVar i)) (hi : PE X ix (tE X.K fi)) (he : PE X e (tE X.K fe))
    (ha : ∀ ov iv new, augStore ix ov iv new = (do holding [new, ov, iv] (setItem ov iv new); release [new, ov, iv] []; pure .next) := by intros; rfl) :
    PS X (.AugAssign (.Subscript (.Name y py) ix tpos) o e spos) (tS X.K (sAugIx f i fi fe)) := by
  refine ps_imp (ps_augS hv hi get_list he hop set_list ha) fun D σ H ⟨B, w, e, fl, hH, st, hf, q⟩ => ?_
  subst hH
  unfold sAugIx at hf
  cases hs0 : e[i]? with
  | none => simp only [hs0] at hf; cases hf
  | some s0 =>
    simp only [hs0] at hf
    cases s0 <;> try cases hf
    rename_i b0 l0
    cases l0 <;> try cases hf
    rename_i l0
    obtain ⟨a0, us0, z1, z2, z3, z4, z5⟩ := own_lst st hs0
    refine ⟨.ref a0, z1, ?_⟩
    obtain ⟨⟨r2, e2⟩, j1, j2⟩ := Option.bind_eq_some_iff.mp hf
    refine ⟨B, w, e, r2, e2, rfl, st, j1, fun vi w2 s2 l2 p2 => ?_⟩
    cases hl : look e2 r2 with
    | none => simp only [hl] at j2; cases j2
    | some di =>
      simp only [hl] at j2
      cases di <;> try cases j2
      rename_i k
      have ti := look_ok s2 hl p2
      cases hs2 : e2[i]? with
      | none => simp only [hs2] at j2; cases j2
      | some s =>
        simp only [hs2] at j2
        cases s <;> try cases j2
        rename_i b l
        cases l <;> try cases j2
        rename_i l
        cases hat : atI l k with
        | none => simp only [hat] at j2; cases j2
        | some dx =>
          simp only [hat] at j2
          cases dx <;> try cases j2
          rename_i x
          obtain ⟨a2, us, n1, n2, n3, n4, n5⟩ := own_lst s2 hs2
          rw [z1] at n1
          cases n1
          obtain ⟨vx, m1, m2⟩ := at_of n4 hat
          cases m2
          refine ⟨a0, us, k, .int x, rfl, ti.int, .inl (.inl n2), m1, ?_⟩
          obtain ⟨⟨r3, e3⟩, o1, o2⟩ := Option.bind_eq_some_iff.mp j2
          refine ⟨B, w2, e2, r3, e3, rfl, s2, o1, fun vy w3 s3 l3 p3 => ?_⟩
          cases hl3 : look e3 r3 with
          | none => simp only [hl3] at o2; cases o2
          | some dy =>
            simp only [hl3] at o2
            cases dy <;> try cases o2
            rename_i yv
            have ty := look_ok s3 hl3 p3
            cases hs3 : e3[i]? with
            | none => simp only [hs3] at o2; cases o2
            | some s =>
              simp only [hs3] at o2
              cases s <;> try cases o2
              rename_i b3 l3'
              cases l3' <;> try cases o2
              rename_i l3'
              obtain ⟨j, t1, t2⟩ := Option.map_eq_some_iff.mp o2
              subst t2
              obtain ⟨a3, us3, g1, g2, g3, g4, g5⟩ := own_lst s3 hs3
              rw [z1] at g1
              cases g1
              refine ⟨x, yv, rfl, ty.int, a0, us3, k, j, rfl, ti.int, g2, by rw [da_len g4]; exact t1, ?_⟩
              obtain ⟨x1, x2⟩ := own_stt (ob := .lst (us3.set j (.int (f x yv)))) (l' := .list (l3'.set j (.int (f x yv)))) s3 hs3 z1 (.lst (da_set (.int _) j g4))
              exact q σ ⟨w3.F, upd w3.H a0 (.lst (us3.set j (.int (f x yv)))), w3.O⟩ x1 ((l2.trans l3).trans x2)
theorem d_tupR1 (hc : X.calm = true) (hg : Gl X "tuple") (hm : X.mg "tuple" = none) (hg' : Gl X "range") (hm' : X.mg "range" = none) (ha : PE X a (tE X.K fa)) (na : starEach [a] X.env = (false, eval a X.env) :: starEach [] X.env := by rfl)
    (nb : starEach [.Call (.Name "range" p2) [a] [] pos2] X.env = (false, eval (.Call (.Name "range" p2) [a] [] pos2) X.env) :: starEach [] X.env := by rfl) :
    PE X (.Call (.Name "tuple" p) [.Call (.Name "range" p2) [a] [] pos2] [] pos) (tV X.K (fTupR (iR1 (fCons fa fNil)))) := by
  refine pe_imp (pe_tupRg hc hg hm (prg_1 hg' hm' ha na) nb) fun σ H Q ⟨B, w, e, r, e', hH, st, hf, q⟩ => ?_
  obtain ⟨⟨ds, e1⟩, k1, k2⟩ := Option.bind_eq_some_iff.mp hf
  obtain ⟨⟨rs, e2⟩, k3, k4⟩ := Option.bind_eq_some_iff.mp k1
  obtain ⟨⟨r1, e3⟩, k5, k6⟩ := Option.bind_eq_some_iff.mp k3
  have k6' : ([r1], e3) = (rs, e2) := Option.some.inj k6
  cases k6'
  refine ⟨B, w, e, r1, e2, hH, st, k5, fun v w1 s1 l1 p1 => ?_⟩
  cases hl : look e2 r1 with
  | none =>
    have z : looks e2 [r1] = none := by simp [looks, hl]
    simp only [z] at k4
    cases k4
  | some d =>
    have z : looks e2 [r1] = some [d] := by simp [looks, hl]
    simp only [z] at k4
    cases d <;> try cases k4
    rename_i j
    have t := look_ok s1 hl p1
    have k4' : (if smallI j then some (rangeD 0 j.toNat, e2) else none) = some (ds, e1) := k4
    split at k4'
    · rename_i hb
      cases k4'
      have k2' : (if (rangeD 0 j.toNat).length ≤ SZ then some (Res.val (.tuple (rangeD 0 j.toNat)), e1) else none) = some (r, e') := k2
      split at k2'
      · rename_i hz
        cases k2'
        have hz' : j.toNat ≤ 16777216 := by simpa [rangeD] using hz
        refine ⟨j, t.int, ⟨by omega, by omega, hb.1, hb.2, by omega⟩, fun c nc => ?_⟩
        have dd := rgV_D X.K w1.F 0 j
        rw [Int.sub_zero] at dd
        exact res_tup s1 dd (fun v w2 s2 l2 ok => q v w2 s2 (l1.trans l2) (ok.mono fun a z => l1.dom a z)) c nc
      · cases k2'
    · cases k4'
theorem d_tupR2 (hc : X.calm = true) (hg : Gl X "tuple") (hm : X.mg "tuple" = none) (hg' : Gl X "range") (hm' : X.mg "range" = none) (ha : PE X a (tE X.K fa)) (hb : PE X b (tE X.K fb)) (na : starEach [a, b] X.env = (false, eval a X.env) :: starEach [b] X.env := by rfl)
    (nb : starEach [b] X.env = (false, eval b X.env) :: starEach [] X.env := by rfl) (hp : (backTo pos2 (starEach [b] X.env)).any (·.1) = false := by rfl)
    (nc : starEach [.Call (.Name "range" p2) [a, b] [] pos2] X.env = (false, eval (.Call (.Name "range" p2) [a, b] [] pos2) X.env) :: starEach [] X.env := by rfl) :
    PE X (.Call (.Name "tuple" p) [.Call (.Name "range" p2) [a, b] [] pos2] [] pos) (tV X.K (fTupR (iR2 (fCons fa (fCons fb fNil))))) := by
  refine pe_imp (pe_tupRg hc hg hm (prg_2 hg' hm' ha hb na nb hp) nc) fun σ H Q ⟨B, w, e, r, e', hH, st, hf, q⟩ => ?_
  obtain ⟨⟨ds, e1⟩, k1, k2⟩ := Option.bind_eq_some_iff.mp hf
  obtain ⟨⟨rs, e2⟩, k3, k4⟩ := Option.bind_eq_some_iff.mp k1
  obtain ⟨⟨r1, e3⟩, k5, k6⟩ := Option.bind_eq_some_iff.mp k3
  obtain ⟨⟨rs', e5⟩, k7, k8⟩ := Option.map_eq_some_iff.mp k6
  obtain ⟨⟨r2, e4⟩, k9, k10⟩ := Option.bind_eq_some_iff.mp k7
  have k10' : ([r2], e4) = (rs', e5) := Option.some.inj k10
  cases k10'
  cases k8
  refine ⟨B, w, e, r1, e3, hH, st, k5, fun v w1 s1 l1 p1 => ?_⟩
  refine ⟨B, w1, e3, r2, e5, rfl, s1, k9, fun v2 w2 s2 l2 p2 => ?_⟩
  cases hl : look e5 r1 with
  | none =>
    have z : looks e5 [r1, r2] = none := by simp [looks, hl]
    simp only [z] at k4
    cases k4
  | some d =>
    cases hl2 : look e5 r2 with
    | none =>
      have z : looks e5 [r1, r2] = none := by simp [looks, hl, hl2]
      simp only [z] at k4
      cases k4
    | some d2 =>
      have z : looks e5 [r1, r2] = some [d, d2] := by simp [looks, hl, hl2]
      simp only [z] at k4
      cases d <;> try cases k4
      cases d2 <;> try cases k4
      rename_i i j
      have t1 := look_ok s2 hl (p1.later l2)
      have t2 := look_ok s2 hl2 p2
      have k4' : (if smallI i ∧ smallI j then some (rangeD i (j - i).toNat, e5) else none) = some (ds, e1) := k4
      split at k4'
      · rename_i hb
        cases k4'
        have k2' : (if (rangeD i (j - i).toNat).length ≤ SZ then some (Res.val (.tuple (rangeD i (j - i).toNat)), e1) else none) = some (r, e') := k2
        split at k2'
        · rename_i hz
          cases k2'
          have hz' : (j - i).toNat ≤ 16777216 := by simpa [rangeD] using hz
          refine ⟨i, j, t1.int, t2.int, ⟨hb.1.1, hb.1.2, hb.2.1, hb.2.2, by omega⟩, fun c nc => ?_⟩
          have l12 := l1.trans l2
          exact res_tup s2 (rgV_D X.K w2.F i j) (fun v w3 s3 l3 ok => q v w3 s3 (l12.trans l3) (ok.mono fun a z => l12.dom a z)) c nc
        · cases k2'
      · cases k4'
end
end DL

set_option Elab.async false
set_option linter.all false
set_option maxRecDepth 100000
set_option maxHeartbeats 2000000
/-! TC0: a statement, and then a slot's own list is frozen. -/
namespace DL
open PySem PySem.Spec PyProof.Rows L2
def sFz (i : Nat) (g : FS) : FS := fun e => (g e).bind fun fl => match fl with
  | .next e1 => (frz e1 (.slot i)).map fun p => .next p.2
  | .brk e1 => some (.brk e1)
  | .cont e1 => some (.cont e1)
  | .ret r e1 => some (.ret r e1)
theorem s_fz {X : Cx} {st : Stmt} {g : FS} (i : Nat) (h : PS X st (tS X.K g)) : PS X st (tS X.K (sFz i g)) := by
  refine ps_imp h fun D σ H ⟨B, w, e, fl, hH, stt, hg, q⟩ => ?_
  obtain ⟨fl1, k1, k2⟩ := Option.bind_eq_some_iff.mp hg
  refine ⟨B, w, e, fl1, hH, stt, k1, ?_⟩
  cases fl1 with
  | next e1 =>
    obtain ⟨⟨d, e2⟩, k3, k4⟩ := Option.map_eq_some_iff.mp k2
    subst k4
    intro σ' w' st' le
    have hv : ∃ v, RepR X.K w' σ' v (.slot i) := by
      cases hs : e1[i]? with
      | none => simp [frz, hs] at k3
      | some s =>
        have z := st'.sl i s hs
        cases s with
        | dead => simp [frz, hs] at k3
        | lck c => simp [frz, hs] at k3
        | val b d => obtain ⟨v, h1, _⟩ := z; exact ⟨v, h1⟩
        | own b c => obtain ⟨a, o, h1, _⟩ := z; exact ⟨_, h1⟩
    obtain ⟨v, hv⟩ := hv
    obtain ⟨w2, m1, s2, l2, _⟩ := frz_ok st' k3 hv
    have z := q σ' w2 s2 (le.trans l2)
    rw [m1] at z
    exact z
  | brk e1 => cases k2; exact q
  | cont e1 => cases k2; exact q
  | ret r e1 => cases k2; exact q
theorem ok_sFz {i : Nat} {g : FS} {e : En} {P5 : Fl → Prop} (k : Ok (g e) fun fl => ∃ e1, fl = .next e1 ∧ Ev (frz e1 (.slot i)) fun _ e2 => P5 (.next e2)) : Ok (sFz i g e) P5 := by
  obtain ⟨fl, h1, e1, h2, d, e2, h3, h4⟩ := k
  subst h2
  exact ⟨.next e2, by unfold sFz; rw [h1]; simp only [Option.bind_some]; rw [h3]; rfl, h4⟩
end DL

set_option Elab.async false
set_option linter.all false
set_option maxRecDepth 100000
set_option maxHeartbeats 2000000
/-! TC1: typed readings of the mirrors: encoders, guarded operations, loops. -/
namespace DL
open PySem PySem.Spec PyProof.Rows L2
/-! ### how typed values stand as data -/
def eI : Int → D := .int
def eB : Bool → D := .bool
def eS : Str → D := .str
def eU : Unit → D := fun _ => .none
def eF : List D → D := .list
def eT {α : Type} (f : α → D) (l : List α) : D := .tuple (l.map f)
def eL {α : Type} (f : α → D) (l : List α) : D := .list (l.map f)
def eO {α : Type} (f : α → D) : Option α → D
  | none => .none
  | some x => f x
def eP2 {α β : Type} (f : α → D) (g : β → D) (p : α × β) : D := .tuple [f p.1, g p.2]
def eP3 {α β γ : Type} (f : α → D) (g : β → D) (h : γ → D) (p : α × β × γ) : D := .tuple [f p.1, g p.2.1, h p.2.2]
def eP4 {α β γ δ : Type} (f : α → D) (g : β → D) (h : γ → D) (i : δ → D) (p : α × β × γ × δ) : D := .tuple [f p.1, g p.2.1, h p.2.2.1, i p.2.2.2]
def eH1 {α : Type} (f : α → D) (p : α) : D := .list [f p]
def eH2 {α β : Type} (f : α → D) (g : β → D) (p : α × β) : D := .list [f p.1, g p.2]
def eH3 {α β γ : Type} (f : α → D) (g : β → D) (h : γ → D) (p : α × β × γ) : D := .list [f p.1, g p.2.1, h p.2.2]
def eH4 {α β γ δ : Type} (f : α → D) (g : β → D) (h : γ → D) (i : δ → D) (p : α × β × γ × δ) : D := .list [f p.1, g p.2.1, h p.2.2.1, i p.2.2.2]
def eH5 {α β γ δ ε : Type} (f : α → D) (g : β → D) (h : γ → D) (i : δ → D) (j : ε → D) (p : α × β × γ × δ × ε) : D := .list [f p.1, g p.2.1, h p.2.2.1, i p.2.2.2.1, j p.2.2.2.2]
/-- plain, and equal as data just if equal -/
class EncOk {α : Type} [DecidableEq α] (f : α → D) where
  n : Nat
  pl : ∀ a, Pl n (f a)
  eq : ∀ a b, PyData.eqv (f a) (f b) = decide (a = b)
class EncNN {α : Type} (f : α → D) : Prop where
  nn : ∀ a, isN (f a) = false
theorem eqv_bool (a b : Bool) : PyData.eqv (.bool a) (.bool b) = decide (a = b) := by cases a <;> cases b <;> rfl
instance : EncOk eI := ⟨0, fun a => pl_int _ a, fun a b => by
  show (a == b) = _
  by_cases h : a = b <;> simp [h]⟩
instance : EncOk eB := ⟨0, fun a => pl_bool _ a, fun a b => eqv_bool a b⟩
instance : EncOk eU := ⟨0, fun a => pl_none _, fun a b => by cases a; cases b; rfl⟩
instance : EncNN eI := ⟨fun _ => rfl⟩
instance : EncNN eB := ⟨fun _ => rfl⟩
instance : EncNN eS := ⟨fun _ => rfl⟩
instance {α : Type} (f : α → D) : EncNN (eT f) := ⟨fun _ => rfl⟩
instance {α : Type} (f : α → D) : EncNN (eL f) := ⟨fun _ => rfl⟩
instance {α β : Type} (f : α → D) (g : β → D) : EncNN (eP2 f g) := ⟨fun _ => rfl⟩
instance {α β γ : Type} (f : α → D) (g : β → D) (h : γ → D) : EncNN (eP3 f g h) := ⟨fun _ => rfl⟩
instance {α β γ δ : Type} (f : α → D) (g : β → D) (h : γ → D) (i : δ → D) : EncNN (eP4 f g h i) := ⟨fun _ => rfl⟩
theorem eqvAll_map {α : Type} [DecidableEq α] (f : α → D) [k : EncOk f] : ∀ a b : List α, PyData.eqvAll (a.map f) (b.map f) = decide (a = b)
  | [], [] => rfl
  | [], _ :: _ => rfl
  | _ :: _, [] => rfl
  | x :: xs, y :: ys => by
    show (PyData.eqv (f x) (f y) && PyData.eqvAll (xs.map f) (ys.map f)) = _
    rw [k.eq, eqvAll_map f xs ys]
    by_cases h1 : x = y <;> by_cases h2 : xs = ys <;> simp [h1, h2]
instance {α : Type} [DecidableEq α] (f : α → D) [k : EncOk f] : EncOk (eT f) := ⟨k.n + 1, fun a => pl_tup (pls_map fun x _ => k.pl x), fun a b => eqvAll_map f a b⟩
instance {α : Type} [DecidableEq α] (f : α → D) [k : EncOk f] : EncOk (eL f) := ⟨k.n + 1, fun a => pl_list (pls_map fun x _ => k.pl x), fun a b => eqvAll_map f a b⟩
theorem isN_eqv : ∀ a : D, isN a = false → PyData.eqv .none a = false ∧ PyData.eqv a .none = false
  | .none, h => by cases h
  | .bool _, _ => ⟨rfl, rfl⟩
  | .int _, _ => ⟨rfl, rfl⟩
  | .str _, _ => ⟨rfl, rfl⟩
  | .list _, _ => ⟨rfl, rfl⟩
  | .tuple _, _ => ⟨rfl, rfl⟩
  | .dict _, _ => ⟨rfl, rfl⟩
instance {α : Type} [DecidableEq α] (f : α → D) [k : EncOk f] [m : EncNN f] : EncOk (eO f) := ⟨k.n, fun a => by
    cases a with
    | none => exact pl_none _
    | some x => exact k.pl x, fun a b => by
    cases a with
    | none => cases b with
      | none => rfl
      | some y => show PyData.eqv .none (f y) = _; rw [(isN_eqv _ (m.nn y)).1]; rfl
    | some x => cases b with
      | none => show PyData.eqv (f x) .none = _; rw [(isN_eqv _ (m.nn x)).2]; rfl
      | some y => show PyData.eqv (f x) (f y) = _; rw [k.eq]; by_cases h : x = y <;> simp [h]⟩
theorem pl_l2 {n : Nat} {a b : D} (h1 : Pl n a) (h2 : Pl n b) : Pls n [a, b] := pls_cons h1 (pls_cons h2 (pls_nil n))
theorem pl_l3 {n : Nat} {a b c : D} (h1 : Pl n a) (h2 : Pl n b) (h3 : Pl n c) : Pls n [a, b, c] := pls_cons h1 (pl_l2 h2 h3)
theorem pl_l4 {n : Nat} {a b c d : D} (h1 : Pl n a) (h2 : Pl n b) (h3 : Pl n c) (h4 : Pl n d) : Pls n [a, b, c, d] := pls_cons h1 (pl_l3 h2 h3 h4)
theorem pl_l5 {n : Nat} {a b c d x : D} (h1 : Pl n a) (h2 : Pl n b) (h3 : Pl n c) (h4 : Pl n d) (h5 : Pl n x) : Pls n [a, b, c, d, x] := pls_cons h1 (pl_l4 h2 h3 h4 h5)
section
variable {α β γ δ ε : Type} [DecidableEq α] [DecidableEq β] [DecidableEq γ] [DecidableEq δ] [DecidableEq ε] (f : α → D) (g : β → D) (h : γ → D) (i : δ → D) (j : ε → D) [kf : EncOk f] [kg : EncOk g] [kh : EncOk h] [ki : EncOk i] [kj : EncOk j]
theorem eqvAll_2 (a b : α × β) : PyData.eqvAll [f a.1, g a.2] [f b.1, g b.2] = decide (a = b) := by
  show (PyData.eqv (f a.1) (f b.1) && (PyData.eqv (g a.2) (g b.2) && true)) = _
  rw [kf.eq, kg.eq]
  obtain ⟨a1, a2⟩ := a
  obtain ⟨b1, b2⟩ := b
  by_cases h1 : a1 = b1 <;> by_cases h2 : a2 = b2 <;> simp [h1, h2]
theorem eqvAll_3 (a b : α × β × γ) : PyData.eqvAll [f a.1, g a.2.1, h a.2.2] [f b.1, g b.2.1, h b.2.2] = decide (a = b) := by
  show (PyData.eqv (f a.1) (f b.1) && PyData.eqvAll [g a.2.1, h a.2.2] [g b.2.1, h b.2.2]) = _
  rw [kf.eq, eqvAll_2 g h a.2 b.2]
  obtain ⟨a1, a2⟩ := a
  obtain ⟨b1, b2⟩ := b
  by_cases h1 : a1 = b1 <;> by_cases h2 : a2 = b2 <;> simp [h1, h2]
theorem eqvAll_4 (a b : α × β × γ × δ) : PyData.eqvAll [f a.1, g a.2.1, h a.2.2.1, i a.2.2.2] [f b.1, g b.2.1, h b.2.2.1, i b.2.2.2] = decide (a = b) := by
  show (PyData.eqv (f a.1) (f b.1) && PyData.eqvAll [g a.2.1, h a.2.2.1, i a.2.2.2] [g b.2.1, h b.2.2.1, i b.2.2.2]) = _
  rw [kf.eq, eqvAll_3 g h i a.2 b.2]
  obtain ⟨a1, a2⟩ := a
  obtain ⟨b1, b2⟩ := b
  by_cases h1 : a1 = b1 <;> by_cases h2 : a2 = b2 <;> simp [h1, h2]
theorem eqvAll_5 (a b : α × β × γ × δ × ε) : PyData.eqvAll [f a.1, g a.2.1, h a.2.2.1, i a.2.2.2.1, j a.2.2.2.2] [f b.1, g b.2.1, h b.2.2.1, i b.2.2.2.1, j b.2.2.2.2] = decide (a = b) := by
  show (PyData.eqv (f a.1) (f b.1) && PyData.eqvAll [g a.2.1, h a.2.2.1, i a.2.2.2.1, j a.2.2.2.2] [g b.2.1, h b.2.2.1, i b.2.2.2.1, j b.2.2.2.2]) = _
  rw [kf.eq, eqvAll_4 g h i j a.2 b.2]
  obtain ⟨a1, a2⟩ := a
  obtain ⟨b1, b2⟩ := b
  by_cases h1 : a1 = b1 <;> by_cases h2 : a2 = b2 <;> simp [h1, h2]
instance : EncOk (eP2 f g) := ⟨max kf.n kg.n + 1, fun a => pl_tup (pl_l2 ((kf.pl _).mono (by omega)) ((kg.pl _).mono (by omega))), fun a b => eqvAll_2 f g a b⟩
instance : EncOk (eH2 f g) := ⟨max kf.n kg.n + 1, fun a => pl_list (pl_l2 ((kf.pl _).mono (by omega)) ((kg.pl _).mono (by omega))), fun a b => eqvAll_2 f g a b⟩
instance : EncOk (eP3 f g h) := ⟨max kf.n (max kg.n kh.n) + 1, fun a => pl_tup (pl_l3 ((kf.pl _).mono (by omega)) ((kg.pl _).mono (by omega)) ((kh.pl _).mono (by omega))), fun a b => eqvAll_3 f g h a b⟩
instance : EncOk (eH3 f g h) := ⟨max kf.n (max kg.n kh.n) + 1, fun a => pl_list (pl_l3 ((kf.pl _).mono (by omega)) ((kg.pl _).mono (by omega)) ((kh.pl _).mono (by omega))), fun a b => eqvAll_3 f g h a b⟩
instance : EncOk (eP4 f g h i) := ⟨max kf.n (max kg.n (max kh.n ki.n)) + 1, fun a => pl_tup (pl_l4 ((kf.pl _).mono (by omega)) ((kg.pl _).mono (by omega)) ((kh.pl _).mono (by omega)) ((ki.pl _).mono (by omega))), fun a b => eqvAll_4 f g h i a b⟩
instance : EncOk (eH4 f g h i) := ⟨max kf.n (max kg.n (max kh.n ki.n)) + 1, fun a => pl_list (pl_l4 ((kf.pl _).mono (by omega)) ((kg.pl _).mono (by omega)) ((kh.pl _).mono (by omega)) ((ki.pl _).mono (by omega))), fun a b => eqvAll_4 f g h i a b⟩
instance : EncOk (eH5 f g h i j) := ⟨max kf.n (max kg.n (max kh.n (max ki.n kj.n))) + 1, fun a => pl_list (pl_l5 ((kf.pl _).mono (by omega)) ((kg.pl _).mono (by omega)) ((kh.pl _).mono (by omega)) ((ki.pl _).mono (by omega)) ((kj.pl _).mono (by omega))), fun a b => eqvAll_5 f g h i j a b⟩
end
theorem enc_shaped {α : Type} [DecidableEq α] (f : α → D) [k : EncOk f] (hn : k.n ≤ 64) (a : α) : SeqAt.shaped (f a) = true := (k.pl a).shaped hn

/-! ### guarded operations -/
def addO {α : Type} (xs ys : List α) : Option (List α) := if xs.length + ys.length ≤ SZ then some (xs ++ ys) else none
def appO {α : Type} (xs : List α) (x : α) : Option (List α) := if xs.length < SZ then some (xs ++ [x]) else none
def repO {α : Type} (xs : List α) (k : Int) : Option (List α) := if (-9223372036854775808 ≤ k ∧ k < 9223372036854775808) ∧ xs.length * k.toNat ≤ SZ then some (List.replicate k.toNat xs).flatten else none
def mulO (i j : Int) : Option Int := if (-18446744073709551616 < i ∧ i < 18446744073709551616) ∨ (-18446744073709551616 < j ∧ j < 18446744073709551616) then some (i * j) else none
def divO (i j : Int) : Option Int := if 0 < j ∧ j < 1073741824 then some (i / j) else none
def modO (i j : Int) : Option Int := if 0 < j then some (i % j) else none
def powO (i j : Int) : Option Int := if 0 ≤ j ∧ j ≤ 1000000 ∧ i.natAbs < 18446744073709551616 then some (i ^ j.toNat) else none
def setO {α : Type} (xs : List α) (k : Int) (x : α) : Option (List α) := (ixN xs.length k).map fun j => xs.set j x
def popO {α : Type} (xs : List α) : Option (α × List α) := (xs[xs.length - 1]?).map fun d => (d, xs.dropLast)
def popAtO {α : Type} (xs : List α) (k : Int) : Option (α × List α) := if xs.length ≤ SZ then (ixN xs.length k).bind fun j => (xs[j]?).map fun d => (d, xs.eraseIdx j) else none
def maxO (xs : List Int) : Option Int := if xs.isEmpty then none else some (maxI xs)
def minO (xs : List Int) : Option Int := if xs.isEmpty then none else some (minI xs)
def rangeI (lo : Int) : Nat → List Int
  | 0 => []
  | n + 1 => lo :: rangeI (lo + 1) n
def rngO (a b : Int) : Option (List Int) := if (-4611686018427387904 ≤ a ∧ a < 4611686018427387904) ∧ (-4611686018427387904 ≤ b ∧ b < 4611686018427387904) then some (rangeI a (b - a).toNat) else none
def enumF {α : Type} (k : Int) : List α → List (Int × α)
  | [] => []
  | x :: xs => (k, x) :: enumF (k + 1) xs
def lenG {α : Type} (xs : List α) : Option (List α) := if xs.length ≤ SZ then some xs else none
def leE {α : Type} (f : α → D) (a b : α) : Bool := PySem.W.dataLe false id (f a) (f b)
def sortO {α : Type} (f : α → D) (xs : List α) : Option (List α) := if sortOk (xs.map f) = true then some (xs.mergeSort (leE f)) else none

/-! ### comprehensions, loops -/
def compO {α β : Type} (t : α → Option (Option β)) : List α → Option (List β)
  | [] => some []
  | x :: xs => (t x).bind fun o => (compO t xs).bind fun r => some (match o with | some v => v :: r | none => r)
def compG {α β : Type} (t : α → Option (Option β)) (xs : List α) : Option (List β) := if xs.length ≤ SZ then compO t xs else none
def mapG {α β : Type} (c : α → Bool) (f : α → β) (xs : List α) : Option (List β) := if xs.length ≤ SZ then some ((xs.filter c).map f) else none
def compS {α β σ : Type} (t : σ → α → Option (Option β × σ)) : List α → σ → Option (List β × σ)
  | [], s => some ([], s)
  | x :: xs, s => (t s x).bind fun o => (compS t xs o.2).bind fun r => some ((match o.1 with | some v => v :: r.1 | none => r.1), r.2)
def compSG {α β σ : Type} (t : σ → α → Option (Option β × σ)) (xs : List α) (s : σ) : Option (List β × σ) := if xs.length ≤ SZ then compS t xs s else none
def forS {α σ : Type} (body : σ → α → Option σ) : List α → σ → Option σ
  | [], s => some s
  | x :: xs, s => (body s x).bind (forS body xs)
inductive Tn (σ ρ : Type) where
  | nx (s : σ)
  | bk (s : σ)
  | rt (v : ρ)
def forP {α σ ρ : Type} (body : σ → α → Option (Tn σ ρ)) : List α → σ → Option (Tn σ ρ)
  | [], s => some (.nx s)
  | x :: xs, s => (body s x).bind fun t => match t with
    | .nx s => forP body xs s
    | .bk s => some (.nx s)
    | .rt v => some (.rt v)
def retK {σ ρ : Type} (rest : σ → Option ρ) : Tn σ ρ → Option ρ
  | .nx s => rest s
  | .bk s => rest s
  | .rt v => some v
def retL {σ σ' ρ : Type} (rest : σ → Option (Tn σ' ρ)) : Tn σ ρ → Option (Tn σ' ρ)
  | .nx s => rest s
  | .bk s => rest s
  | .rt v => some (.rt v)
def whileP {σ ρ : Type} (c : σ → Option Bool) (body : σ → Option (Tn σ ρ)) : Nat → σ → Option (Tn σ ρ)
  | 0, _ => none
  | n + 1, s => (c s).bind fun b => if b = true then (body s).bind fun t => (match t with
    | .nx s => whileP c body n s
    | .bk s => some (.nx s)
    | .rt v => some (.rt v)) else some (.nx s)

/-! ### how they go with the mirrors -/
theorem bS {α β : Type} {t : Option α} {k : α → Option β} {r : β} (h : t.bind k = some r) : ∃ v, t = some v ∧ k v = some r := Option.bind_eq_some_iff.mp h
theorem bP {α β : Type} {a : α} {k : α → Option β} {r : β} (h : (some a).bind k = some r) : k a = some r := h
section
variable {α β γ : Type} {f : α → D} {P : Res → Prop} {r : γ}
theorem okh_addT {xs ys : List α} {k : List α → Option γ} (h : (addO xs ys).bind k = some r) (c : ∀ zs, k zs = some r → P (.val (eT f zs))) : Ok (vAdd (eT f xs) (eT f ys)) P := by
  obtain ⟨v, h1, h2⟩ := bS h
  unfold addO at h1
  split at h1
  · rename_i q
    cases h1
    refine ok_addT (by simpa using q) ?_
    rw [← List.map_append]
    exact c _ h2
  · cases h1
theorem okh_addL {xs ys : List α} {k : List α → Option γ} (h : (addO xs ys).bind k = some r) (c : ∀ zs, k zs = some r → P (.fresh (eL f zs))) : Ok (vAdd (eL f xs) (eL f ys)) P := by
  obtain ⟨v, h1, h2⟩ := bS h
  unfold addO at h1
  split at h1
  · rename_i q
    cases h1
    refine ok_addL (by simpa using q) ?_
    rw [← List.map_append]
    exact c _ h2
  · cases h1
theorem okh_repL {xs : List α} {n : Int} {k : List α → Option γ} (h : (repO xs n).bind k = some r) (c : ∀ zs, k zs = some r → P (.fresh (eL f zs))) : Ok (vMul (eL f xs) (.int n)) P := by
  obtain ⟨v, h1, h2⟩ := bS h
  unfold repO at h1
  split at h1
  · rename_i q
    cases h1
    refine ok_mulL (by have := q.1; omega) (by simpa using q.2) ?_
    have e : (List.replicate n.toNat (xs.map f)).flatten = ((List.replicate n.toNat xs).flatten).map f := by rw [List.map_flatten, List.map_replicate]
    rw [e]
    exact c _ h2
  · cases h1
theorem okh_mul {i j : Int} {k : Int → Option γ} (h : (mulO i j).bind k = some r) (c : ∀ z, k z = some r → P (.val (eI z))) : Ok (vMul (.int i) (.int j)) P := by
  obtain ⟨v, h1, h2⟩ := bS h
  unfold mulO at h1
  split at h1
  · rename_i q
    cases h1
    exact ok_mulI (mulS (by simpa using q)) (c _ h2)
  · cases h1
theorem okh_div {i j : Int} {k : Int → Option γ} (h : (divO i j).bind k = some r) (c : ∀ z, k z = some r → P (.val (eI z))) : Ok (pDiv (.int i) (.int j)) P := by
  obtain ⟨v, h1, h2⟩ := bS h
  unfold divO at h1
  split at h1
  · rename_i q
    cases h1
    exact ok_divI q (c _ h2)
  · cases h1
theorem okh_mod {i j : Int} {k : Int → Option γ} (h : (modO i j).bind k = some r) (c : ∀ z, k z = some r → P (.val (eI z))) : Ok (pMod (.int i) (.int j)) P := by
  obtain ⟨v, h1, h2⟩ := bS h
  unfold modO at h1
  split at h1
  · rename_i q
    cases h1
    exact ok_modI q (c _ h2)
  · cases h1
theorem okh_pow {i j : Int} {k : Int → Option γ} (h : (powO i j).bind k = some r) (c : ∀ z, k z = some r → P (.val (eI z))) : Ok (pPow (.int i) (.int j)) P := by
  obtain ⟨v, h1, h2⟩ := bS h
  unfold powO at h1
  split at h1
  · rename_i q
    cases h1
    exact ok_powI (by simpa using q) (c _ h2)
  · cases h1
theorem atI_map (xs : List α) (i : Int) : atI (xs.map f) i = (atI xs i).map f := by
  unfold atI
  rw [List.length_map]
  cases ixN xs.length i with
  | none => rfl
  | some j => simp
theorem okh_ixL {xs : List α} {i : Int} {k : α → Option γ} (h : (atI xs i).bind k = some r) (c : ∀ z, k z = some r → P (.val (f z))) : Ok (sIx (eL f xs) (.int i)) P := by
  obtain ⟨v, h1, h2⟩ := bS h
  exact ok_ixL (d := f v) (by rw [atI_map, h1]; rfl) (c _ h2)
theorem okh_ixT {xs : List α} {i : Int} {k : α → Option γ} (h : (atI xs i).bind k = some r) (c : ∀ z, k z = some r → P (.val (f z))) : Ok (sIx (eT f xs) (.int i)) P := by
  obtain ⟨v, h1, h2⟩ := bS h
  exact ok_ixT (d := f v) (by rw [atI_map, h1]; rfl) (c _ h2)
theorem okt_cutL {xs : List α} {lo hi : Option Int} (c : P (.fresh (eL f (cutG xs lo hi)))) : Ok (sCut (eL f xs) lo hi) P := ok_cutL (by rw [cut_map]; exact c)
theorem okt_cutT {xs : List α} {lo hi : Option Int} (c : P (.val (eT f (cutG xs lo hi)))) : Ok (sCut (eT f xs) lo hi) P := ok_cutT (by rw [cut_map]; exact c)
theorem okt_revL {xs : List α} (c : P (.fresh (eL f xs.reverse))) : Ok (sRev (eL f xs)) P := ok_rfl (a := .fresh (.list (xs.map f).reverse)) rfl (by rw [← List.map_reverse]; exact c)
theorem okt_revT {xs : List α} (c : P (.val (eT f xs.reverse))) : Ok (sRev (eT f xs)) P := ok_rfl (a := .val (.tuple (xs.map f).reverse)) rfl (by rw [← List.map_reverse]; exact c)
theorem okt_lenL {xs : List α} (c : P (.val (eI (xs.length : Int)))) : Ok (one sLen [eL f xs]) P := ok_rfl (a := .val (.int ((xs.map f).length : Int))) rfl (by rw [List.length_map]; exact c)
theorem okt_lenT {xs : List α} (c : P (.val (eI (xs.length : Int)))) : Ok (one sLen [eT f xs]) P := ok_rfl (a := .val (.int ((xs.map f).length : Int))) rfl (by rw [List.length_map]; exact c)
theorem okt_eq [DecidableEq α] [q : EncOk f] {a b : α} (c : P (.val (eB (decide (a = b))))) (hn : q.n ≤ 64 := by decide) : Ok (sEq (f a) (f b)) P := ok_eqD (enc_shaped f hn a) (enc_shaped f hn b) (by rw [q.eq]; exact c)
theorem okt_ne [DecidableEq α] [q : EncOk f] {a b : α} (c : P (.val (eB (!decide (a = b))))) (hn : q.n ≤ 64 := by decide) : Ok (sNe (f a) (f b)) P := ok_neD (enc_shaped f hn a) (enc_shaped f hn b) (by rw [q.eq]; exact c)
theorem okt_isN [q : EncNN f] {x : Option α} (c : P (.val (eB x.isNone))) : Ok (sIsN false (eO f x) .none) P := by
  cases x with
  | none => exact ok_isN rfl c
  | some v => exact ok_isN (r := .val (.bool (isN (f v)))) rfl (by rw [q.nn]; exact c)
theorem okt_notN [q : EncNN f] {x : Option α} (c : P (.val (eB x.isSome))) : Ok (sIsN true (eO f x) .none) P := by
  cases x with
  | none => exact ok_isN rfl c
  | some v => exact ok_isN (r := .val (.bool (!isN (f v)))) rfl (by rw [q.nn]; exact c)
theorem okt_sumL {xs : List Int} (c : P (.val (eI xs.sum))) : Ok (one sSum [eL eI xs]) P := ok_one (ok_sumL rfl c)
theorem okt_sumT {xs : List Int} (c : P (.val (eI xs.sum))) : Ok (one sSum [eT eI xs]) P := ok_one (ok_sumT rfl c)
theorem okt_allL {xs : List Bool} (c : P (.val (eB (xs.all id)))) : Ok (one sAll [eL eB xs]) P := ok_one (ok_allL rfl c)
theorem okt_anyL {xs : List Bool} (c : P (.val (eB (xs.any id)))) : Ok (one sAny [eL eB xs]) P := ok_one (ok_anyL rfl c)
theorem okt_listL {xs : List α} (c : P (.fresh (eL f xs))) : Ok (one sList [eL f xs]) P := ok_one (ok_listL c)
theorem okt_listT {xs : List α} (c : P (.fresh (eL f xs))) : Ok (one sList [eT f xs]) P := ok_one (ok_listT c)
theorem okt_tupleL {xs : List α} (c : P (.val (eT f xs))) : Ok (one sTuple [eL f xs]) P := ok_one (ok_tupleL c)
theorem okt_tupleT {xs : List α} (c : P (.val (eT f xs))) : Ok (one sTuple [eT f xs]) P := ok_one (ok_tupleT c)
theorem okh_maxL {xs : List Int} {k : Int → Option γ} (h : (maxO xs).bind k = some r) (c : ∀ z, k z = some r → P (.val (eI z))) : Ok (one sMax [eL eI xs]) P := by
  obtain ⟨v, h1, h2⟩ := bS h
  unfold maxO at h1
  split at h1
  · cases h1
  · rename_i q
    cases h1
    exact ok_one (ok_maxL rfl (by simpa using q) (c _ h2))
theorem okh_minL {xs : List Int} {k : Int → Option γ} (h : (minO xs).bind k = some r) (c : ∀ z, k z = some r → P (.val (eI z))) : Ok (one sMin [eL eI xs]) P := by
  obtain ⟨v, h1, h2⟩ := bS h
  unfold minO at h1
  split at h1
  · cases h1
  · rename_i q
    cases h1
    exact ok_one (ok_minL rfl (by simpa using q) (c _ h2))
theorem okt_sortI {xs : List Int} (c : P (.fresh (eL eI (sortI xs)))) : Ok (one sSorted [eL eI xs]) P := ok_one (ok_sortI rfl c)
theorem okt_sortIT {xs : List Int} (c : P (.fresh (eL eI (sortI xs)))) : Ok (one sSortedT [eT eI xs]) P := ok_one (ok_rfl (show (intsOf _).map _ = _ by rw [show xs.map eI = xs.map PyData.int from rfl, intsOf_map]; rfl) c)
theorem okh_sortD {xs : List α} {k : List α → Option γ} (h : (sortO f xs).bind k = some r) (c : ∀ z, k z = some r → P (.fresh (eL f z))) : Ok (one sSortD [eL f xs]) P := by
  obtain ⟨v, h1, h2⟩ := bS h
  unfold sortO at h1
  split at h1
  · rename_i q
    cases h1
    refine ok_one (ok_sortD q ?_)
    have e : (xs.map f).mergeSort (PySem.W.dataLe false id) = (xs.mergeSort (leE f)).map f := by
      rw [List.map_mergeSort]
      intros; rfl
    rw [e]
    exact c _ h2
  · cases h1
theorem any_in [DecidableEq α] [q : EncOk f] (a : α) : ∀ xs : List α, ((xs.map f).any fun y => PyData.eqv y (f a)) = decide (a ∈ xs)
  | [] => rfl
  | x :: xs => by
    rw [List.map_cons, List.any_cons, any_in a xs, q.eq]
    by_cases h1 : a = x
    · subst h1; simp
    · have h2 : ¬ x = a := fun z => h1 z.symm
      by_cases h3 : a ∈ xs <;> simp [h1, h2, h3]
class EncFlat (f : α → D) : Prop where
  fl : ∀ a, flatD (f a) = true
instance : EncFlat eI := ⟨fun _ => rfl⟩
instance : EncFlat eB := ⟨fun _ => rfl⟩
instance : EncFlat eS := ⟨fun _ => rfl⟩
theorem flat_all [q : EncFlat f] (xs : List α) : (xs.map f).all flatD = true := by
  rw [List.all_eq_true]
  intro d hd
  obtain ⟨x, _, rfl⟩ := List.mem_map.mp hd
  exact q.fl x
theorem okt_inL [DecidableEq α] [EncOk f] [q : EncFlat f] {a : α} {xs : List α} (c : P (.val (eB (decide (a ∈ xs))))) : Ok (sIn false (f a) (eL f xs)) P := ok_in rfl (q.fl a) (flat_all xs) (by simp only [Bool.false_eq_true, if_false]; rw [any_in]; exact c)
theorem okt_inT [DecidableEq α] [EncOk f] [q : EncFlat f] {a : α} {xs : List α} (c : P (.val (eB (decide (a ∈ xs))))) : Ok (sIn false (f a) (eT f xs)) P := ok_in rfl (q.fl a) (flat_all xs) (by simp only [Bool.false_eq_true, if_false]; rw [any_in]; exact c)
theorem okt_ninL [DecidableEq α] [EncOk f] [q : EncFlat f] {a : α} {xs : List α} (c : P (.val (eB (!decide (a ∈ xs))))) : Ok (sIn true (f a) (eL f xs)) P := ok_in rfl (q.fl a) (flat_all xs) (by simp only [if_true]; rw [any_in]; exact c)
theorem okt_ninT [DecidableEq α] [EncOk f] [q : EncFlat f] {a : α} {xs : List α} (c : P (.val (eB (!decide (a ∈ xs))))) : Ok (sIn true (f a) (eT f xs)) P := ok_in rfl (q.fl a) (flat_all xs) (by simp only [if_true]; rw [any_in]; exact c)
end
section
variable {α β γ σ ρ : Type} {e : En} {P2 : Res → En → Prop} {P1 : R → En → Prop} {P3 : Bool → En → Prop} {P5 : Fl → Prop} {P7 : List D → En → Prop} {r : γ}
theorem rangeI_D : ∀ (n : Nat) (lo : Int), rangeD lo n = (rangeI lo n).map eI := by
  intro n
  induction n with
  | zero => intro lo; rfl
  | succ n ih =>
    intro lo
    show _ = eI lo :: (rangeI (lo + 1) n).map eI
    rw [← ih (lo + 1)]
    unfold rangeD
    rw [List.range_succ_eq_map, List.map_cons, List.map_map]
    congr 1
    · show PyData.int (lo + ((0 : Nat) : Int)) = .int lo
      simp
    · refine List.map_congr_left fun i _ => ?_
      show PyData.int (lo + ((i + 1 : Nat) : Int)) = .int (lo + 1 + (i : Int))
      congr 1
      omega
theorem okh_R1 {g : FA} (a : Ev (g e) fun rs e => Ok (looks e rs) fun ds => ∃ j zs, ds = [.int j] ∧ rngO 0 j = some zs ∧ P7 (zs.map eI) e) : Ev (iR1 g e) P7 := by
  refine ok_iR1 (ev_of a fun rs e z => ok_of z fun ds ⟨j, zs, h1, h3, h2⟩ => ?_)
  subst h1
  refine isR1 ?_
  unfold rngO at h3
  split at h3
  · rename_i q
    cases h3
    refine ⟨by have := q.2; exact ⟨by omega, by omega⟩, ?_⟩
    rw [rangeI_D]
    rwa [Int.sub_zero] at h2
  · cases h3
theorem okh_R2 {g : FA} (a : Ev (g e) fun rs e => Ok (looks e rs) fun ds => ∃ i j zs, ds = [.int i, .int j] ∧ rngO i j = some zs ∧ P7 (zs.map eI) e) : Ev (iR2 g e) P7 := by
  refine ok_iR2 (ev_of a fun rs e z => ok_of z fun ds ⟨i, j, zs, h1, h3, h2⟩ => ?_)
  subst h1
  refine isR2 ?_
  unfold rngO at h3
  split at h3
  · rename_i q
    cases h3
    refine ⟨by have := q.2; have := q.1; exact ⟨⟨by omega, by omega⟩, ⟨by omega, by omega⟩⟩, ?_⟩
    rw [rangeI_D]
    exact h2
  · cases h3
theorem enumF_eq {f : α → D} : ∀ (xs : List α) (k : Int), zipD (rangeD k xs.length) (xs.map f) = (enumF k xs).map (eP2 eI f)
  | [], k => by cases k <;> rfl
  | x :: xs, k => by
    have ih := enumF_eq (f := f) xs (k + 1)
    rw [rangeI_D] at ih ⊢
    show _ = _ :: (enumF (k + 1) xs).map (eP2 eI f)
    rw [← ih]
    rfl
theorem enumI_eq {f : α → D} (xs : List α) : enumD (xs.map f) = (enumF 0 xs).map (eP2 eI f) := by
  unfold enumD
  rw [List.length_map]
  exact enumF_eq xs 0
theorem okt_enum {g : FE} {f : α → D} (a : Ev (iSq g e) fun l e => ∃ xs : List α, l = xs.map f ∧ P7 ((enumF 0 xs).map (eP2 eI f)) e) : Ev (iEn g e) P7 := ok_iEn (ev_of a fun l e ⟨xs, h1, h2⟩ => by rw [h1, enumI_eq]; exact h2)
theorem zipE_eq {f : α → D} {g : β → D} (a : List α) (b : List β) : zipD (a.map f) (b.map g) = (a.zip b).map (eP2 f g) := zip_map f g a b
theorem okt_zipL {k : FA} {f : α → D} {g : β → D} (a : Ev (k e) fun rs e => Ev (frzs e rs) fun ds e => ∃ (xs : List α) (ys : List β), ds = [eL f xs, eL g ys] ∧ P7 ((xs.zip ys).map (eP2 f g)) e) : Ev (iZp k e) P7 := ok_iZp (ev_of a fun rs e z => ev_of z fun ds e ⟨xs, ys, h1, h2⟩ => by
  subst h1
  exact isZL (by rw [zipE_eq]; exact h2))
theorem okt_zipT {k : FA} {f : α → D} {g : β → D} (a : Ev (k e) fun rs e => Ev (frzs e rs) fun ds e => ∃ (xs : List α) (ys : List β), ds = [eT f xs, eT g ys] ∧ P7 ((xs.zip ys).map (eP2 f g)) e) : Ev (iZp k e) P7 := ok_iZp (ev_of a fun rs e z => ev_of z fun ds e ⟨xs, ys, h1, h2⟩ => by
  subst h1
  exact isZT (by rw [zipE_eq]; exact h2))
theorem okt_sqL {g : FE} {f : α → D} (a : Ev (g e) fun r e => Ev (frz e r) fun d e => ∃ xs : List α, d = eL f xs ∧ P7 (xs.map f) e) : Ev (iSq g e) P7 := ok_iSq (ev_of a fun r e z => ev_of z fun d e ⟨xs, h1, h2⟩ => by
  subst h1
  exact ok_seqOf rfl h2)
theorem okt_sqT {g : FE} {f : α → D} (a : Ev (g e) fun r e => Ev (frz e r) fun d e => ∃ xs : List α, d = eT f xs ∧ P7 (xs.map f) e) : Ev (iSq g e) P7 := ok_iSq (ev_of a fun r e z => ev_of z fun d e ⟨xs, h1, h2⟩ => by
  subst h1
  exact ok_seqOf rfl h2)
theorem okh_lstR {g : FI} (a : Ev (g e) fun l e => ∃ xs zs : List Int, l = xs.map eI ∧ lenG xs = some zs ∧ P2 (.fresh (eL eI zs)) e) : Ev (fLstR g e) P2 := ok_lstR (ev_of a fun l e ⟨xs, zs, h1, h3, h2⟩ => by
  unfold lenG at h3
  split at h3
  · rename_i q
    cases h3
    subst h1
    exact ⟨by rw [List.length_map]; exact q, h2⟩
  · cases h3)
/-! ways that meet again -/
theorem ok_joinV {f : FE} (d : D) (k : Ev (f e) fun r e' => e' = e ∧ frz e r = some (d, e)) (c : P2 (.val d) e) : Ev (toV f e) P2 := ok_toV (ev_of k fun r e' ⟨h1, h2⟩ => by
  subst h1
  exact ev_rfl h2 c)
theorem ok_joinV2 {f : FE} (d : D) (e2 : En) (k : Ev (f e) fun r e' => frz e' r = some (d, e2)) (c : P2 (.val d) e2) : Ev (toV f e) P2 := ok_toV (ev_of k fun r e' h => ev_rfl h c)
theorem ok_testJ {f : FT} (c : Bool) (k : Ev (f e) fun b e' => b = c ∧ e' = e) (j : P3 c e) : Ev (f e) P3 := ev_of k fun b e' ⟨h1, h2⟩ => by
  subst h1 h2
  exact j
theorem br_ite {c : Bool} {x y : Option γ} {A B : Prop} (h : (if c = true then x else y) = some r) (p : c = true → x = some r → A) (q : c = false → y = some r → B) : Br c A B :=
  ⟨fun z => p z (by rw [if_pos z] at h; exact h), fun z => q z (by rw [z] at h; exact h)⟩
theorem ok_joinF {f : FV} (d : D) (k : Ev (f e) fun r e' => e' = e ∧ r = .val d) (c : P2 (.val d) e) : Ev (f e) P2 := ev_of k fun r e' ⟨h1, h2⟩ => by
  subst h1 h2
  exact c
theorem okt_isi {ts : List Ty} {d : D} (b : Bool) (h1 : isDct d = false) (h2 : (ts.any fun t => isTy d t) = b) (c : P2 (.val (eB b)) e) : isDct d = false ∧ P2 (.val (.bool (ts.any fun t => isTy d t))) e := by
  subst h2
  exact ⟨h1, c⟩
theorem ok_if2 {u : FS} (Q : En → Prop) (k : Ok (u e) fun fl => ∃ e', fl = .next e' ∧ Q e') (h : ∀ e', Q e' → P5 (.next e')) : Ok (u e) P5 := ok_of k fun fl ⟨e', h1, h2⟩ => by
  subst h1
  exact h e' h2
/-! append, pop, store -/
theorem okh_append {f : FE} {i : Nat} {b : Bool} {g : α → D} {xs0 : List α} (h0 : e[i]? = some (.own b (eL g xs0)))
    (a : Ev (f e) fun r1 e1 => Ev (frz e1 r1) fun d e2 => ∃ x xs zs e', (d = g x ∧ e2[i]? = some (.own b (eL g xs))) ∧ appO xs x = some zs ∧ e2.set i (.own b (eL g zs)) = e' ∧ P2 (.val .none) e') : Ev (fAppend i f e) P2 := by
  refine ok_append (isO h0 (ev_of a fun r1 e1 z => ev_of z fun d e2 ⟨x, xs, zs, e', ⟨h1, h2⟩, h4, h5, h3⟩ => isO h2 ?_))
  unfold appO at h4
  split at h4
  · rename_i q
    cases h4
    refine ⟨by rw [List.length_map]; exact q, ?_⟩
    subst h1 h5
    unfold eL at h3
    rw [List.map_append] at h3
    exact h3
  · cases h4
theorem okh_extend {f : FV} {i : Nat} {b : Bool} {g : α → D} {xs0 : List α} (h0 : e[i]? = some (.own b (eL g xs0)))
    (a : Ev (f e) fun r1 e1 => ∃ xs ys zs e', (r1 = .fresh (eL g ys) ∧ e1[i]? = some (.own b (eL g xs))) ∧ addO xs ys = some zs ∧ e1.set i (.own b (eL g zs)) = e' ∧ P2 (.val .none) e') : Ev (fExtend i f e) P2 := by
  refine ok_extend (isO h0 (ev_of a fun r1 e1 ⟨xs, ys, zs, e', ⟨h1, h2⟩, h4, h5, h3⟩ => ⟨_, h1, isO h2 ?_⟩))
  unfold addO at h4
  split at h4
  · rename_i q
    cases h4
    refine ⟨by rw [List.length_map, List.length_map]; exact q, ?_⟩
    subst h5
    unfold eL at h3
    rw [List.map_append] at h3
    exact h3
  · cases h4
theorem okh_pop {i : Nat} {b : Bool} {g : α → D} {xs : List α} (z : α × List α) (e' : En) (h0 : e[i]? = some (.own b (eL g xs))) (h4 : popO xs = some z) (h5 : e.set i (.own b (eL g z.2)) = e') (a : P2 (.val (g z.1)) e') : Ev (fPop i e) P2 := by
  refine ok_pop (isO h0 ?_)
  obtain ⟨d, h6, rfl⟩ := Option.map_eq_some_iff.mp h4
  refine ok_rfl (a := g d) (by rw [List.length_map, List.getElem?_map, h6]; rfl) ?_
  subst h5
  unfold eL at a
  simp only [List.map_dropLast] at a
  exact a
theorem erase_map {α β : Type} (g : α → β) : ∀ (xs : List α) (j : Nat), (xs.map g).eraseIdx j = (xs.eraseIdx j).map g
  | [], _ => rfl
  | _ :: _, 0 => rfl
  | x :: xs, j + 1 => congrArg (g x :: ·) (erase_map g xs j)
theorem okh_popAt {i : Nat} {b : Bool} {g : α → D} {xs0 : List α} {f : FE} (h0 : e[i]? = some (.own b (eL g xs0)))
    (a : Ev (f e) fun r1 e1 => ∃ xs n z e', (look e1 r1 = some (.int n) ∧ e1[i]? = some (.own b (eL g xs))) ∧ popAtO xs n = some z ∧ e1.set i (.own b (eL g z.2)) = e' ∧ P2 (.val (g z.1)) e') : Ev (fPopAt i f e) P2 := by
  refine ok_popAt (isO h0 (ev_of a fun r1 e1 ⟨xs, n, z, e', ⟨h1, h2⟩, h4, h9, h3⟩ => ok_look h1 (isI (isO h2 ?_))))
  unfold popAtO at h4
  split at h4
  · rename_i q
    obtain ⟨j, h6, h7⟩ := Option.bind_eq_some_iff.mp h4
    obtain ⟨d, h8, rfl⟩ := Option.map_eq_some_iff.mp h7
    refine ⟨by rw [List.length_map]; exact q, ok_rfl (by rw [List.length_map]; exact h6) (ok_rfl (a := g d) (by rw [List.getElem?_map, h8]; rfl) ?_)⟩
    subst h9
    unfold eL at h3
    rw [← erase_map] at h3
    exact h3
  · cases h4
theorem okh_setIx {i : Nat} {g : α → D} {fi : FE} {f : FV}
    (a : Ev (f e) fun r0 e0 => ∃ x b0 l0, (r0 = .val (g x) ∧ e0[i]? = some (.own b0 (.list l0))) ∧ Ev (fi e0) fun r1 e1 => ∃ b xs n zs e', (look e1 r1 = some (.int n) ∧ e1[i]? = some (.own b (eL g xs))) ∧ setO xs n x = some zs ∧ e1.set i (.own b (eL g zs)) = e' ∧ P5 (.next e')) : Ok (sSetIx i fi f e) P5 := by
  refine ok_setIx (ev_of a fun r0 e0 ⟨x, b0, l0, ⟨h1, h2⟩, z⟩ => ?_)
  subst h1
  refine isV (isO h2 (ev_of z fun r1 e1 ⟨b, xs, n, zs, e', ⟨h3, h4⟩, h6, h9, h5⟩ => ok_look h3 (isI (isO h4 ?_))))
  obtain ⟨j, h8, rfl⟩ := Option.map_eq_some_iff.mp h6
  refine ok_rfl (by rw [List.length_map]; exact h8) ?_
  subst h9
  unfold eL at h5
  rw [List.map_set] at h5
  exact h5
/-! calls -/
def sameO {α : Type} [DecidableEq α] (a b : α) : Option Bool := if a = b then some true else none
theorem okh_call {m : Fn} {as : List Slot} {t : Option α} {k : α → Option γ} {F : α → Res} {O : α → List Slot} (h : t.bind k = some r) (sp : ∀ v, t = some v → m as = some (F v, O v)) (c : ∀ v, k v = some r → P2 (F v) (O v)) : Ev (m as) P2 := by
  obtain ⟨v, h1, h2⟩ := bS h
  exact ev_rfl (sp v h1) (c v h2)
theorem ev_fn {m : Fn} {as : List Slot} {z : Res} {o : List Slot} (h : Ev (m as) fun z' o' => z' = z ∧ o' = o) : m as = some (z, o) := by
  obtain ⟨z', o', h1, rfl, rfl⟩ := h
  exact h1
/-! loops -/
def TurnS (R : σ → En → Prop) (s : σ) : Fl → Prop
  | .next e => R s e
  | .cont e => R s e
  | _ => False
def TurnP (R : σ → En → Prop) (RT : ρ → Res → En → Prop) : Tn σ ρ → Fl → Prop
  | .nx s, .next e => R s e
  | .nx s, .cont e => R s e
  | .bk s, .brk e => R s e
  | .rt v, .ret z e => RT v z e
  | _, _ => False
theorem turnS_next {R : σ → En → Prop} {s : σ} {e : En} (h : R s e) : TurnS R s (.next e) := h
theorem turnS_cont {R : σ → En → Prop} {s : σ} {e : En} (h : R s e) : TurnS R s (.cont e) := h
theorem turnP_next {R : σ → En → Prop} {RT : ρ → Res → En → Prop} {s : σ} {e : En} (h : R s e) : TurnP R RT (.nx s) (.next e) := h
theorem turnP_cont {R : σ → En → Prop} {RT : ρ → Res → En → Prop} {s : σ} {e : En} (h : R s e) : TurnP R RT (.nx s) (.cont e) := h
theorem turnP_brk {R : σ → En → Prop} {RT : ρ → Res → En → Prop} {s : σ} {e : En} (h : R s e) : TurnP R RT (.bk s) (.brk e) := h
theorem turnP_ret {R : σ → En → Prop} {RT : ρ → Res → En → Prop} {v : ρ} {z : Res} {e : En} (h : RT v z e) : TurnP R RT (.rt v) (.ret z e) := h
theorem okh_forS {en : α → D} {gt : FG} {g : FS} {body : σ → α → Option σ} (R : σ → En → Prop) (st : ∀ s x e s', body s x = some s' → R s e → Ok (gt (en x) e) fun e1 => Ok (g e1) (TurnS R s')) :
    ∀ {xs : List α} {s0 : σ} {e : En} {k : σ → Option γ}, (forS body xs s0).bind k = some r → R s0 e → (∀ s e, k s = some r → R s e → P5 (.next e)) → Ok (sForGo gt g (xs.map en) e) P5
  | [], s0, e, k, h, h0, fin => ok_some (fin s0 e h h0)
  | x :: xs, s0, e, k, h, h0, fin => by
    obtain ⟨s1, h1, h2⟩ := bS h
    obtain ⟨s2, h3, h4⟩ := bS (show (body s0 x).bind (forS body xs) = some s1 from h1)
    refine ok_bindI (ok_of (st s0 x e s2 h3 h0) fun e1 z => ok_bindI (ok_of z fun fl z => ?_))
    have h5 : (forS body xs s2).bind k = some r := by rw [h4]; exact h2
    cases fl with
    | next e2 => exact okh_forS R st h5 z fin
    | cont e2 => exact okh_forS R st h5 z fin
    | brk e2 => exact z.elim
    | ret r e2 => exact z.elim
theorem okh_forT {en : α → D} {gt : FG} {g : FS} {body : σ → α → Option (Tn σ ρ)} (R : σ → En → Prop) (RT : ρ → Res → En → Prop) (st : ∀ s x e t, body s x = some t → R s e → Ok (gt (en x) e) fun e1 => Ok (g e1) (TurnP R RT t)) :
    ∀ {xs : List α} {s0 : σ} {e : En} {t : Tn σ ρ}, forP body xs s0 = some t → R s0 e → (∀ s e, t = .nx s → R s e → P5 (.next e)) → (∀ v z e, t = .rt v → RT v z e → P5 (.ret z e)) → Ok (sForGo gt g (xs.map en) e) P5
  | [], s0, e, k, h, h0, fin, finR => ok_some (fin s0 e (Option.some.inj h).symm h0)
  | x :: xs, s0, e, t, h, h0, fin, finR => by
    obtain ⟨t2, h3, h4⟩ := bS (show (body s0 x).bind _ = some t from h)
    refine ok_bindI (ok_of (st s0 x e t2 h3 h0) fun e1 z => ok_bindI (ok_of z fun fl z => ?_))
    cases t2 with
    | nx s2 => cases fl with
      | next e2 => exact okh_forT R RT st h4 z fin finR
      | cont e2 => exact okh_forT R RT st h4 z fin finR
      | brk e2 => exact z.elim
      | ret r e2 => exact z.elim
    | bk s2 => cases fl with
      | next e2 => exact z.elim
      | cont e2 => exact z.elim
      | brk e2 => exact ok_some (fin _ _ (Option.some.inj h4).symm z)
      | ret r e2 => exact z.elim
    | rt v => cases fl with
      | next e2 => exact z.elim
      | cont e2 => exact z.elim
      | brk e2 => exact z.elim
      | ret r e2 => exact ok_some (finR _ _ _ (Option.some.inj h4).symm z)
theorem forP_nbk {body : σ → α → Option (Tn σ ρ)} : ∀ {xs : List α} {s0 s : σ}, forP body xs s0 ≠ some (.bk s)
  | [], s0, s, h => by cases h
  | x :: xs, s0, s, h => by
    obtain ⟨t2, h3, h4⟩ := bS (show (body s0 x).bind _ = some (Tn.bk s) from h)
    cases t2 with
    | nx s2 => exact forP_nbk h4
    | bk s2 => cases h4
    | rt v => cases h4
theorem okh_forP {en : α → D} {gt : FG} {g : FS} {body : σ → α → Option (Tn σ ρ)} (R : σ → En → Prop) (RT : ρ → Res → En → Prop) {r : ρ} {xs : List α} {s0 : σ} {rest : σ → Option ρ} (h : (forP body xs s0).bind (retK rest) = some r) (h0 : R s0 e)
    (st : ∀ s x e t, body s x = some t → R s e → Ok (gt (en x) e) fun e1 => Ok (g e1) (TurnP R RT t)) (fin : ∀ s e, rest s = some r → R s e → P5 (.next e)) (finR : ∀ z e, RT r z e → P5 (.ret z e)) : Ok (sForGo gt g (xs.map en) e) P5 := by
  obtain ⟨t, h1, h2⟩ := bS h
  refine okh_forT R RT st h1 h0 (fun s e q1 q2 => fin s e (by subst q1; exact h2) q2) fun v z e q1 q2 => finR z e (by subst q1; cases h2; exact q2)
theorem okh_forL {σ' : Type} {en : α → D} {gt : FG} {g : FS} {body : σ → α → Option (Tn σ ρ)} (R : σ → En → Prop) (RT : ρ → Res → En → Prop) {r : Tn σ' ρ} {xs : List α} {s0 : σ} {rest : σ → Option (Tn σ' ρ)} (h : (forP body xs s0).bind (retL rest) = some r) (h0 : R s0 e)
    (st : ∀ s x e t, body s x = some t → R s e → Ok (gt (en x) e) fun e1 => Ok (g e1) (TurnP R RT t)) (fin : ∀ s e, rest s = some r → R s e → P5 (.next e)) (finR : ∀ v z e, r = .rt v → RT v z e → P5 (.ret z e)) : Ok (sForGo gt g (xs.map en) e) P5 := by
  obtain ⟨t, h1, h2⟩ := bS h
  refine okh_forT R RT st h1 h0 (fun s e q1 q2 => fin s e (by subst q1; exact h2) q2) fun v z e q1 q2 => finR v z e (by subst q1; exact (Option.some.inj h2).symm) q2
theorem okh_whileT {t : FT} {g : FS} {c : σ → Option Bool} {body : σ → Option (Tn σ ρ)} (R : σ → En → Prop) (RT : ρ → Res → En → Prop)
    (ct : ∀ s e b, c s = some b → R s e → Ev (t e) fun b' e' => b' = b ∧ e' = e) (st : ∀ s e u, body s = some u → R s e → Ok (g e) (TurnP R RT u)) :
    ∀ {N : Nat} {s0 : σ} {e : En} {u : Tn σ ρ}, whileP c body N s0 = some u → R s0 e → (∀ s e, u = .nx s → R s e → P5 (.next e)) → (∀ v z e, u = .rt v → RT v z e → P5 (.ret z e)) → Ok (sWhile t g N e) P5
  | 0, s0, e, u, h, h0, fin, finR => by cases h
  | N + 1, s0, e, u, h, h0, fin, finR => by
    obtain ⟨b, h1, h2⟩ := bS (show (c s0).bind _ = some u from h)
    refine okE_bind (ev_of (ct s0 e b h1 h0) fun b' e' ⟨q1, q2⟩ => ?_)
    subst q1 q2
    cases b' with
    | false => exact ok_some (fin _ _ (Option.some.inj h2).symm h0)
    | true =>
      obtain ⟨t2, h3, h4⟩ := bS (show (body s0).bind _ = some u from h2)
      refine ok_bindI (ok_of (st s0 _ t2 h3 h0) fun fl z => ?_)
      cases t2 with
      | nx s2 => cases fl with
        | next e2 => exact okh_whileT R RT ct st h4 z fin finR
        | cont e2 => exact okh_whileT R RT ct st h4 z fin finR
        | brk e2 => exact z.elim
        | ret r e2 => exact z.elim
      | bk s2 => cases fl with
        | next e2 => exact z.elim
        | cont e2 => exact z.elim
        | brk e2 => exact ok_some (fin _ _ (Option.some.inj h4).symm z)
        | ret r e2 => exact z.elim
      | rt v => cases fl with
        | next e2 => exact z.elim
        | cont e2 => exact z.elim
        | brk e2 => exact z.elim
        | ret r e2 => exact ok_some (finR _ _ _ (Option.some.inj h4).symm z)
theorem okh_whileP {t : FT} {g : FS} {c : σ → Option Bool} {body : σ → Option (Tn σ ρ)} (R : σ → En → Prop) (RT : ρ → Res → En → Prop) {r : ρ} {N : Nat} {s0 : σ} {rest : σ → Option ρ} (h : (whileP c body N s0).bind (retK rest) = some r) (h0 : R s0 e)
    (ct : ∀ s e b, c s = some b → R s e → Ev (t e) fun b' e' => b' = b ∧ e' = e) (st : ∀ s e u, body s = some u → R s e → Ok (g e) (TurnP R RT u)) (fin : ∀ s e, rest s = some r → R s e → P5 (.next e)) (finR : ∀ z e, RT r z e → P5 (.ret z e)) : Ok (sWhile t g N e) P5 := by
  obtain ⟨t, h1, h2⟩ := bS h
  refine okh_whileT R RT ct st h1 h0 (fun s e q1 q2 => fin s e (by subst q1; exact h2) q2) fun v z e q1 q2 => finR z e (by subst q1; cases h2; exact q2)
theorem okh_whileL {σ' : Type} {t : FT} {g : FS} {c : σ → Option Bool} {body : σ → Option (Tn σ ρ)} (R : σ → En → Prop) (RT : ρ → Res → En → Prop) {r : Tn σ' ρ} {N : Nat} {s0 : σ} {rest : σ → Option (Tn σ' ρ)} (h : (whileP c body N s0).bind (retL rest) = some r) (h0 : R s0 e)
    (ct : ∀ s e b, c s = some b → R s e → Ev (t e) fun b' e' => b' = b ∧ e' = e) (st : ∀ s e u, body s = some u → R s e → Ok (g e) (TurnP R RT u)) (fin : ∀ s e, rest s = some r → R s e → P5 (.next e)) (finR : ∀ v z e, r = .rt v → RT v z e → P5 (.ret z e)) : Ok (sWhile t g N e) P5 := by
  obtain ⟨t, h1, h2⟩ := bS h
  refine okh_whileT R RT ct st h1 h0 (fun s e q1 q2 => fin s e (by subst q1; exact h2) q2) fun v z e q1 q2 => finR v z e (by subst q1; exact (Option.some.inj h2).symm) q2
/-! comprehensions -/
variable {gt : FG} {tt : FT} {el : FE} {vs : List Nat}
theorem okh_compGo {en : α → D} {t : α → Option (Option β)} {e0 : En} {P : List D → En → Prop} (fe : β → D)
    (st : ∀ x o, t x = some o → Ok (gt (en x) e0) fun e => Ev (tt e) fun b e => Br b (Ev (el e) fun r e => Ev (frz e r) fun d e => (∃ v, o = some v ∧ d = fe v) ∧ wipeE e vs = e0) (o = none ∧ wipeE e vs = e0)) :
    ∀ {xs : List α} {ys : List β} {e : En} {acc : List D}, compO t xs = some ys → acc.length + xs.length ≤ SZ → wipeE e vs = e0 → (∀ e2, wipeE e2 vs = e0 → P (acc ++ ys.map fe) e2) → Ev (compGo vs gt tt el (xs.map en) e acc) P
  | [], ys, e, acc, h, hl, h0, fin => by
    cases h
    have z := fin e h0
    rw [List.map_nil, List.append_nil] at z
    exact ev_some z
  | x :: xs, ys, e, acc, h, hl, h0, fin => by
    obtain ⟨o, h1, h2⟩ := bS (show (t x).bind _ = some ys from h)
    obtain ⟨zs, h3, h4⟩ := bS h2
    rw [List.length_cons] at hl
    show Ev ((gt (en x) (wipeE e vs)).bind _) P
    rw [h0]
    refine evO_bind (ok_of (st x o h1) fun e1 z => ev_bind (ev_of z fun p e ⟨h5, h6⟩ => ?_))
    cases p with
    | true =>
      refine ev_bind (ev_of (h5 rfl) fun r e z => ev_bind (ev_of z fun q e ⟨⟨v, h7, h8⟩, h9⟩ => ?_))
      subst h7 h8
      cases h4
      rw [if_pos (show acc.length < SZ by omega)]
      refine okh_compGo fe st h3 (by rw [List.length_append]; show acc.length + 1 + xs.length ≤ SZ; omega) h9 fun e2 q => ?_
      have z := fin e2 q
      rwa [List.map_cons, show acc ++ fe v :: zs.map fe = acc ++ [fe v] ++ zs.map fe by simp] at z
    | false =>
      obtain ⟨h7, h8⟩ := h6 rfl
      subst h7
      cases h4
      exact okh_compGo fe st h3 (by omega) h8 fin
theorem wipe2 (e : En) (vs : List Nat) : wipeE (wipeE e vs) vs = wipeE e vs := by
  refine List.ext_getElem? fun i => ?_
  rw [wipeE_get, wipeE_get]
  split
  · cases e[i]? <;> rfl
  · rfl
theorem okh_comp {en : α → D} {t : α → Option (Option β)} {xs : List α} {k : List β → Option γ} {e0 : En} (fe : β → D) (h : (compG t xs).bind k = some r) (h0 : wipeE e vs = e0)
    (st : ∀ x o, t x = some o → Ok (gt (en x) e0) fun e => Ev (tt e) fun b e => Br b (Ev (el e) fun r e => Ev (frz e r) fun d e => (∃ v, o = some v ∧ d = fe v) ∧ wipeE e vs = e0) (o = none ∧ wipeE e vs = e0))
    (fin : ∀ ys, k ys = some r → P2 (.fresh (eL fe ys)) e) : Ev (compGo vs gt tt el (xs.map en) (wipeE e vs) []) fun r e1 => P2 (.fresh (.list r)) (mergeE e e1 vs) := by
  obtain ⟨v, h1, h2⟩ := bS h
  unfold compG at h1
  split at h1
  · rename_i q
    refine okh_compGo fe st h1 (by simpa using q) ((wipe2 e vs).trans h0) fun e2 h3 => ?_
    rw [merge_bk h3 h0]
    exact fin v h2
  · cases h1
theorem okt_comp {en : α → D} {c : α → Bool} {f : α → β} {xs : List α} {k : List β → Option γ} {e0 : En} (fe : β → D) (h : (mapG c f xs).bind k = some r) (h0 : wipeE e vs = e0)
    (st : ∀ x, Ok (gt (en x) e0) fun e => Ev (tt e) fun b e => b = c x ∧ (b = true → Ev (el e) fun r e => Ev (frz e r) fun d e => d = fe (f x) ∧ wipeE e vs = e0) ∧ (b = false → wipeE e vs = e0))
    (fin : ∀ ys, k ys = some r → P2 (.fresh (eL fe ys)) e) : Ev (compGo vs gt tt el (xs.map en) (wipeE e vs) []) fun r e1 => P2 (.fresh (.list r)) (mergeE e e1 vs) := by
  have key : ∀ xs : List α, compO (fun x => some (if c x = true then some (f x) else none)) xs = some ((xs.filter c).map f) := by
    intro xs
    induction xs with
    | nil => rfl
    | cons x xs ih =>
      show (compO _ xs).bind _ = _
      rw [ih]
      by_cases hc : c x = true
      · simp [hc]
      · simp [hc]
  have e1 : mapG c f xs = compG (fun x => some (if c x = true then some (f x) else none)) xs := by
    unfold mapG compG
    rw [key]
  rw [e1] at h
  refine okh_comp fe h h0 (fun x o q => ok_of (st x) fun e z => ev_of z fun b e ⟨h1, h2, h3⟩ => ?_) fin
  cases q
  subst h1
  refine ⟨fun hc => ev_of (h2 hc) fun r e z => ev_of z fun d e ⟨q1, q2⟩ => ⟨⟨_, by rw [if_pos hc], q1⟩, q2⟩, fun hc => ⟨by rw [hc]; rfl, h3 hc⟩⟩
theorem okt_fComp {it : FI} {en : α → D} (fe : β → D) (k : Ev (it e) fun l e1 => ∃ (xs : List α) (c : α → Bool) (f : α → β) (e0 : En) (ys : List β), l = xs.map en ∧ freeB e1 vs = true ∧ mapG c f xs = some ys ∧ wipeE e1 vs = e0 ∧
    (∀ x, Ok (gt (en x) e0) fun e => Ev (tt e) fun b e => b = c x ∧ (b = true → Ev (el e) fun r e => Ev (frz e r) fun d e => d = fe (f x) ∧ wipeE e vs = e0) ∧ (b = false → wipeE e vs = e0)) ∧ P2 (.fresh (eL fe ys)) e1) : Ev (fComp vs it gt tt el e) P2 :=
  ok_comp (ev_of k fun l e1 ⟨xs, c, f, e0, ys, h1, h2, h3, h4, h5, h6⟩ => by
    subst h1
    exact ⟨h2, okt_comp (P2 := P2) (e := e1) (k := some) (r := ys) fe (by rw [h3]; rfl) h4 h5 fun zs hz => by cases hz; exact h6⟩)
theorem okh_fComp {it : FI} {en : α → D} (fe : β → D) (k : Ev (it e) fun l e1 => ∃ (xs : List α) (t : α → Option (Option β)) (e0 : En) (ys : List β), l = xs.map en ∧ freeB e1 vs = true ∧ compG t xs = some ys ∧ wipeE e1 vs = e0 ∧
    (∀ x o, t x = some o → Ok (gt (en x) e0) fun e => Ev (tt e) fun b e => Br b (Ev (el e) fun r e => Ev (frz e r) fun d e => (∃ v, o = some v ∧ d = fe v) ∧ wipeE e vs = e0) (o = none ∧ wipeE e vs = e0)) ∧ P2 (.fresh (eL fe ys)) e1) : Ev (fComp vs it gt tt el e) P2 :=
  ok_comp (ev_of k fun l e1 ⟨xs, t, e0, ys, h1, h2, h3, h4, h5, h6⟩ => by
    subst h1
    exact ⟨h2, okh_comp (P2 := P2) (e := e1) (k := some) (r := ys) fe (by rw [h3]; rfl) h4 h5 fun zs hz => by cases hz; exact h6⟩)
theorem okt_fIsi {ts : List Ty} {f : FE} (k : Ev (f e) fun r e => Ok (look e r) fun d => ∃ b, isDct d = false ∧ (ts.any fun t => isTy d t) = b ∧ P2 (.val (eB b)) e) : Ev (fIsi ts f e) P2 :=
  ok_isi (ev_of k fun r e z => ok_of z fun d ⟨b, h1, h2, h3⟩ => by
    subst h2
    exact ⟨h1, h3⟩)
/-- the block hands a state on -/
theorem okh_compSGo {en : α → D} {t : σ → α → Option (Option β × σ)} {P : List D → En → Prop} (fe : β → D) (R : σ → En)
    (st : ∀ s x o, t s x = some o → Ok (gt (en x) (R s)) fun e => Ev (tt e) fun b e => Br b (Ev (el e) fun r e => Ev (frz e r) fun d e => (∃ v, o.1 = some v ∧ d = fe v) ∧ wipeE e vs = R o.2) (o.1 = none ∧ wipeE e vs = R o.2)) :
    ∀ {xs : List α} {s0 : σ} {ys : List β × σ} {e : En} {acc : List D}, compS t xs s0 = some ys → acc.length + xs.length ≤ SZ → wipeE e vs = R s0 → (∀ e2, wipeE e2 vs = R ys.2 → P (acc ++ ys.1.map fe) e2) → Ev (compGo vs gt tt el (xs.map en) e acc) P
  | [], s0, ys, e, acc, h, hl, h0, fin => by
    cases h
    have z := fin e h0
    rw [List.map_nil, List.append_nil] at z
    exact ev_some z
  | x :: xs, s0, ys, e, acc, h, hl, h0, fin => by
    obtain ⟨o, h1, h2⟩ := bS (show (t s0 x).bind _ = some ys from h)
    obtain ⟨zs, h3, h4⟩ := bS h2
    rw [List.length_cons] at hl
    show Ev ((gt (en x) (wipeE e vs)).bind _) P
    rw [h0]
    refine evO_bind (ok_of (st s0 x o h1) fun e1 z => ev_bind (ev_of z fun p e ⟨h5, h6⟩ => ?_))
    cases p with
    | true =>
      refine ev_bind (ev_of (h5 rfl) fun r e z => ev_bind (ev_of z fun q e ⟨⟨v, h7, h8⟩, h9⟩ => ?_))
      subst h8
      rw [h7] at h4
      cases h4
      rw [if_pos (show acc.length < SZ by omega)]
      refine okh_compSGo fe R st h3 (by rw [List.length_append]; show acc.length + 1 + xs.length ≤ SZ; omega) h9 fun e2 q => ?_
      have z := fin e2 q
      rwa [List.map_cons, show acc ++ fe v :: zs.1.map fe = acc ++ [fe v] ++ zs.1.map fe by simp] at z
    | false =>
      obtain ⟨h7, h8⟩ := h6 rfl
      rw [h7] at h4
      cases h4
      exact okh_compSGo fe R st h3 (by omega) h8 fin
/-- behind such a block the frame is its own, with the state -/
theorem okh_compS {en : α → D} {t : σ → α → Option (Option β × σ)} {xs : List α} {s0 : σ} {k : List β × σ → Option γ} (fe : β → D) (R : σ → En) (E : σ → En) (h : (compSG t xs s0).bind k = some r) (h0 : wipeE e vs = R s0)
    (st : ∀ s x o, t s x = some o → Ok (gt (en x) (R s)) fun e => Ev (tt e) fun b e => Br b (Ev (el e) fun r e => Ev (frz e r) fun d e => (∃ v, o.1 = some v ∧ d = fe v) ∧ wipeE e vs = R o.2) (o.1 = none ∧ wipeE e vs = R o.2))
    (mr : ∀ s e2, wipeE e2 vs = R s → mergeE e e2 vs = E s)
    (fin : ∀ ys, k ys = some r → P2 (.fresh (eL fe ys.1)) (E ys.2)) : Ev (compGo vs gt tt el (xs.map en) (wipeE e vs) []) fun r e1 => P2 (.fresh (.list r)) (mergeE e e1 vs) := by
  obtain ⟨v, h1, h2⟩ := bS h
  unfold compSG at h1
  split at h1
  · rename_i q
    refine okh_compSGo fe R st h1 (by simpa using q) ((wipe2 e vs).trans h0) fun e2 h3 => ?_
    rw [mr _ _ h3]
    exact fin v h2
  · cases h1
/-- all of the frame but the block's own names -/
theorem merge_E {e e1 e2 : En} {vs : List Nat} (h : wipeE e1 vs = wipeE e2 vs) (k : ∀ v ∈ vs, e2[v]? = e[v]?) (hl : e.length = e2.length) : mergeE e e1 vs = e2 := by
  refine List.ext_getElem? fun i => ?_
  have h1 : (wipeE e1 vs)[i]? = (wipeE e2 vs)[i]? := by rw [h]
  have h2 : e1.length = e2.length := by
    have := congrArg List.length h
    rwa [wipeE_len, wipeE_len] at this
  rw [wipeE_get, wipeE_get] at h1
  rw [mergeE_get e e1 (hl.trans h2.symm)]
  split
  · rename_i c; exact (k i c).symm
  · rename_i c
    rwa [if_neg c, if_neg c] at h1
theorem okh_fCompS {it : FI} {en : α → D} (fe : β → D) (k : Ev (it e) fun l e1 => ∃ (xs : List α) (s0 : σ) (t : σ → α → Option (Option β × σ)) (R E : σ → En) (ys : List β × σ), l = xs.map en ∧ freeB e1 vs = true ∧ compSG t xs s0 = some ys ∧ wipeE e1 vs = R s0 ∧
    (∀ s x o, t s x = some o → Ok (gt (en x) (R s)) fun e => Ev (tt e) fun b e => Br b (Ev (el e) fun r e => Ev (frz e r) fun d e => (∃ v, o.1 = some v ∧ d = fe v) ∧ wipeE e vs = R o.2) (o.1 = none ∧ wipeE e vs = R o.2)) ∧
    (∀ s e2, wipeE e2 vs = R s → mergeE e1 e2 vs = E s) ∧ P2 (.fresh (eL fe ys.1)) (E ys.2)) : Ev (fComp vs it gt tt el e) P2 :=
  ok_comp (ev_of k fun l e1 ⟨xs, s0, t, R, E, ys, h1, h2, h3, h4, h5, h7, h6⟩ => by
    subst h1
    exact ⟨h2, okh_compS (P2 := P2) (e := e1) (k := some) (r := ys) fe R E (by rw [h3]; rfl) h4 h5 h7 fun zs hz => by cases hz; exact h6⟩)
end
end DL

set_option Elab.async false
set_option linter.all false
set_option maxRecDepth 100000
set_option maxHeartbeats 2000000
/-! TC2: keys of dicts. -/
namespace DL
open PySem PySem.Spec PyProof.Rows L2
instance : EncKey1 eI := ⟨fun _ => rfl, fun a b => by show (a == b) = _; by_cases h : a = b <;> simp [h]⟩
instance : EncKey1 eS := ⟨fun _ => rfl, fun a b => by show (a == b) = _; by_cases h : a = b <;> simp [h]⟩
instance {α : Type} [DecidableEq α] (f : α → D) [q : EncKey1 f] : EncKeyT (eT f) where
  tl := fun l => l.map f
  tup := fun _ => rfl
  isk := fun l => by
    rw [List.all_eq_true]
    intro d hd
    obtain ⟨x, _, rfl⟩ := List.mem_map.mp hd
    exact q.isk x
  keq := fun a b => keyEqs_map f a b
instance {α β : Type} [DecidableEq α] [DecidableEq β] (f : α → D) (g : β → D) [q : EncKey1 f] [p : EncKey1 g] : EncKeyT (eP2 f g) where
  tl := fun x => [f x.1, g x.2]
  tup := fun _ => rfl
  isk := fun x => by simp [q.isk, p.isk]
  keq := fun a b => by
    show (keyEq1 (f a.1) (f b.1) && (keyEq1 (g a.2) (g b.2) && true)) = _
    rw [q.keq, p.keq]
    obtain ⟨a1, a2⟩ := a
    obtain ⟨b1, b2⟩ := b
    by_cases h1 : a1 = b1 <;> by_cases h2 : a2 = b2 <;> simp [h1, h2]
theorem isLck_d : isLck .dead = false := rfl
theorem isLck_v {b : Bool} {d : D} : isLck (.val b d) = false := rfl
theorem isLck_o {b : Bool} {d : D} : isLck (.own b d) = false := rfl
theorem isLck_l {d : D} : isLck (.lck d) = true := rfl
theorem unl_next2 {i : Nat} {m : List Bool} {e e' : En} {c : D} {P5 : Fl → Prop} (h1 : e[i]? = some (.lck c)) (h2 : e.map isLck = m) (h3 : e.set i (.own false c) = e') (k : P5 (.next e')) : ∃ fl', unlF i m (.next e) = some fl' ∧ P5 fl' :=
  unl_next (by unfold unlE; rw [h1]; show (if e.map isLck = m then some (e.set i (.own false c)) else none) = _; rw [if_pos h2, h3]) k
end DL

set_option Elab.async false
set_option linter.all false
set_option maxRecDepth 100000
set_option maxHeartbeats 2000000
/-! TC3: sorted, by an order of the typed values. -/
namespace DL
open PySem PySem.Spec PyProof.Rows L2
class EncSort {α : Type} [DecidableEq α] (f : α → D) extends EncOk f where
  alk : ∀ a b, PySem.W.alike (f a) (f b) = true
  tk : Bool
  okS : α → Bool
  okT : ∀ a, okS a = true → tk = true → ∃ x l, f a = .tuple (x :: l)
  okN : ∀ a, tk = false → f a ≠ .none ∧ ∀ l, f a ≠ .tuple l
  lt : α → α → Bool
  lt_eq : ∀ a b, PySem.W.dataLt (f a) (f b) = lt a b
  tri : ∀ a b, lt a b = false → lt b a = false → a = b
def ltL {α : Type} [DecidableEq α] (lt : α → α → Bool) : List α → List α → Bool
  | [], [] => false
  | [], _ :: _ => true
  | _ :: _, [] => false
  | x :: xs, y :: ys => if x = y then ltL lt xs ys else lt x y
theorem ltL_tri {α : Type} [DecidableEq α] {lt : α → α → Bool} (h : ∀ a b, lt a b = false → lt b a = false → a = b) : ∀ a b : List α, ltL lt a b = false → ltL lt b a = false → a = b
  | [], [], _, _ => rfl
  | [], _ :: _, h1, _ => by cases h1
  | _ :: _, [], _, h2 => by cases h2
  | x :: xs, y :: ys, h1, h2 => by
    unfold ltL at h1 h2
    by_cases c : x = y
    · subst c
      rw [if_pos rfl] at h1 h2
      rw [ltL_tri h xs ys h1 h2]
    · rw [if_neg c] at h1
      rw [if_neg fun z => c z.symm] at h2
      exact absurd (h x y h1 h2) c
theorem alkAll {α : Type} {f : α → D} (h : ∀ a b, PySem.W.alike (f a) (f b) = true) : ∀ a b : List α, PySem.W.alikeAll (a.map f) (b.map f) = true
  | [], [] => by simp [PySem.W.alikeAll]
  | [], _ :: _ => by simp [PySem.W.alikeAll]
  | _ :: _, [] => by simp [PySem.W.alikeAll]
  | x :: xs, y :: ys => by simp [PySem.W.alikeAll, h x y, alkAll h xs ys]
theorem toks_nil : PySem.W.keyToksAll [] = [.inl 0] := by rw [PySem.W.keyToksAll]
theorem rows_lt {α : Type} [DecidableEq α] (f : α → D) [q : EncSort f] : ∀ a b : List α, PyProof.Rows.lexLt itemOrd (PySem.W.keyToksAll (a.map f)) (PySem.W.keyToksAll (b.map f)) = ltL q.lt a b
  | [], [] => PyProof.Rows.lex_irrefl _
  | [], y :: ys => by
    show PyProof.Rows.lexLt itemOrd (PySem.W.keyToksAll []) (PySem.W.keyToksAll (f y :: ys.map f)) = true
    rw [PySem.W.toks_all_cons, toks_nil, lex_diff (O := itemOrd) (by simp)]
    rfl
  | x :: xs, [] => by
    show PyProof.Rows.lexLt itemOrd (PySem.W.keyToksAll (f x :: xs.map f)) (PySem.W.keyToksAll []) = false
    rw [PySem.W.toks_all_cons, toks_nil, lex_diff (O := itemOrd) (by simp)]
    rfl
  | x :: xs, y :: ys => by
    show PyProof.Rows.lexLt itemOrd (PySem.W.keyToksAll (f x :: xs.map f)) (PySem.W.keyToksAll (f y :: ys.map f)) = _
    rw [PySem.W.dataLt_cons (q.alk x y), q.eq, q.lt_eq, rows_lt f xs ys]
    show _ = (if x = y then ltL q.lt xs ys else q.lt x y)
    by_cases c : x = y <;> simp [c]
instance : EncSort eI where
  alk := fun _ _ => rfl
  tk := false
  okS := fun _ => true
  okT := fun _ _ h => by cases h
  okN := fun a _ => ⟨(fun z => nomatch z), (fun l z => nomatch z)⟩
  lt := fun a b => decide (a < b)
  lt_eq := fun a b => PySem.W.dataLt_int a b
  tri := fun a b h1 h2 => by simp at h1 h2; omega
instance {α : Type} [DecidableEq α] (f : α → D) [q : EncSort f] : EncSort (eT f) where
  alk := fun a b => by show PySem.W.alike (.tuple (a.map f)) (.tuple (b.map f)) = true; simp only [PySem.W.alike]; exact alkAll q.alk a b
  tk := true
  okS := fun l => !l.isEmpty
  okT := fun l h _ => by
    cases l with
    | nil => cases h
    | cons x xs => exact ⟨f x, xs.map f, rfl⟩
  okN := fun a h => by cases h
  lt := ltL q.lt
  lt_eq := fun a b => (PySem.W.dataLt_tuple _ _).trans (rows_lt f a b)
  tri := ltL_tri q.tri
instance {α : Type} [DecidableEq α] (f : α → D) [q : EncSort f] : EncSort (eL f) where
  alk := fun a b => by show PySem.W.alike (.list (a.map f)) (.list (b.map f)) = true; simp only [PySem.W.alike]; exact alkAll q.alk a b
  tk := false
  okS := fun _ => true
  okT := fun _ _ h => by cases h
  okN := fun a _ => ⟨(fun z => nomatch z), (fun l z => nomatch z)⟩
  lt := ltL q.lt
  lt_eq := fun a b => (PySem.W.dataLt_list _ _).trans (rows_lt f a b)
  tri := ltL_tri q.tri
instance {α β : Type} [DecidableEq α] [DecidableEq β] (f : α → D) (g : β → D) [q : EncSort f] [p : EncSort g] : EncSort (eP2 f g) where
  alk := fun a b => by show PySem.W.alike (.tuple [f a.1, g a.2]) (.tuple [f b.1, g b.2]) = true; simp only [PySem.W.alike, PySem.W.alikeAll, q.alk, p.alk]; rfl
  tk := true
  okS := fun _ => true
  okT := fun a _ _ => ⟨f a.1, [g a.2], rfl⟩
  okN := fun a h => by cases h
  lt := fun a b => if a.1 = b.1 then (if a.2 = b.2 then false else p.lt a.2 b.2) else q.lt a.1 b.1
  lt_eq := fun a b => by
    refine (PySem.W.dataLt_pair (q.alk _ _) (p.alk _ _)).trans ?_
    rw [q.eq, p.eq, p.lt_eq, q.lt_eq]
    by_cases c : a.1 = b.1 <;> by_cases d : a.2 = b.2 <;> simp [c, d]
  tri := fun a b h1 h2 => by
    obtain ⟨a1, a2⟩ := a
    obtain ⟨b1, b2⟩ := b
    dsimp only at h1 h2
    by_cases c : a1 = b1
    · subst c
      rw [if_pos rfl] at h1 h2
      by_cases d : a2 = b2
      · subst d; rfl
      · rw [if_neg d] at h1
        rw [if_neg fun z => d z.symm] at h2
        rw [p.tri _ _ h1 h2]
    · rw [if_neg c] at h1
      rw [if_neg fun z => c z.symm] at h2
      exact absurd (q.tri _ _ h1 h2) c
def insS {α : Type} (lt : α → α → Bool) (x : α) : List α → List α
  | [] => [x]
  | y :: ys => if lt y x = true then y :: insS lt x ys else x :: y :: ys
def sortS {α : Type} (lt : α → α → Bool) : List α → List α
  | [] => []
  | x :: xs => insS lt x (sortS lt xs)
theorem insS_perm {α : Type} (lt : α → α → Bool) (x : α) : ∀ ys : List α, (insS lt x ys).Perm (x :: ys)
  | [] => .refl _
  | y :: ys => by
    unfold insS
    split
    · exact ((insS_perm lt x ys).cons y).trans (List.Perm.swap x y ys)
    · exact .refl _
theorem sortS_perm {α : Type} (lt : α → α → Bool) : ∀ xs : List α, (sortS lt xs).Perm xs
  | [] => .refl _
  | x :: xs => (insS_perm lt x _).trans ((sortS_perm lt xs).cons x)
section
variable {α : Type} [DecidableEq α] {f : α → D} [q : EncSort f]
theorem lt_irr (a : α) : q.lt a a = false := by rw [← q.lt_eq]; exact PyProof.Rows.lex_irrefl _
theorem lt_tr {a b c : α} (h1 : q.lt a b = true) (h2 : q.lt b c = true) : q.lt a c = true := by
  rw [← q.lt_eq] at *
  exact PyProof.Rows.lex_trans _ _ _ h1 h2
theorem lt_neg {a b c : α} (h : q.lt a c = true) : q.lt a b = true ∨ q.lt b c = true := by
  rw [← q.lt_eq, ← q.lt_eq]
  rw [← q.lt_eq] at h
  exact PyProof.Rows.lex_negTrans _ _ _ h
theorem lt_asy {a b : α} (h : q.lt a b = true) : q.lt b a = false := by
  cases e : q.lt b a with
  | false => rfl
  | true => have := lt_tr (q := q) h e; rw [lt_irr] at this; cases this
theorem insS_sorted (x : α) : ∀ {ys : List α}, ys.Pairwise (fun a b => q.lt b a = false) → (insS q.lt x ys).Pairwise (fun a b => q.lt b a = false)
  | [], _ => List.pairwise_singleton ..
  | y :: ys, h => by
    obtain ⟨h1, h2⟩ := List.pairwise_cons.mp h
    unfold insS
    split
    · rename_i c
      refine List.pairwise_cons.mpr ⟨fun z hz => ?_, insS_sorted x h2⟩
      rcases List.mem_cons.mp ((insS_perm q.lt x ys).mem_iff.mp hz) with rfl | hz
      · exact lt_asy c
      · exact h1 z hz
    · rename_i c
      have c : q.lt y x = false := by simpa using c
      refine List.pairwise_cons.mpr ⟨fun z hz => ?_, h⟩
      rcases List.mem_cons.mp hz with rfl | hz
      · exact c
      · cases e : q.lt z x with
        | false => rfl
        | true =>
          rcases lt_neg (q := q) (b := y) e with e2 | e2
          · rw [h1 z hz] at e2; cases e2
          · rw [c] at e2; cases e2
theorem sortS_sorted : ∀ xs : List α, (sortS q.lt xs).Pairwise (fun a b => q.lt b a = false)
  | [] => .nil
  | x :: xs => insS_sorted x (sortS_sorted xs)
theorem leE_lt (a b : α) : leE f a b = !q.lt b a := by
  rw [← q.lt_eq]
  rfl
theorem merge_sortS (xs : List α) : xs.mergeSort (leE f) = sortS q.lt xs := by
  refine List.Perm.eq_of_pairwise (le := fun a b => q.lt b a = false) (fun a b _ _ h1 h2 => q.tri a b h2 h1) ?_ (sortS_sorted xs) ((List.mergeSort_perm _ _).trans (sortS_perm _ _).symm)
  have z := List.pairwise_mergeSort (le := leE f) (fun a b c h1 h2 => by
    rw [leE_lt] at *
    cases e : q.lt c a with
    | false => rfl
    | true =>
      rcases lt_neg (q := q) (b := b) e with e2 | e2
      · rw [e2] at h2; cases h2
      · rw [e2] at h1; cases h1) (fun a b => by
    rw [leE_lt, leE_lt]
    cases e : q.lt b a with
    | false => rfl
    | true => rw [lt_asy e]; rfl) xs
  exact z.imp fun h => by rw [leE_lt] at h; simpa using h
def sortG {α : Type} [DecidableEq α] (f : α → D) [q : EncSort f] (xs : List α) : Option (List α) := if (decide (xs.length < 2) || (!q.tk || xs.all q.okS)) = true then some (sortS q.lt xs) else none
theorem okh_sortG {γ : Type} {P : Res → Prop} {r : γ} {xs : List α} {k : List α → Option γ} (h : (sortG f xs).bind k = some r) (c : ∀ z, k z = some r → P (.fresh (eL f z))) (hn : q.n ≤ 60 := by decide) : Ok (one sSortD [eL f xs]) P := by
  obtain ⟨v, h1, h2⟩ := bS h
  unfold sortG at h1
  split at h1
  · rename_i c0
    cases h1
    have ok : sortOk (xs.map f) = true := by
      unfold sortOk
      rw [Bool.and_eq_true, Bool.and_eq_true]
      refine ⟨⟨?_, ?_⟩, ?_⟩
      · rw [List.all_eq_true]
        intro d hd
        rw [List.all_eq_true]
        intro d' hd'
        obtain ⟨x, _, rfl⟩ := List.mem_map.mp hd
        obtain ⟨y, _, rfl⟩ := List.mem_map.mp hd'
        exact q.alk x y
      · rw [List.all_eq_true]
        intro d hd
        obtain ⟨x, _, rfl⟩ := List.mem_map.mp hd
        exact decide_eq_true (Nat.le_trans (q.pl x).2 hn)
      · rw [Bool.or_eq_true, decide_eq_true_eq, Bool.or_eq_true] at c0
        rw [List.length_map, Bool.or_eq_true, Bool.or_eq_true, decide_eq_true_eq]
        rcases c0 with c0 | c0 | c0
        · exact .inl (.inl c0)
        · refine .inr ?_
          rw [List.all_eq_true]
          intro d hd
          obtain ⟨x, _, rfl⟩ := List.mem_map.mp hd
          obtain ⟨z1, z2⟩ := q.okN x (by simpa using c0)
          cases e : f x with
          | none => exact absurd e z1
          | tuple l => exact absurd e (z2 l)
          | _ => rfl
        · by_cases ht : q.tk = true
          · refine .inl (.inr ?_)
            rw [List.all_eq_true]
            intro d hd
            obtain ⟨x, hx, rfl⟩ := List.mem_map.mp hd
            obtain ⟨y, l, e⟩ := q.okT x (List.all_eq_true.mp c0 x hx) ht
            rw [e]
          · refine .inr ?_
            rw [List.all_eq_true]
            intro d hd
            obtain ⟨x, _, rfl⟩ := List.mem_map.mp hd
            obtain ⟨z1, z2⟩ := q.okN x (by simpa using ht)
            cases e : f x with
            | none => exact absurd e z1
            | tuple l => exact absurd e (z2 l)
            | _ => rfl
    refine okh_sortD (f := f) (xs := xs) (k := some) (r := sortS q.lt xs) ?_ fun z hz => ?_
    · unfold sortO
      rw [if_pos ok, merge_sortS]
      rfl
    · cases hz
      exact c _ h2
  · cases h1
end
end DL

set_option Elab.async false
set_option linter.all false
set_option maxRecDepth 100000
set_option maxHeartbeats 2000000
/-! TC4: tuple * int, is with truths, tuple(range(..)), xs[k] op= e. -/
namespace DL
open PySem PySem.Spec PyProof.Rows L2
theorem pinV {b : Bool} {d : D} : (Slot.val b d).pin = b := rfl
theorem pinO {b : Bool} {d : D} : (Slot.own b d).pin = b := rfl
theorem pinD : Slot.dead.pin = false := rfl
theorem ok_testJ2 {f : FT} {P3 : Bool → En → Prop} {e : En} (c : Bool) (e2 : En) (k : Ev (f e) fun b e' => b = c ∧ e' = e2) (j : P3 c e2) : Ev (f e) P3 := ev_of k fun b e' ⟨h1, h2⟩ => by
  subst h1 h2
  exact j
theorem unlE_of {i : Nat} {m : List Bool} {e e' : En} {c : D} (h1 : e[i]? = some (.lck c)) (h2 : e.map isLck = m) (h3 : e.set i (.own false c) = e') : unlE i m e = some e' := by
  unfold unlE
  rw [h1]
  show (if e.map isLck = m then some (e.set i (.own false c)) else none) = _
  rw [if_pos h2, h3]
def repTO {α : Type} (xs : List α) (k : Int) : Option (List α) := if xs.isEmpty = false ∧ xs.length ≤ 1000 ∧ -1000 ≤ k ∧ k ≤ 1000 then some (List.replicate k.toNat xs).flatten else none
def augO (op : Int → Int → Int) (xs : List Int) (x : Int) (k y : Int) : Option (List Int) := setO xs k (op x y)
section
variable {α γ : Type} {f : α → D} {r : γ} {P : Res → Prop} {P2 : Res → En → Prop} {P5 : Fl → Prop} {e : En}
theorem okh_repT {xs : List α} {n : Int} {k : List α → Option γ} (h : (repTO xs n).bind k = some r) (c : ∀ zs, k zs = some r → P (.val (eT f zs))) : Ok (vMulT (eT f xs) (.int n)) P := by
  obtain ⟨v, h1, h2⟩ := bS h
  unfold repTO at h1
  split at h1
  · rename_i q
    cases h1
    have e : (List.replicate n.toNat (xs.map f)).flatten = ((List.replicate n.toNat xs).flatten).map f := by rw [List.map_flatten, List.map_replicate]
    have z : xs.map f ≠ [] ∧ (xs.map f).length ≤ 1000 ∧ -1000 ≤ n ∧ n ≤ 1000 := by
      refine ⟨fun z => ?_, by rw [List.length_map]; exact q.2.1, q.2.2⟩
      cases xs with
      | nil => cases q.1
      | cons a b => cases z
    have w := c _ h2
    refine ok_rfl (a := .val (.tuple (List.replicate n.toNat (xs.map f)).flatten)) ?_ ?_
    · show (if xs.map f ≠ [] ∧ (xs.map f).length ≤ 1000 ∧ -1000 ≤ n ∧ n ≤ 1000 then some (Res.val (.tuple (List.replicate n.toNat (xs.map f)).flatten)) else none) = _
      rw [if_pos z]
    · rw [e]
      exact w
  · cases h1
theorem okt_isB {a b : Bool} (c : P (.val (eB (decide (a = b))))) : Ok (sIsB false (.bool a) (.bool b)) P := ok_rfl rfl c
theorem okt_notB {a b : Bool} (c : P (.val (eB (!decide (a = b))))) : Ok (sIsB true (.bool a) (.bool b)) P := ok_rfl rfl c
theorem okh_tupR {g : FI} (a : Ev (g e) fun l e => ∃ xs zs : List Int, l = xs.map eI ∧ lenG xs = some zs ∧ P2 (.val (eT eI zs)) e) : Ev (fTupR g e) P2 := by
  refine ev_bind (ev_of a fun l e ⟨xs, zs, h1, h3, h2⟩ => ?_)
  unfold lenG at h3
  split at h3
  · rename_i q
    cases h3
    subst h1
    show Ev (if (xs.map eI).length ≤ SZ then _ else _) _
    rw [if_pos (by rw [List.length_map]; exact q)]
    exact ev_some h2
  · cases h3
theorem okh_augIx {op : Int → Int → Int} {i : Nat} {b0 : Bool} {l0 : List D} {fi fe : FE} (h0 : e[i]? = some (.own b0 (.list l0)))
    (a : Ev (fi e) fun r1 e1 => ∃ (n : Int) (b : Bool) (xs : List Int) (x : Int), (look e1 r1 = some (.int n) ∧ e1[i]? = some (.own b (eL eI xs))) ∧ atI xs n = some x ∧
      Ev (fe e1) fun r2 e2 => ∃ (y : Int) (b2 : Bool) (ys zs : List Int) (e' : En), (look e2 r2 = some (.int y) ∧ e2[i]? = some (.own b2 (eL eI ys))) ∧ setO ys n (op x y) = some zs ∧ e2.set i (.own b2 (eL eI zs)) = e' ∧ P5 (.next e')) : Ok (sAugIx op i fi fe e) P5 := by
  unfold sAugIx
  simp only [h0]
  refine okE_bind (ev_of a fun r1 e1 ⟨n, b, xs, x, ⟨h1, h2⟩, h3, z⟩ => ?_)
  simp only [h1, h2]
  have h4 : atI (xs.map eI) n = some (.int x) := by rw [atI_map, h3]; rfl
  simp only [eL, h4]
  refine okE_bind (ev_of z fun r2 e2 ⟨y, b2, ys, zs, e', ⟨g1, g2⟩, g3, g4, g5⟩ => ?_)
  simp only [eL] at g2 g4
  simp only [g1, g2]
  obtain ⟨j, h8, rfl⟩ := Option.map_eq_some_iff.mp g3
  refine ok_mapI (ok_rfl (by rw [List.length_map]; exact h8) ?_)
  subst g4
  rw [List.map_set] at g5
  exact g5
end
end DL

set_option Elab.async false
set_option linter.all false
set_option maxRecDepth 100000
set_option maxHeartbeats 4000000
namespace Wk35
open PySem PySem.Spec PyProof.Rows L2 DL
def top (i : Nat) : Stmt := PySem.Challenge.pw_rowspushed_k35_whole_all_words_as_lattic.main.body.getD i (.Pass ⟨0, 0, 0, 0⟩)
abbrev s_is_integer : Stmt := top 7
abbrev n_is_integer : List Str := ["thing"]
theorem sc_is_integer : FnScope n_is_integer ["thing"] (defScope s_is_integer) := ⟨rfl, rfl, rfl, by decide +kernel, rfl, by decide +kernel, by decide +kernel⟩
abbrev s_is_within : Stmt := top 8
abbrev n_is_within : List Str := ["thing", "low", "high"]
theorem sc_is_within : FnScope n_is_within ["thing", "low", "high"] (defScope s_is_within) := ⟨rfl, rfl, rfl, by decide +kernel, rfl, by decide +kernel, by decide +kernel⟩
abbrev s_need_number : Stmt := top 9
abbrev n_need_number : List Str := ["thing", "low", "high"]
theorem sc_need_number : FnScope n_need_number ["thing", "low", "high"] (defScope s_need_number) := ⟨rfl, rfl, rfl, by decide +kernel, rfl, by decide +kernel, by decide +kernel⟩
abbrev s_are_letters : Stmt := top 10
abbrev n_are_letters : List Str := ["thing", "most", "letter"]
theorem sc_are_letters : FnScope n_are_letters ["thing", "most"] (defScope s_are_letters) := ⟨rfl, rfl, rfl, by decide +kernel, rfl, by decide +kernel, by decide +kernel⟩
abbrev s_is_word_form : Stmt := top 11
abbrev n_is_word_form : List Str := ["thing"]
theorem sc_is_word_form : FnScope n_is_word_form ["thing"] (defScope s_is_word_form) := ⟨rfl, rfl, rfl, by decide +kernel, rfl, by decide +kernel, by decide +kernel⟩
abbrev s_need_word : Stmt := top 12
abbrev n_need_word : List Str := ["word"]
theorem sc_need_word : FnScope n_need_word ["word"] (defScope s_need_word) := ⟨rfl, rfl, rfl, by decide +kernel, rfl, by decide +kernel, by decide +kernel⟩
abbrev s_place_above : Stmt := top 14
abbrev n_place_above : List Str := ["row", "letter", "greater", "at", "other"]
theorem sc_place_above : FnScope n_place_above ["row", "letter"] (defScope s_place_above) := ⟨rfl, rfl, rfl, by decide +kernel, rfl, by decide +kernel, by decide +kernel⟩
abbrev s_put_in_row : Stmt := top 15
abbrev n_put_in_row : List Str := ["rows", "at", "letter", "found", "doors", "row", "place", "out", "whole"]
theorem sc_put_in_row : FnScope n_put_in_row ["rows", "at", "letter"] (defScope s_put_in_row) := ⟨rfl, rfl, rfl, by decide +kernel, rfl, by decide +kernel, by decide +kernel⟩
abbrev s_pushed_rows : Stmt := top 16
abbrev n_pushed_rows : List Str := ["letters", "rows", "record", "every", "number", "letter", "doors", "last"]
theorem sc_pushed_rows : FnScope n_pushed_rows ["letters"] (defScope s_pushed_rows) := ⟨rfl, rfl, rfl, by decide +kernel, rfl, by decide +kernel, by decide +kernel⟩
abbrev s_tableau_in : Stmt := top 17
abbrev n_tableau_in : List Str := ["word"]
theorem sc_tableau_in : FnScope n_tableau_in ["word"] (defScope s_tableau_in) := ⟨rfl, rfl, rfl, by decide +kernel, rfl, by decide +kernel, by decide +kernel⟩
abbrev s_is_lattice : Stmt := top 19
abbrev n_is_lattice : List Str := ["word", "counts", "letter"]
theorem sc_is_lattice : FnScope n_is_lattice ["word"] (defScope s_is_lattice) := ⟨rfl, rfl, rfl, by decide +kernel, rfl, by decide +kernel, by decide +kernel⟩
abbrev s_left_places : Stmt := top 21
abbrev n_left_places : List Str := ["word", "i", "opened", "left", "place", "letter"]
theorem sc_left_places : FnScope n_left_places ["word", "i"] (defScope s_left_places) := ⟨rfl, rfl, rfl, by decide +kernel, rfl, by decide +kernel, by decide +kernel⟩
abbrev s_with_letter : Stmt := top 22
abbrev n_with_letter : List Str := ["word", "place", "letter"]
theorem sc_with_letter : FnScope n_with_letter ["word", "place", "letter"] (defScope s_with_letter) := ⟨rfl, rfl, rfl, by decide +kernel, rfl, by decide +kernel, by decide +kernel⟩
abbrev s_raised_word : Stmt := top 23
abbrev n_raised_word : List Str := ["word", "i", "left"]
theorem sc_raised_word : FnScope n_raised_word ["word", "i"] (defScope s_raised_word) := ⟨rfl, rfl, rfl, by decide +kernel, rfl, by decide +kernel, by decide +kernel⟩
abbrev s_first_raising : Stmt := top 25
abbrev n_first_raising : List Str := ["word", "found", "i"]
theorem sc_first_raising : FnScope n_first_raising ["word"] (defScope s_first_raising) := ⟨rfl, rfl, rfl, by decide +kernel, rfl, by decide +kernel, by decide +kernel⟩
abbrev s_raised_all : Stmt := top 24
abbrev n_raised_all : List Str := ["word", "steps", "i"]
theorem sc_raised_all : FnScope n_raised_all ["word"] (defScope s_raised_all) := ⟨rfl, rfl, rfl, by decide +kernel, rfl, by decide +kernel, by decide +kernel⟩
abbrev s_content_in : Stmt := top 27
abbrev n_content_in : List Str := ["word", "one", "letter"]
theorem sc_content_in : FnScope n_content_in ["word"] (defScope s_content_in) := ⟨rfl, rfl, rfl, by decide +kernel, rfl, by decide +kernel, by decide +kernel⟩
abbrev s_content_of : Stmt := top 28
abbrev n_content_of : List Str := ["word"]
theorem sc_content_of : FnScope n_content_of ["word"] (defScope s_content_of) := ⟨rfl, rfl, rfl, by decide +kernel, rfl, by decide +kernel, by decide +kernel⟩
abbrev s_need_raise : Stmt := top 30
abbrev n_need_raise : List Str := ["word", "i"]
theorem sc_need_raise : FnScope n_need_raise ["word", "i"] (defScope s_need_raise) := ⟨rfl, rfl, rfl, by decide +kernel, rfl, by decide +kernel, by decide +kernel⟩
abbrev s_raised : Stmt := top 31
abbrev n_raised : List Str := ["word", "i"]
theorem sc_raised : FnScope n_raised ["word", "i"] (defScope s_raised) := ⟨rfl, rfl, rfl, by decide +kernel, rfl, by decide +kernel, by decide +kernel⟩
abbrev s_room_up : Stmt := top 32
abbrev n_room_up : List Str := ["word", "i"]
theorem sc_room_up : FnScope n_room_up ["word", "i"] (defScope s_room_up) := ⟨rfl, rfl, rfl, by decide +kernel, rfl, by decide +kernel, by decide +kernel⟩
abbrev s_highest_of : Stmt := top 33
abbrev n_highest_of : List Str := ["word"]
theorem sc_highest_of : FnScope n_highest_of ["word"] (defScope s_highest_of) := ⟨rfl, rfl, rfl, by decide +kernel, rfl, by decide +kernel, by decide +kernel⟩
abbrev s_tableau_of : Stmt := top 35
abbrev n_tableau_of : List Str := ["word"]
theorem sc_tableau_of : FnScope n_tableau_of ["word"] (defScope s_tableau_of) := ⟨rfl, rfl, rfl, by decide +kernel, rfl, by decide +kernel, by decide +kernel⟩
abbrev s_x_law_feed : Stmt := top 37
abbrev n_x_law_feed : List Str := ["script", "k", "cell"]
theorem sc_x_law_feed : FnScope n_x_law_feed ["script", "k"] (defScope s_x_law_feed) := ⟨rfl, rfl, rfl, by decide +kernel, rfl, by decide +kernel, by decide +kernel⟩
abbrev s_x_law_draw : Stmt := top 38
abbrev n_x_law_draw : List Str := ["feed", "many", "got", "stir"]
theorem sc_x_law_draw : FnScope n_x_law_draw ["feed", "many"] (defScope s_x_law_draw) := ⟨rfl, rfl, rfl, by decide +kernel, rfl, by decide +kernel, by decide +kernel⟩
abbrev s_x_law_one : Stmt := top 39
abbrev n_x_law_one : List Str := ["feed", "things"]
theorem sc_x_law_one : FnScope n_x_law_one ["feed", "things"] (defScope s_x_law_one) := ⟨rfl, rfl, rfl, by decide +kernel, rfl, by decide +kernel, by decide +kernel⟩
abbrev s_x_law_same : Stmt := top 40
abbrev n_x_law_same : List Str := ["told", "due", "one", "other"]
theorem sc_x_law_same : FnScope n_x_law_same ["told", "due"] (defScope s_x_law_same) := ⟨rfl, rfl, rfl, by decide +kernel, rfl, by decide +kernel, by decide +kernel⟩
abbrev s_x_law_every : Stmt := top 41
abbrev n_x_law_every : List Str := ["letters", "most", "found", "here", "turn", "longer", "word", "letter"]
theorem sc_x_law_every : FnScope n_x_law_every ["letters", "most"] (defScope s_x_law_every) := ⟨rfl, rfl, rfl, by decide +kernel, rfl, by decide +kernel, by decide +kernel⟩
abbrev s_x_law_hooks : Stmt := top 42
abbrev n_x_law_hooks : List Str := ["shape", "found", "at", "length", "other", "place"]
theorem sc_x_law_hooks : FnScope n_x_law_hooks ["shape"] (defScope s_x_law_hooks) := ⟨rfl, rfl, rfl, by decide +kernel, rfl, by decide +kernel, by decide +kernel⟩
abbrev s_x_law_factorial : Stmt := top 43
abbrev n_x_law_factorial : List Str := ["number", "found", "factor"]
theorem sc_x_law_factorial : FnScope n_x_law_factorial ["number"] (defScope s_x_law_factorial) := ⟨rfl, rfl, rfl, by decide +kernel, rfl, by decide +kernel, by decide +kernel⟩
abbrev s_x_law_records : Stmt := top 44
abbrev n_x_law_records : List Str := ["shape", "under", "row", "hook"]
theorem sc_x_law_records : FnScope n_x_law_records ["shape"] (defScope s_x_law_records) := ⟨rfl, rfl, rfl, by decide +kernel, rfl, by decide +kernel, by decide +kernel⟩
abbrev s_x_law_is_lattice : Stmt := top 45
abbrev n_x_law_is_lattice : List Str := ["word", "counts", "letter"]
theorem sc_x_law_is_lattice : FnScope n_x_law_is_lattice ["word"] (defScope s_x_law_is_lattice) := ⟨rfl, rfl, rfl, by decide +kernel, rfl, by decide +kernel, by decide +kernel⟩
abbrev s_x_law_drawn : Stmt := top 46
abbrev n_x_law_drawn : List Str := ["feed", "many", "counts", "word", "turn", "some", "at"]
theorem sc_x_law_drawn : FnScope n_x_law_drawn ["feed", "many"] (defScope s_x_law_drawn) := ⟨rfl, rfl, rfl, by decide +kernel, rfl, by decide +kernel, by decide +kernel⟩
abbrev s_x_law_long_right : Stmt := top 47
abbrev n_x_law_long_right : List Str := ["feed", "word", "at", "bent"]
theorem sc_x_law_long_right : FnScope n_x_law_long_right ["feed"] (defScope s_x_law_long_right) := ⟨rfl, rfl, rfl, by decide +kernel, rfl, by decide +kernel, by decide +kernel⟩
abbrev s_law : Stmt := top 48
abbrev n_law : List Str := ["script", "feed", "letters", "most", "counts", "word", "due", "content", "back", "rows", "at", "many", "i", "shape"]
theorem sc_law : FnScope n_law ["script"] (defScope s_law) := ⟨rfl, rfl, rfl, by decide +kernel, rfl, by decide +kernel, by decide +kernel⟩
/-! ### mirrors -/
def f_is_integer : FS := (sRet (toV (fAnd (toE (fIsi [.int] (fVar 0))) (toE (fNot (toE (fIsi [.bool] (fVar 0))))))))
def m_is_integer : Fn := mkFn 1 f_is_integer
def f_is_within : FS := (sRet (toV (fAnd (toE (fCall m_is_integer (fCons (fVar 0) fNil))) (toE (fChain pLe pLe (fVar 1) (fVar 0) (fVar 2))))))
def m_is_within : Fn := mkFn 3 f_is_within
def f_need_number : FS := (sIf (gNot (fTruth (toE (fCall m_is_within (fCons (fVar 0) (fCons (fVar 1) (fCons (fVar 2) fNil))))))) sNo sNext)
def m_need_number : Fn := mkFn 3 f_need_number
def f_are_letters : FS := (sSeq (sIf (gOr (gNot (fTruth (toE (fIsi [.tuple] (fVar 0))))) (fTestV (fBin pGt (toE (fBlt (one sLen) (fCons (fVar 0) fNil))) (fVar 1)))) (sRet (toV (fCst (.bool false)))) sNext) (sRet (fBlt (one sAll) (fCons (toE (fComp [2] (iSq (fVar 0)) (gNm 2) gYes (toE (fCall m_is_within (fCons (fVar 2) (fCons (fCst (.int 1)) (fCons (fCst (.int 9)) fNil))))))) fNil))))
def m_are_letters : Fn := mkFn 3 f_are_letters
def f_is_word_form : FS := (sRet (fCall m_are_letters (fCons (fVar 0) (fCons (fCst (.int 30)) fNil))))
def m_is_word_form : Fn := mkFn 1 f_is_word_form
def f_need_word : FS := (sIf (gNot (fTruth (toE (fCall m_is_word_form (fCons (fVar 0) fNil))))) sNo sNext)
def m_need_word : Fn := mkFn 1 f_need_word
def f_place_above : FS := (sSeq (sFz 2 (sSet 2 (fComp [3, 4] (iEn (fVar 0)) (gTp (hCons (gNm 3) (hCons (gNm 4) hNil))) (fTestV (fBin pGt (fVar 4) (fVar 1))) (fVar 3)))) (sRet (toV (fIf (fTestV (fBin sNe (fVar 2) (toE (fLst fNil)))) (toE (fBin sIx (fVar 2) (fCst (.int 0)))) (toE (fBlt (one sLen) (fCons (fVar 0) fNil)))))))
def m_place_above : Fn := mkFn 5 f_place_above
def f_put_in_row : FS := (sSeq (sFz 3 (sPar 3 4 (fBlt (one sList) (fCons (fVar 0) fNil)) (fLst fNil))) (sSeq (sWhile (fTestV (fBin (sIsN true) (fVar 2) (fCst .none))) (sSeq (sSet 5 (toV (fIf (fTestV (fBin pLt (fVar 1) (toE (fBlt (one sLen) (fCons (fVar 3) fNil))))) (toE (fBin sIx (fVar 3) (fVar 1))) (toE (fTup fNil))))) (sSeq (sSet 6 (fCall m_place_above (fCons (fVar 5) (fCons (fVar 2) fNil)))) (sSeq (sSet 7 (toV (fIf (fTestV (fBin pLt (fVar 6) (toE (fBlt (one sLen) (fCons (fVar 5) fNil))))) (toE (fBin sIx (fVar 5) (fVar 6))) (fCst .none)))) (sSeq (sSet 8 (fBin vAdd (toE (fBin vAdd (toE (fCut (fVar 5) fNo (fAt (fVar 6)))) (toE (fTup (fCons (fVar 2) fNil))))) (toE (fCut (fVar 5) (fAt (toE (fBin vAdd (fVar 6) (fCst (.int 1))))) fNo)))) (sSeq (sFz 3 (sSet 3 (fBin vAdd (toE (fBin vAdd (toE (fCut (fVar 3) fNo (fAt (fVar 1)))) (toE (fLst (fCons (fVar 8) fNil))))) (toE (fCut (fVar 3) (fAt (toE (fBin vAdd (fVar 1) (fCst (.int 1))))) fNo))))) (sSeq (sExpr (fAppend 4 (toE (fTup (fCons (fVar 1) (fCons (fVar 7) fNil)))))) (sPar 2 1 (toV (fVar 7)) (fBin vAdd (fVar 1) (fCst (.int 1)))))))))) 4000) (sRet (fTup (fCons (toE (fBlt (one sTuple) (fCons (fVar 3) fNil))) (fCons (fVar 4) fNil))))))
def m_put_in_row : Fn := mkFn 9 f_put_in_row
def f_pushed_rows : FS := (sSeq (sPar3 1 2 3 (fTup fNil) (fLst fNil) (fLst fNil)) (sSeq (sFor (iEn (fVar 0)) (gTp (hCons (gNm 4) (hCons (gNm 5) hNil))) (sSeq (sAsg (gTp (hCons (gNm 1) (hCons (gNm 6) hNil))) (fCall m_put_in_row (fCons (fVar 1) (fCons (fCst (.int 0)) (fCons (fVar 5) fNil))))) (sSeq (sSet 7 (fBin sIx (toE (fBin sIx (fVar 6) (toE (fNeg (fCst (.int 1)))))) (fCst (.int 0)))) (sSeq (sIf (fTestV (fBin sEq (fVar 7) (toE (fBlt (one sLen) (fCons (fVar 2) fNil))))) (sExpr (fAppend 2 (toE (fTup fNil)))) sNext) (sSeq (sSetIx 2 (fVar 7) (fBin vAdd (toE (fBin sIx (fVar 2) (fVar 7))) (toE (fTup (fCons (toE (fBin vAdd (fVar 4) (fCst (.int 1)))) fNil))))) (sExpr (fAppend 3 (fVar 6)))))))) (sRet (fTup (fCons (fVar 1) (fCons (toE (fBlt (one sTuple) (fCons (fVar 2) fNil))) (fCons (fVar 3) fNil)))))))
def m_pushed_rows : Fn := mkFn 8 f_pushed_rows
def f_tableau_in : FS := (sRet (fBin sIx (toE (fCall m_pushed_rows (fCons (fVar 0) fNil))) (fCst (.int 0))))
def m_tableau_in : Fn := mkFn 1 f_tableau_in
def f_is_lattice : FS := (sSeq (sExpr (fCall m_need_word (fCons (fVar 0) fNil))) (sSeq (sSet 1 (fBin vMul (toE (fLst (fCons (fCst (.int 0)) fNil))) (toE (fBin vAdd (fCst (.int 9)) (fCst (.int 1)))))) (sSeq (sFor (iSq (fVar 0)) (gNm 2) (sSeq (sAugIx (fun a b => a + b) 1 (fVar 2) (fCst (.int 1))) (sIf (gAnd (fTestV (fBin pGt (fVar 2) (fCst (.int 1)))) (fTestV (fBin pGt (toE (fBin sIx (fVar 1) (fVar 2))) (toE (fBin sIx (fVar 1) (toE (fBin pSub (fVar 2) (fCst (.int 1))))))))) (sRet (toV (fCst (.bool false)))) sNext))) (sRet (toV (fCst (.bool true)))))))
def m_is_lattice : Fn := mkFn 3 f_is_lattice
def f_left_places : FS := (sSeq (sPar 2 3 (fLst fNil) (fLst fNil)) (sSeq (sFor (iEn (fVar 0)) (gTp (hCons (gNm 4) (hCons (gNm 5) hNil))) (sIf (fTestV (fBin sEq (fVar 5) (toE (fBin vAdd (fVar 1) (fCst (.int 1)))))) (sExpr (fAppend 2 (fVar 4))) (sIf (gAnd (fTestV (fBin sEq (fVar 5) (fVar 1))) (fTestV (fBin sNe (fVar 2) (toE (fLst fNil))))) (sExpr (fPop 2)) (sIf (fTestV (fBin sEq (fVar 5) (fVar 1))) (sExpr (fAppend 3 (fVar 4))) sNext)))) (sRet (fTup (fCons (fVar 3) (fCons (fVar 2) fNil))))))
def m_left_places : Fn := mkFn 6 f_left_places
def f_with_letter : FS := (sRet (fBin vAdd (toE (fBin vAdd (toE (fCut (fVar 0) fNo (fAt (fVar 1)))) (toE (fTup (fCons (fVar 2) fNil))))) (toE (fCut (fVar 0) (fAt (toE (fBin vAdd (fVar 1) (fCst (.int 1))))) fNo))))
def m_with_letter : Fn := mkFn 3 f_with_letter
def f_raised_word : FS := (sSeq (sFz 2 (sSet 2 (fBin sIx (toE (fCall m_left_places (fCons (fVar 0) (fCons (fVar 1) fNil)))) (fCst (.int 1))))) (sRet (toV (fIf (fTestV (fBin sNe (fVar 2) (toE (fLst fNil)))) (toE (fCall m_with_letter (fCons (fVar 0) (fCons (toE (fBin sIx (fVar 2) (fCst (.int 0)))) (fCons (fVar 1) fNil))))) (fCst .none)))))
def m_raised_word : Fn := mkFn 3 f_raised_word
def f_first_raising : FS := (sSeq (sFz 1 (sSet 1 (fComp [2] (iR2 (fCons (fCst (.int 1)) (fCons (fCst (.int 9)) fNil))) (gNm 2) (fTestV (fBin sNe (toE (fBin sIx (toE (fCall m_left_places (fCons (fVar 0) (fCons (fVar 2) fNil)))) (fCst (.int 1)))) (toE (fLst fNil)))) (fVar 2)))) (sRet (toV (fIf (fTestV (fBin sNe (fVar 1) (toE (fLst fNil)))) (toE (fBin sIx (fVar 1) (fCst (.int 0)))) (fCst .none)))))
def m_first_raising : Fn := mkFn 3 f_first_raising
def f_raised_all : FS := (sSeq (sSet 1 (fLst fNil)) (sSeq (sSet 2 (fCall m_first_raising (fCons (fVar 0) fNil))) (sSeq (sWhile (fTestV (fBin (sIsN true) (fVar 2) (fCst .none))) (sSeq (sSet 0 (fCall m_raised_word (fCons (fVar 0) (fCons (fVar 2) fNil)))) (sSeq (sExpr (fAppend 1 (fVar 2))) (sSet 2 (fCall m_first_raising (fCons (fVar 0) fNil))))) 4000) (sRet (fTup (fCons (fVar 0) (fCons (toE (fBlt (one sTuple) (fCons (fVar 1) fNil))) fNil)))))))
def m_raised_all : Fn := mkFn 3 f_raised_all
def f_content_in : FS := (sRet (fBlt (one sTuple) (fCons (toE (fComp [2] (iR2 (fCons (fCst (.int 1)) (fCons (toE (fBin vAdd (fCst (.int 9)) (fCst (.int 1)))) fNil))) (gNm 2) gYes (toE (fBlt (one sLen) (fCons (toE (fComp [1] (iSq (fVar 0)) (gNm 1) (fTestV (fBin sEq (fVar 1) (fVar 2))) (fVar 1))) fNil))))) fNil)))
def m_content_in : Fn := mkFn 3 f_content_in
def f_content_of : FS := (sSeq (sExpr (fCall m_need_word (fCons (fVar 0) fNil))) (sRet (fCall m_content_in (fCons (fVar 0) fNil))))
def m_content_of : Fn := mkFn 1 f_content_of
def f_need_raise : FS := (sSeq (sExpr (fCall m_need_word (fCons (fVar 0) fNil))) (sExpr (fCall m_need_number (fCons (fVar 1) (fCons (fCst (.int 1)) (fCons (toE (fBin pSub (fCst (.int 9)) (fCst (.int 1)))) fNil))))))
def m_need_raise : Fn := mkFn 2 f_need_raise
def f_raised : FS := (sSeq (sExpr (fCall m_need_raise (fCons (fVar 0) (fCons (fVar 1) fNil)))) (sRet (fCall m_raised_word (fCons (fVar 0) (fCons (fVar 1) fNil)))))
def m_raised : Fn := mkFn 2 f_raised
def f_room_up : FS := (sSeq (sExpr (fCall m_need_raise (fCons (fVar 0) (fCons (fVar 1) fNil)))) (sRet (fBlt (one sLen) (fCons (toE (fBin sIx (toE (fCall m_left_places (fCons (fVar 0) (fCons (fVar 1) fNil)))) (fCst (.int 1)))) fNil))))
def m_room_up : Fn := mkFn 2 f_room_up
def f_highest_of : FS := (sSeq (sExpr (fCall m_need_word (fCons (fVar 0) fNil))) (sRet (fCall m_raised_all (fCons (fVar 0) fNil))))
def m_highest_of : Fn := mkFn 1 f_highest_of
def f_tableau_of : FS := (sSeq (sExpr (fCall m_need_word (fCons (fVar 0) fNil))) (sRet (fCall m_tableau_in (fCons (fVar 0) fNil))))
def m_tableau_of : Fn := mkFn 1 f_tableau_of
def f_x_law_feed : FS := (sSeq (sSet 2 (fBin vAdd (toE (fBin vMul (fCst (.int 6813)) (fVar 1))) (toE (fBin vMul (fCst (.int 163)) (toE (fBlt (one sSum) (fCons (toE (fCut (fVar 0) fNo (fAt (fCst (.int 3))))) fNil))))))) (sSeq (sIf (fTestV (fBin pLt (fVar 1) (toE (fBlt (one sLen) (fCons (fVar 0) fNil))))) (sSet 2 (fBin sIx (fVar 0) (fVar 1))) sNext) (sRet (fLst (fCons (toE (fBlt (sMax2) (fCons (fCst (.int 0)) (fCons (toE (fBin pSub (fVar 2) (toE (fBin pPow (fCst (.int 10)) (fCst (.int 18)))))) fNil)))) (fCons (toE (fBin pMod (toE (fBlt (one sInt) (fCons (toE (fBin vAdd (toE (fBin vAdd (toE (fBin vMul (fVar 2) (fCst (.int 619)))) (toE (fBin vMul (fCst (.int 129)) (fVar 1))))) (fCst (.int 351)))) fNil))) (toE (fBin vAdd (toE (fBin pPow (fCst (.int 10)) (fCst (.int 40)))) (fCst (.int 121)))))) (fCons (fCst (.int 0)) fNil)))))))
def m_x_law_feed : Fn := mkFn 3 f_x_law_feed
def f_x_law_draw : FS := (sSeq (sIf (fTestV (fBin pGt (toE (fBin sIx (fVar 0) (fCst (.int 0)))) (fCst (.int 0)))) (sSeq (sSet 2 (fBin pMod (toE (fBlt (one sInt) (fCons (toE (fBin sIx (fVar 0) (fCst (.int 0)))) fNil))) (fVar 1))) (sSeq (sSetIx 0 (fCst (.int 0)) (fBin pDiv (toE (fBin sIx (fVar 0) (fCst (.int 0)))) (fVar 1))) (sRet (toV (fVar 2))))) sNext) (sSeq (sSetIx 0 (fCst (.int 2)) (fBin vAdd (toE (fBin sIx (fVar 0) (fCst (.int 2)))) (fCst (.int 1)))) (sSeq (sSet 3 (fBin vAdd (toE (fBin sIx (fVar 0) (fCst (.int 1)))) (toE (fBin vMul (fCst (.int 73055641)) (toE (fBin sIx (fVar 0) (fCst (.int 2)))))))) (sSeq (sSet 3 (fBin pMod (toE (fBlt (one sInt) (fCons (toE (fBin vAdd (toE (fBin vAdd (toE (fBin vMul (toE (fBin vMul (fVar 3) (fVar 3))) (fVar 3))) (toE (fBin vMul (fCst (.int 61985369)) (toE (fBin sIx (fVar 0) (fCst (.int 2)))))))) (fCst (.int 7)))) fNil))) (toE (fBin vAdd (toE (fBin pPow (fCst (.int 10)) (fCst (.int 41)))) (fCst (.int 81)))))) (sSeq (sSet 3 (fBin pMod (toE (fBlt (one sInt) (fCons (toE (fBin vAdd (toE (fBin vMul (fVar 3) (fVar 3))) (fCst (.int 882457261)))) fNil))) (toE (fBin vAdd (toE (fBin pPow (fCst (.int 10)) (fCst (.int 38)))) (fCst (.int 133)))))) (sRet (fBin pMod (toE (fBlt (one sInt) (fCons (toE (fBin pDiv (fVar 3) (toE (fBin pPow (fCst (.int 10)) (fCst (.int 9)))))) fNil))) (fVar 1))))))))
def m_x_law_draw : Fn := mkFn 4 f_x_law_draw
def f_x_law_one : FS := (sRet (fBin sIx (fVar 1) (toE (fCall m_x_law_draw (fCons (fVar 0) (fCons (toE (fBlt (one sLen) (fCons (fVar 1) fNil))) fNil))))))
def m_x_law_one : Fn := mkFn 2 f_x_law_one
def b_x_law_same_ (r : Fn) : FS := (sSeq (sIf (fTestV (fBin (sIsN false) (fVar 1) (fCst .none))) (sRet (fBin (sIsN false) (fVar 0) (fCst .none))) sNext) (sSeq (sIf (fTruth (toE (fIsi [.bool] (fVar 1)))) (sRet (toV (fAnd (toE (fIsi [.bool] (fVar 0))) (toE (fBin sEq (fVar 0) (fVar 1)))))) sNext) (sSeq (sIf (fTruth (toE (fIsi [.int] (fVar 1)))) (sRet (toV (fAnd (toE (fIsi [.int] (fVar 0))) (fAnd (toE (fNot (toE (fIsi [.bool] (fVar 0))))) (toE (fBin sEq (fVar 0) (fVar 1))))))) sNext) (sSeq (sIf (fTruth (toE (fIsi [.str] (fVar 1)))) (sRet (toV (fAnd (toE (fIsi [.str] (fVar 0))) (toE (fBin sEq (fVar 0) (fVar 1)))))) sNext) (sSeq (sIf (gOr (fTestV (fBin sNe (toE (fIsi [.list] (fVar 1))) (toE (fIsi [.list] (fVar 0))))) (gOr (gNot (fTruth (toE (fIsi [.list, .tuple] (fVar 0))))) (fTestV (fBin sNe (toE (fBlt (one sLen) (fCons (fVar 0) fNil))) (toE (fBlt (one sLen) (fCons (fVar 1) fNil))))))) (sRet (toV (fCst (.bool false)))) sNext) (sRet (fBin sEq (toE (fComp [2, 3] (iZp (fCons (fVar 0) (fCons (fVar 1) fNil))) (gTp (hCons (gNm 2) (hCons (gNm 3) hNil))) (gNot (fTruth (toE (fCall r (fCons (fVar 2) (fCons (fVar 3) fNil)))))) (fCst (.int 1)))) (toE (fLst fNil)))))))))
def m_x_law_same : Nat → Fn
  | 0 => fun _ => none
  | n + 1 => mkFn 4 (b_x_law_same_ (m_x_law_same n))
def f_x_law_every : FS := (sSeq (sFz 2 (sFz 3 (sPar 2 3 (fLst (fCons (toE (fTup fNil)) fNil)) (fLst (fCons (toE (fTup fNil)) fNil))))) (sSeq (sFor (iR1 (fCons (fVar 1) fNil)) (gNm 4) (sSeq (sSet 5 (fLst fNil)) (sSeq (sFor (iSq (fVar 3)) (gNm 6) (sExpr (fExtend 5 (fComp [7] (iSq (fVar 0)) (gNm 7) gYes (toE (fBin vAdd (fVar 6) (toE (fTup (fCons (fVar 7) fNil))))))))) (sSeq (sSet 3 (toV (fVar 5))) (sFz 2 (sSet 2 (fBin vAdd (fVar 2) (fVar 3)))))))) (sRet (toV (fVar 2)))))
def m_x_law_every : Fn := mkFn 8 f_x_law_every
def f_x_law_hooks : FS := (sSeq (sSet 1 (fLst fNil)) (sSeq (sFor (iEn (fVar 0)) (gTp (hCons (gNm 2) (hCons (gNm 3) hNil))) (sExpr (fAppend 1 (toE (fBlt (one sTuple) (fCons (toE (fComp [5] (iR1 (fCons (fVar 3) fNil)) (gNm 5) gYes (toE (fBin vAdd (toE (fBin pSub (fVar 3) (fVar 5))) (toE (fBlt (one sLen) (fCons (toE (fComp [4] (iSq (toE (fCut (fVar 0) (fAt (toE (fBin vAdd (fVar 2) (fCst (.int 1))))) fNo))) (gNm 4) (fTestV (fBin pGt (fVar 4) (fVar 5))) (fCst (.int 1)))) fNil))))))) fNil)))))) (sRet (fBlt (one sTuple) (fCons (fVar 1) fNil)))))
def m_x_law_hooks : Fn := mkFn 6 f_x_law_hooks
def f_x_law_factorial : FS := (sSeq (sSet 1 (toV (fCst (.int 1)))) (sSeq (sFor (iR2 (fCons (fCst (.int 2)) (fCons (toE (fBin vAdd (fVar 0) (fCst (.int 1)))) fNil))) (gNm 2) (sSet 1 (fBin vMul (fVar 1) (fVar 2)))) (sRet (toV (fVar 1)))))
def m_x_law_factorial : Fn := mkFn 3 f_x_law_factorial
def f_x_law_records : FS := (sSeq (sSet 1 (toV (fCst (.int 1)))) (sSeq (sFor (iSq (toE (fCall m_x_law_hooks (fCons (fVar 0) fNil)))) (gNm 2) (sFor (iSq (fVar 2)) (gNm 3) (sSet 1 (fBin vMul (fVar 1) (fVar 3))))) (sRet (fBlt (one sInt) (fCons (toE (fBin pDiv (toE (fCall m_x_law_factorial (fCons (toE (fBlt (one sSum) (fCons (fVar 0) fNil))) fNil))) (fVar 1))) fNil)))))
def m_x_law_records : Fn := mkFn 4 f_x_law_records
def f_x_law_is_lattice : FS := (sSeq (sSet 1 (fBin vMul (toE (fLst (fCons (fCst (.int 0)) fNil))) (fCst (.int 10)))) (sSeq (sFor (iSq (fVar 0)) (gNm 2) (sSeq (sSetIx 1 (fVar 2) (fBin vAdd (toE (fBin sIx (fVar 1) (fVar 2))) (fCst (.int 1)))) (sIf (gAnd (fTestV (fBin pGt (fVar 2) (fCst (.int 1)))) (fTestV (fBin pGt (toE (fBin sIx (fVar 1) (fVar 2))) (toE (fBin sIx (fVar 1) (toE (fBin pSub (fVar 2) (fCst (.int 1))))))))) (sRet (toV (fCst (.bool false)))) sNext))) (sRet (toV (fCst (.bool true))))))
def m_x_law_is_lattice : Fn := mkFn 3 f_x_law_is_lattice
def f_x_law_drawn : FS := (sSeq (sPar 2 3 (fBin vMul (toE (fLst (fCons (fCst (.int 0)) fNil))) (fCst (.int 9))) (fLst fNil)) (sSeq (sFor (iR1 (fCons (fVar 1) fNil)) (gNm 4) (sSeq (sFz 5 (sSet 5 (fComp [6] (iR1 (fCons (fCst (.int 9)) fNil)) (gNm 6) (gOr (fTestV (fBin sEq (fVar 6) (fCst (.int 0)))) (fTestV (fBin pLt (toE (fBin sIx (fVar 2) (fVar 6))) (toE (fBin sIx (fVar 2) (toE (fBin pSub (fVar 6) (fCst (.int 1))))))))) (fVar 6)))) (sSeq (sSet 6 (fCall m_x_law_one (fCons (fVar 0) (fCons (toE (fBin vAdd (fVar 5) (toE (fBin vMul (toE (fCut (fVar 5) (fAt (toE (fNeg (fCst (.int 1))))) fNo)) (fCst (.int 2)))))) fNil)))) (sSeq (sSetIx 2 (fVar 6) (fBin vAdd (toE (fBin sIx (fVar 2) (fVar 6))) (fCst (.int 1)))) (sExpr (fAppend 3 (toE (fBin vAdd (fVar 6) (fCst (.int 1)))))))))) (sRet (fBlt (one sTuple) (fCons (fVar 3) fNil)))))
def m_x_law_drawn : Fn := mkFn 7 f_x_law_drawn
def f_x_law_long_right : FS := (sSeq (sSet 1 (fCall m_x_law_drawn (fCons (fVar 0) (fCons (toE (fCall m_x_law_one (fCons (fVar 0) (fCons (toE (fLst (fCons (fCst (.int 9)) (fCons (fCst (.int 20)) (fCons (fCst (.int 30)) fNil))))) fNil)))) fNil)))) (sSeq (sIf (gOr (fTestV (fBin (sIsB true) (toE (fCall m_is_lattice (fCons (fVar 1) fNil))) (fCst (.bool true)))) (fTestV (fBin (sIsN true) (toE (fCall m_raised (fCons (toE (fUn sRev (fVar 1))) (fCons (toE (fBin vAdd (fCst (.int 1)) (toE (fCall m_x_law_draw (fCons (fVar 0) (fCons (fCst (.int 8)) fNil)))))) fNil)))) (fCst .none)))) (sRet (toV (fCst (.bool false)))) sNext) (sSeq (sFor (iSq (toE (fTup (fCons (fCst (.int 0)) (fCons (toE (fBin pSub (toE (fBlt (one sLen) (fCons (fVar 1) fNil))) (fCst (.int 1)))) (fCons (toE (fCall m_x_law_draw (fCons (fVar 0) (fCons (toE (fBlt (one sLen) (fCons (fVar 1) fNil))) fNil)))) (fCons (toE (fCall m_x_law_draw (fCons (fVar 0) (fCons (toE (fBlt (one sLen) (fCons (fVar 1) fNil))) fNil)))) fNil))))))) (gNm 2) (sSeq (sSet 3 (fBin vAdd (toE (fBin vAdd (toE (fCut (fVar 1) fNo (fAt (fVar 2)))) (toE (fTup (fCons (toE (fBin vAdd (fCst (.int 1)) (toE (fCall m_x_law_draw (fCons (fVar 0) (fCons (fCst (.int 9)) fNil)))))) fNil))))) (toE (fCut (fVar 1) (fAt (toE (fBin vAdd (fVar 2) (fCst (.int 1))))) fNo)))) (sSeq (sIf (gNot (fTruth (toE (fCall (m_x_law_same 8) (fCons (toE (fLst (fCons (toE (fCall m_is_lattice (fCons (fVar 3) fNil))) (fCons (toE (fCall m_is_lattice (fCons (fVar 3) fNil))) fNil)))) (fCons (toE (fBin vMul (toE (fLst (fCons (toE (fCall m_x_law_is_lattice (fCons (fVar 3) fNil))) fNil))) (fCst (.int 2)))) fNil)))))) (sRet (toV (fCst (.bool false)))) sNext) (sIf (fTestV (fBin sNe (toE (fBin sEq (toE (fBin sIx (toE (fCall m_highest_of (fCons (toE (fUn sRev (fVar 3))) fNil))) (fCst (.int 1)))) (toE (fTup fNil)))) (toE (fCall m_x_law_is_lattice (fCons (fVar 3) fNil))))) (sRet (toV (fCst (.bool false)))) sNext)))) (sRet (toV (fAnd (toE (fBin (sIsB false) (toE (fCall m_is_lattice (fCons (toE (fTupR (iR2 (fCons (fCst (.int 1)) (fCons (fCst (.int 10)) fNil))))) fNil))) (fCst (.bool true)))) (toE (fBin (sIsB false) (toE (fCall m_is_lattice (fCons (toE (fBin vAdd (toE (fTup (fCons (fCst (.int 2)) fNil))) (toE (fCut (fVar 1) fNo (fAt (fCst (.int 20))))))) fNil))) (fCst (.bool false))))))))))
def m_x_law_long_right : Fn := mkFn 4 f_x_law_long_right
def f_law : FS := (sSeq (sSet 1 (fCall m_x_law_feed (fCons (fVar 0) (fCons (fCst (.int 0)) fNil)))) (sSeq (sAsg (gTp (hCons (gNm 2) (hCons (gNm 3) hNil))) (fCall m_x_law_one (fCons (fVar 1) (fCons (toE (fLst (fCons (toE (fTup (fCons (toE (fLst (fCons (fCst (.int 1)) (fCons (fCst (.int 2)) (fCons (fCst (.int 3)) fNil))))) (fCons (fCst (.int 6)) fNil)))) (fCons (toE (fTup (fCons (toE (fLst (fCons (fCst (.int 1)) (fCons (fCst (.int 2)) (fCons (fCst (.int 3)) (fCons (fCst (.int 4)) fNil)))))) (fCons (fCst (.int 4)) fNil)))) (fCons (toE (fTup (fCons (toE (fLst (fCons (fCst (.int 1)) (fCons (fCst (.int 2)) fNil)))) (fCons (fCst (.int 8)) fNil)))) (fCons (toE (fTup (fCons (toE (fLst (fCons (fCst (.int 2)) (fCons (fCst (.int 3)) fNil)))) (fCons (fCst (.int 5)) fNil)))) (fCons (toE (fTup (fCons (toE (fLst (fCons (fCst (.int 1)) (fCons (fCst (.int 3)) fNil)))) (fCons (fCst (.int 5)) fNil)))) fNil))))))) fNil)))) (sSeq (sSet 4 fNewT) (sSeq (sFor (iSq (toE (fCall m_x_law_every (fCons (fVar 2) (fCons (fVar 3) fNil))))) (gNm 5) (sSeq (sSet 6 (fCall m_x_law_is_lattice (fCons (fVar 5) fNil))) (sSeq (sIf (gNot (fTruth (toE (fCall (m_x_law_same 8) (fCons (toE (fCall m_is_lattice (fCons (fVar 5) fNil))) (fCons (fVar 6) fNil)))))) (sRet (toV (fCst (.bool false)))) sNext) (sIf (fTruth (fVar 6)) (sSeq (sSet 7 (fCall m_content_of (fCons (fVar 5) fNil))) (sSeq (sPutT 4 (fVar 7) (fBin vAdd (toE (fGetT2 4 (fVar 7) (fCst (.int 0)))) (fCst (.int 1)))) (sSeq (sSet 8 (fUn sRev (fVar 5))) (sSeq (sSet 9 (fBlt (one sTuple) (fCons (toE (fComp [10, 11] (iEn (fVar 7)) (gTp (hCons (gNm 10) (hCons (gNm 11) hNil))) (fTestV (fBin pGt (fVar 11) (fCst (.int 0)))) (toE (fBin vMulT (toE (fTup (fCons (toE (fBin vAdd (fVar 10) (fCst (.int 1)))) fNil))) (fVar 11))))) fNil))) (sIf (gNot (fTruth (toE (fCall (m_x_law_same 8) (fCons (toE (fLst (fCons (toE (fCall m_highest_of (fCons (fVar 8) fNil))) (fCons (toE (fComp [12] (iR2 (fCons (fCst (.int 1)) (fCons (fCst (.int 9)) fNil))) (gNm 12) gYes (toE (fCall m_room_up (fCons (fVar 8) (fCons (fVar 12) fNil)))))) (fCons (toE (fCall m_tableau_of (fCons (fVar 8) fNil))) fNil))))) (fCons (toE (fLst (fCons (toE (fTup (fCons (fVar 8) (fCons (toE (fTup fNil)) fNil)))) (fCons (toE (fBin vMul (toE (fLst (fCons (fCst (.int 0)) fNil))) (fCst (.int 8)))) (fCons (fVar 9) fNil))))) fNil)))))) (sRet (toV (fCst (.bool false)))) sNext))))) sNext)))) (sSeq (sLk 4 (sFor (fKeys 4) (gNm 7) (sSeq (sSet 13 (fBlt (one sTuple) (fCons (toE (fComp [11] (iSq (fVar 7)) (gNm 11) (fTestV (fBin pGt (fVar 11) (fCst (.int 0)))) (fVar 11))) fNil))) (sIf (gOr (fTestV (fBin sNe (toE (fBlt (one sList) (fCons (fVar 7) fNil))) (toE (fUn sRev (toE (fBlt (one sSortedT) (fCons (fVar 7) fNil))))))) (fTestV (fBin sNe (toE (fIxT2 4 (fVar 7))) (toE (fCall m_x_law_records (fCons (fVar 13) fNil)))))) (sRet (toV (fCst (.bool false)))) sNext)))) (sRet (fCall m_x_law_long_right (fCons (fVar 1) fNil))))))))
def m_law : Fn := mkFn 14 f_law
/-! ### what the top leaves -/
structure Tx (K : PySem.W.Frag) (mg : Str → Option Value) where
  a_is_integer : Addr
  fd_is_integer : FuncData
  F_is_integer : FunD K "is_integer" "is_integer" (defArgs s_is_integer) (defBody s_is_integer) (defScope s_is_integer) [] [] a_is_integer fd_is_integer
  g_is_integer : mg "is_integer" = some (.ref a_is_integer)
  a_is_within : Addr
  fd_is_within : FuncData
  F_is_within : FunD K "is_within" "is_within" (defArgs s_is_within) (defBody s_is_within) (defScope s_is_within) [] [] a_is_within fd_is_within
  g_is_within : mg "is_within" = some (.ref a_is_within)
  a_need_number : Addr
  fd_need_number : FuncData
  F_need_number : FunD K "need_number" "need_number" (defArgs s_need_number) (defBody s_need_number) (defScope s_need_number) [] [] a_need_number fd_need_number
  g_need_number : mg "need_number" = some (.ref a_need_number)
  a_are_letters : Addr
  fd_are_letters : FuncData
  F_are_letters : FunD K "are_letters" "are_letters" (defArgs s_are_letters) (defBody s_are_letters) (defScope s_are_letters) [] [] a_are_letters fd_are_letters
  g_are_letters : mg "are_letters" = some (.ref a_are_letters)
  a_is_word_form : Addr
  fd_is_word_form : FuncData
  F_is_word_form : FunD K "is_word_form" "is_word_form" (defArgs s_is_word_form) (defBody s_is_word_form) (defScope s_is_word_form) [] [] a_is_word_form fd_is_word_form
  g_is_word_form : mg "is_word_form" = some (.ref a_is_word_form)
  a_need_word : Addr
  fd_need_word : FuncData
  F_need_word : FunD K "need_word" "need_word" (defArgs s_need_word) (defBody s_need_word) (defScope s_need_word) [] [] a_need_word fd_need_word
  g_need_word : mg "need_word" = some (.ref a_need_word)
  a_place_above : Addr
  fd_place_above : FuncData
  F_place_above : FunD K "place_above" "place_above" (defArgs s_place_above) (defBody s_place_above) (defScope s_place_above) [] [] a_place_above fd_place_above
  g_place_above : mg "place_above" = some (.ref a_place_above)
  a_put_in_row : Addr
  fd_put_in_row : FuncData
  F_put_in_row : FunD K "put_in_row" "put_in_row" (defArgs s_put_in_row) (defBody s_put_in_row) (defScope s_put_in_row) [] [] a_put_in_row fd_put_in_row
  g_put_in_row : mg "put_in_row" = some (.ref a_put_in_row)
  a_pushed_rows : Addr
  fd_pushed_rows : FuncData
  F_pushed_rows : FunD K "pushed_rows" "pushed_rows" (defArgs s_pushed_rows) (defBody s_pushed_rows) (defScope s_pushed_rows) [] [] a_pushed_rows fd_pushed_rows
  g_pushed_rows : mg "pushed_rows" = some (.ref a_pushed_rows)
  a_tableau_in : Addr
  fd_tableau_in : FuncData
  F_tableau_in : FunD K "tableau_in" "tableau_in" (defArgs s_tableau_in) (defBody s_tableau_in) (defScope s_tableau_in) [] [] a_tableau_in fd_tableau_in
  g_tableau_in : mg "tableau_in" = some (.ref a_tableau_in)
  a_is_lattice : Addr
  fd_is_lattice : FuncData
  F_is_lattice : FunD K "is_lattice" "is_lattice" (defArgs s_is_lattice) (defBody s_is_lattice) (defScope s_is_lattice) [] [] a_is_lattice fd_is_lattice
  g_is_lattice : mg "is_lattice" = some (.ref a_is_lattice)
  a_left_places : Addr
  fd_left_places : FuncData
  F_left_places : FunD K "left_places" "left_places" (defArgs s_left_places) (defBody s_left_places) (defScope s_left_places) [] [] a_left_places fd_left_places
  g_left_places : mg "left_places" = some (.ref a_left_places)
  a_with_letter : Addr
  fd_with_letter : FuncData
  F_with_letter : FunD K "with_letter" "with_letter" (defArgs s_with_letter) (defBody s_with_letter) (defScope s_with_letter) [] [] a_with_letter fd_with_letter
  g_with_letter : mg "with_letter" = some (.ref a_with_letter)
  a_raised_word : Addr
  fd_raised_word : FuncData
  F_raised_word : FunD K "raised_word" "raised_word" (defArgs s_raised_word) (defBody s_raised_word) (defScope s_raised_word) [] [] a_raised_word fd_raised_word
  g_raised_word : mg "raised_word" = some (.ref a_raised_word)
  a_first_raising : Addr
  fd_first_raising : FuncData
  F_first_raising : FunD K "first_raising" "first_raising" (defArgs s_first_raising) (defBody s_first_raising) (defScope s_first_raising) [] [] a_first_raising fd_first_raising
  g_first_raising : mg "first_raising" = some (.ref a_first_raising)
  a_raised_all : Addr
  fd_raised_all : FuncData
  F_raised_all : FunD K "raised_all" "raised_all" (defArgs s_raised_all) (defBody s_raised_all) (defScope s_raised_all) [] [] a_raised_all fd_raised_all
  g_raised_all : mg "raised_all" = some (.ref a_raised_all)
  a_content_in : Addr
  fd_content_in : FuncData
  F_content_in : FunD K "content_in" "content_in" (defArgs s_content_in) (defBody s_content_in) (defScope s_content_in) [] [] a_content_in fd_content_in
  g_content_in : mg "content_in" = some (.ref a_content_in)
  a_content_of : Addr
  fd_content_of : FuncData
  F_content_of : FunD K "content_of" "content_of" (defArgs s_content_of) (defBody s_content_of) (defScope s_content_of) [] [] a_content_of fd_content_of
  g_content_of : mg "content_of" = some (.ref a_content_of)
  a_need_raise : Addr
  fd_need_raise : FuncData
  F_need_raise : FunD K "need_raise" "need_raise" (defArgs s_need_raise) (defBody s_need_raise) (defScope s_need_raise) [] [] a_need_raise fd_need_raise
  g_need_raise : mg "need_raise" = some (.ref a_need_raise)
  a_raised : Addr
  fd_raised : FuncData
  F_raised : FunD K "raised" "raised" (defArgs s_raised) (defBody s_raised) (defScope s_raised) [] [] a_raised fd_raised
  g_raised : mg "raised" = some (.ref a_raised)
  a_room_up : Addr
  fd_room_up : FuncData
  F_room_up : FunD K "room_up" "room_up" (defArgs s_room_up) (defBody s_room_up) (defScope s_room_up) [] [] a_room_up fd_room_up
  g_room_up : mg "room_up" = some (.ref a_room_up)
  a_highest_of : Addr
  fd_highest_of : FuncData
  F_highest_of : FunD K "highest_of" "highest_of" (defArgs s_highest_of) (defBody s_highest_of) (defScope s_highest_of) [] [] a_highest_of fd_highest_of
  g_highest_of : mg "highest_of" = some (.ref a_highest_of)
  a_tableau_of : Addr
  fd_tableau_of : FuncData
  F_tableau_of : FunD K "tableau_of" "tableau_of" (defArgs s_tableau_of) (defBody s_tableau_of) (defScope s_tableau_of) [] [] a_tableau_of fd_tableau_of
  g_tableau_of : mg "tableau_of" = some (.ref a_tableau_of)
  a_x_law_feed : Addr
  fd_x_law_feed : FuncData
  F_x_law_feed : FunD K "_law_feed" "_law_feed" (defArgs s_x_law_feed) (defBody s_x_law_feed) (defScope s_x_law_feed) [] [] a_x_law_feed fd_x_law_feed
  g_x_law_feed : mg "_law_feed" = some (.ref a_x_law_feed)
  a_x_law_draw : Addr
  fd_x_law_draw : FuncData
  F_x_law_draw : FunD K "_law_draw" "_law_draw" (defArgs s_x_law_draw) (defBody s_x_law_draw) (defScope s_x_law_draw) [] [] a_x_law_draw fd_x_law_draw
  g_x_law_draw : mg "_law_draw" = some (.ref a_x_law_draw)
  a_x_law_one : Addr
  fd_x_law_one : FuncData
  F_x_law_one : FunD K "_law_one" "_law_one" (defArgs s_x_law_one) (defBody s_x_law_one) (defScope s_x_law_one) [] [] a_x_law_one fd_x_law_one
  g_x_law_one : mg "_law_one" = some (.ref a_x_law_one)
  a_x_law_same : Addr
  fd_x_law_same : FuncData
  F_x_law_same : FunD K "_law_same" "_law_same" (defArgs s_x_law_same) (defBody s_x_law_same) (defScope s_x_law_same) [] [] a_x_law_same fd_x_law_same
  g_x_law_same : mg "_law_same" = some (.ref a_x_law_same)
  a_x_law_every : Addr
  fd_x_law_every : FuncData
  F_x_law_every : FunD K "_law_every" "_law_every" (defArgs s_x_law_every) (defBody s_x_law_every) (defScope s_x_law_every) [] [] a_x_law_every fd_x_law_every
  g_x_law_every : mg "_law_every" = some (.ref a_x_law_every)
  a_x_law_hooks : Addr
  fd_x_law_hooks : FuncData
  F_x_law_hooks : FunD K "_law_hooks" "_law_hooks" (defArgs s_x_law_hooks) (defBody s_x_law_hooks) (defScope s_x_law_hooks) [] [] a_x_law_hooks fd_x_law_hooks
  g_x_law_hooks : mg "_law_hooks" = some (.ref a_x_law_hooks)
  a_x_law_factorial : Addr
  fd_x_law_factorial : FuncData
  F_x_law_factorial : FunD K "_law_factorial" "_law_factorial" (defArgs s_x_law_factorial) (defBody s_x_law_factorial) (defScope s_x_law_factorial) [] [] a_x_law_factorial fd_x_law_factorial
  g_x_law_factorial : mg "_law_factorial" = some (.ref a_x_law_factorial)
  a_x_law_records : Addr
  fd_x_law_records : FuncData
  F_x_law_records : FunD K "_law_records" "_law_records" (defArgs s_x_law_records) (defBody s_x_law_records) (defScope s_x_law_records) [] [] a_x_law_records fd_x_law_records
  g_x_law_records : mg "_law_records" = some (.ref a_x_law_records)
  a_x_law_is_lattice : Addr
  fd_x_law_is_lattice : FuncData
  F_x_law_is_lattice : FunD K "_law_is_lattice" "_law_is_lattice" (defArgs s_x_law_is_lattice) (defBody s_x_law_is_lattice) (defScope s_x_law_is_lattice) [] [] a_x_law_is_lattice fd_x_law_is_lattice
  g_x_law_is_lattice : mg "_law_is_lattice" = some (.ref a_x_law_is_lattice)
  a_x_law_drawn : Addr
  fd_x_law_drawn : FuncData
  F_x_law_drawn : FunD K "_law_drawn" "_law_drawn" (defArgs s_x_law_drawn) (defBody s_x_law_drawn) (defScope s_x_law_drawn) [] [] a_x_law_drawn fd_x_law_drawn
  g_x_law_drawn : mg "_law_drawn" = some (.ref a_x_law_drawn)
  a_x_law_long_right : Addr
  fd_x_law_long_right : FuncData
  F_x_law_long_right : FunD K "_law_long_right" "_law_long_right" (defArgs s_x_law_long_right) (defBody s_x_law_long_right) (defScope s_x_law_long_right) [] [] a_x_law_long_right fd_x_law_long_right
  g_x_law_long_right : mg "_law_long_right" = some (.ref a_x_law_long_right)
  a_law : Addr
  fd_law : FuncData
  F_law : FunD K "law" "law" (defArgs s_law) (defBody s_law) (defScope s_law) [] [] a_law fd_law
  g_law : mg "law" = some (.ref a_law)
  t_MOST_LETTER : Tok
  c_MOST_LETTER : mg "MOST_LETTER" = some (.int 9 t_MOST_LETTER)
  t_MOST_SIZE : Tok
  c_MOST_SIZE : mg "MOST_SIZE" = some (.int 30 t_MOST_SIZE)
  n_all : mg "all" = none
  n_bool : mg "bool" = none
  n_enumerate : mg "enumerate" = none
  n_int : mg "int" = none
  n_isinstance : mg "isinstance" = none
  n_len : mg "len" = none
  n_list : mg "list" = none
  n_max : mg "max" = none
  n_range : mg "range" = none
  n_sorted : mg "sorted" = none
  n_str : mg "str" = none
  n_sum : mg "sum" = none
  n_tuple : mg "tuple" = none
  n_zip : mg "zip" = none
section
variable {P : Program} {w : World} {K : PySem.W.Frag} {mg : Str → Option Value} {base : Heap}
theorem b_is_integer (T : Tx K mg) : Binds K T.fd_is_integer ["thing"] [] := FunD.bindsN T.F_is_integer fun _ _ _ _ _ _ us hl => match us, hl with | [_], _ => rfl
theorem b_is_within (T : Tx K mg) : Binds K T.fd_is_within ["thing", "low", "high"] [] := FunD.bindsN T.F_is_within fun _ _ _ _ _ _ us hl => match us, hl with | [_, _, _], _ => rfl
theorem b_need_number (T : Tx K mg) : Binds K T.fd_need_number ["thing", "low", "high"] [] := FunD.bindsN T.F_need_number fun _ _ _ _ _ _ us hl => match us, hl with | [_, _, _], _ => rfl
theorem b_are_letters (T : Tx K mg) : Binds K T.fd_are_letters ["thing", "most"] [] := FunD.bindsN T.F_are_letters fun _ _ _ _ _ _ us hl => match us, hl with | [_, _], _ => rfl
theorem b_is_word_form (T : Tx K mg) : Binds K T.fd_is_word_form ["thing"] [] := FunD.bindsN T.F_is_word_form fun _ _ _ _ _ _ us hl => match us, hl with | [_], _ => rfl
theorem b_need_word (T : Tx K mg) : Binds K T.fd_need_word ["word"] [] := FunD.bindsN T.F_need_word fun _ _ _ _ _ _ us hl => match us, hl with | [_], _ => rfl
theorem b_place_above (T : Tx K mg) : Binds K T.fd_place_above ["row", "letter"] [] := FunD.bindsN T.F_place_above fun _ _ _ _ _ _ us hl => match us, hl with | [_, _], _ => rfl
theorem b_put_in_row (T : Tx K mg) : Binds K T.fd_put_in_row ["rows", "at", "letter"] [] := FunD.bindsN T.F_put_in_row fun _ _ _ _ _ _ us hl => match us, hl with | [_, _, _], _ => rfl
theorem b_pushed_rows (T : Tx K mg) : Binds K T.fd_pushed_rows ["letters"] [] := FunD.bindsN T.F_pushed_rows fun _ _ _ _ _ _ us hl => match us, hl with | [_], _ => rfl
theorem b_tableau_in (T : Tx K mg) : Binds K T.fd_tableau_in ["word"] [] := FunD.bindsN T.F_tableau_in fun _ _ _ _ _ _ us hl => match us, hl with | [_], _ => rfl
theorem b_is_lattice (T : Tx K mg) : Binds K T.fd_is_lattice ["word"] [] := FunD.bindsN T.F_is_lattice fun _ _ _ _ _ _ us hl => match us, hl with | [_], _ => rfl
theorem b_left_places (T : Tx K mg) : Binds K T.fd_left_places ["word", "i"] [] := FunD.bindsN T.F_left_places fun _ _ _ _ _ _ us hl => match us, hl with | [_, _], _ => rfl
theorem b_with_letter (T : Tx K mg) : Binds K T.fd_with_letter ["word", "place", "letter"] [] := FunD.bindsN T.F_with_letter fun _ _ _ _ _ _ us hl => match us, hl with | [_, _, _], _ => rfl
theorem b_raised_word (T : Tx K mg) : Binds K T.fd_raised_word ["word", "i"] [] := FunD.bindsN T.F_raised_word fun _ _ _ _ _ _ us hl => match us, hl with | [_, _], _ => rfl
theorem b_first_raising (T : Tx K mg) : Binds K T.fd_first_raising ["word"] [] := FunD.bindsN T.F_first_raising fun _ _ _ _ _ _ us hl => match us, hl with | [_], _ => rfl
theorem b_raised_all (T : Tx K mg) : Binds K T.fd_raised_all ["word"] [] := FunD.bindsN T.F_raised_all fun _ _ _ _ _ _ us hl => match us, hl with | [_], _ => rfl
theorem b_content_in (T : Tx K mg) : Binds K T.fd_content_in ["word"] [] := FunD.bindsN T.F_content_in fun _ _ _ _ _ _ us hl => match us, hl with | [_], _ => rfl
theorem b_content_of (T : Tx K mg) : Binds K T.fd_content_of ["word"] [] := FunD.bindsN T.F_content_of fun _ _ _ _ _ _ us hl => match us, hl with | [_], _ => rfl
theorem b_need_raise (T : Tx K mg) : Binds K T.fd_need_raise ["word", "i"] [] := FunD.bindsN T.F_need_raise fun _ _ _ _ _ _ us hl => match us, hl with | [_, _], _ => rfl
theorem b_raised (T : Tx K mg) : Binds K T.fd_raised ["word", "i"] [] := FunD.bindsN T.F_raised fun _ _ _ _ _ _ us hl => match us, hl with | [_, _], _ => rfl
theorem b_room_up (T : Tx K mg) : Binds K T.fd_room_up ["word", "i"] [] := FunD.bindsN T.F_room_up fun _ _ _ _ _ _ us hl => match us, hl with | [_, _], _ => rfl
theorem b_highest_of (T : Tx K mg) : Binds K T.fd_highest_of ["word"] [] := FunD.bindsN T.F_highest_of fun _ _ _ _ _ _ us hl => match us, hl with | [_], _ => rfl
theorem b_tableau_of (T : Tx K mg) : Binds K T.fd_tableau_of ["word"] [] := FunD.bindsN T.F_tableau_of fun _ _ _ _ _ _ us hl => match us, hl with | [_], _ => rfl
theorem b_x_law_feed (T : Tx K mg) : Binds K T.fd_x_law_feed ["script", "k"] [] := FunD.bindsN T.F_x_law_feed fun _ _ _ _ _ _ us hl => match us, hl with | [_, _], _ => rfl
theorem b_x_law_draw (T : Tx K mg) : Binds K T.fd_x_law_draw ["feed", "many"] [] := FunD.bindsN T.F_x_law_draw fun _ _ _ _ _ _ us hl => match us, hl with | [_, _], _ => rfl
theorem b_x_law_one (T : Tx K mg) : Binds K T.fd_x_law_one ["feed", "things"] [] := FunD.bindsN T.F_x_law_one fun _ _ _ _ _ _ us hl => match us, hl with | [_, _], _ => rfl
theorem b_x_law_same (T : Tx K mg) : Binds K T.fd_x_law_same ["told", "due"] [] := FunD.bindsN T.F_x_law_same fun _ _ _ _ _ _ us hl => match us, hl with | [_, _], _ => rfl
theorem b_x_law_every (T : Tx K mg) : Binds K T.fd_x_law_every ["letters", "most"] [] := FunD.bindsN T.F_x_law_every fun _ _ _ _ _ _ us hl => match us, hl with | [_, _], _ => rfl
theorem b_x_law_hooks (T : Tx K mg) : Binds K T.fd_x_law_hooks ["shape"] [] := FunD.bindsN T.F_x_law_hooks fun _ _ _ _ _ _ us hl => match us, hl with | [_], _ => rfl
theorem b_x_law_factorial (T : Tx K mg) : Binds K T.fd_x_law_factorial ["number"] [] := FunD.bindsN T.F_x_law_factorial fun _ _ _ _ _ _ us hl => match us, hl with | [_], _ => rfl
theorem b_x_law_records (T : Tx K mg) : Binds K T.fd_x_law_records ["shape"] [] := FunD.bindsN T.F_x_law_records fun _ _ _ _ _ _ us hl => match us, hl with | [_], _ => rfl
theorem b_x_law_is_lattice (T : Tx K mg) : Binds K T.fd_x_law_is_lattice ["word"] [] := FunD.bindsN T.F_x_law_is_lattice fun _ _ _ _ _ _ us hl => match us, hl with | [_], _ => rfl
theorem b_x_law_drawn (T : Tx K mg) : Binds K T.fd_x_law_drawn ["feed", "many"] [] := FunD.bindsN T.F_x_law_drawn fun _ _ _ _ _ _ us hl => match us, hl with | [_, _], _ => rfl
theorem b_x_law_long_right (T : Tx K mg) : Binds K T.fd_x_law_long_right ["feed"] [] := FunD.bindsN T.F_x_law_long_right fun _ _ _ _ _ _ us hl => match us, hl with | [_], _ => rfl
theorem b_law (T : Tx K mg) : Binds K T.fd_law ["script"] [] := FunD.bindsN T.F_law fun _ _ _ _ _ _ us hl => match us, hl with | [_], _ => rfl
theorem ok_is_integer (T : Tx K mg) : FnOk P w K mg base CX0 1 T.a_is_integer T.fd_is_integer ["thing"] (spD K 1 m_is_integer) := by
  have nd := sc_is_integer.nd
  exact d_fn (k := 0) T.F_is_integer sc_is_integer (by decide) fun cdv A outer s H E hr => (ss_one (s_ret (d_toV (d_and (d_toE (d_isi (t := .int) (by rfl) T.n_isinstance (d_var (pv 0)) (pe_bltn (by rfl) T.n_int (by decide +kernel) rfl))) (d_one (d_toE (d_not (d_toE (d_isi (t := .bool) (by rfl) T.n_isinstance (d_var (pv 0)) (pe_bltn (by rfl) T.n_bool (by decide +kernel) rfl))))))))))
theorem ok_is_within (T : Tx K mg) : FnOk P w K mg base CX0 2 T.a_is_within T.fd_is_within ["thing", "low", "high"] (spD K 3 m_is_within) := by
  have nd := sc_is_within.nd
  exact d_fn (k := 1) T.F_is_within sc_is_within (by decide) fun cdv A outer s H E hr => (ss_one (s_ret (d_toV (d_and (d_toE (d_call ((ok_is_integer T).mono (by decide)) hr (by rfl) T.g_is_integer T.F_is_integer.kp (b_is_integer T) (a_cons (d_var (pv 0)) a_nil) (ln_cons ln_nil))) (d_one (d_toE (d_chain op_le r_le op_le r_le (d_var (pv 1)) (d_var (pv 0)) (d_var (pv 2)) (by with_unfolding_all rfl))))))))
theorem ok_need_number (T : Tx K mg) : FnOk P w K mg base CX0 3 T.a_need_number T.fd_need_number ["thing", "low", "high"] (spD K 3 m_need_number) := by
  have nd := sc_need_number.nd
  exact d_fn (k := 2) T.F_need_number sc_need_number (by decide) fun cdv A outer s H E hr => (ss_one (s_if (t_not (t_truth (d_toE (d_call ((ok_is_within T).mono (by decide)) hr (by rfl) T.g_is_within T.F_is_within.kp (b_is_within T) (a_cons (d_var (pv 0)) (a_cons (d_var (pv 1)) (a_cons (d_var (pv 2)) a_nil))) (ln_cons (ln_cons (ln_cons ln_nil))))) (by intro _; rfl))) (ss_one s_no) ss_nil))
theorem ok_are_letters (T : Tx K mg) : FnOk P w K mg base CX0 3 T.a_are_letters T.fd_are_letters ["thing", "most"] (spD K 2 m_are_letters) := by
  have nd := sc_are_letters.nd
  exact d_fn (k := 2) T.F_are_letters sc_are_letters (by decide) fun cdv A outer s H E hr => (ss_cons (s_if (PW.pt (w_or (t_not (t_truth (d_toE (d_isi (t := .tuple) (by rfl) T.n_isinstance (d_var (pv 0)) (pe_bltn (by rfl) T.n_tuple (by decide +kernel) rfl))) (by intro _; rfl))) (w_or1 (t_gt (d_toE (d_blt call_len rc_len (by rfl) T.n_len (by decide +kernel) (a_cons (d_var (pv 0)) a_nil))) (d_var (pv 1)))))) (ss_one (s_ret (d_toV (d_cst pe_bl fun _ _ => Dq.bl _)))) ss_nil) (ss_one (s_ret (d_blt (cr_all rfl) rc_all (by rfl) T.n_all (by decide +kernel) (a_cons (d_toE (d_comp (own := [("letter", 2)]) (by rfl) nd (i_seq (d_var (pv 0))) (blkOk_by (own := [("letter", 2)]) (N := n_are_letters) (sc := defScope s_are_letters) (by decide +kernel)) (by decide) (fun _ _ _ _ _ => (g_name (pg_name (i := 2) nd rfl (by first | exact Or.inl rfl | exact Or.inr rfl)))) (fun _ _ _ _ _ => ts_nil) (fun _ _ _ _ _ => (d_toE (d_call ((ok_is_within T).mono (by decide)) hr (by rfl) T.g_is_within T.F_is_within.kp (b_is_within T) (a_cons (d_var (pv 2)) (a_cons (d_cst pe_int fun _ _ => Dq.int _) (a_cons (d_cst (pe_glob (v := .int 9) (by rfl) T.c_MOST_LETTER ⟨_, rfl⟩) fun _ _ => Dq.int _) a_nil))) (ln_cons (ln_cons (ln_cons ln_nil)))))))) a_nil)))))
theorem ok_is_word_form (T : Tx K mg) : FnOk P w K mg base CX0 4 T.a_is_word_form T.fd_is_word_form ["thing"] (spD K 1 m_is_word_form) := by
  have nd := sc_is_word_form.nd
  exact d_fn (k := 3) T.F_is_word_form sc_is_word_form (by decide) fun cdv A outer s H E hr => (ss_one (s_ret (d_call ((ok_are_letters T).mono (by decide)) hr (by rfl) T.g_are_letters T.F_are_letters.kp (b_are_letters T) (a_cons (d_var (pv 0)) (a_cons (d_cst (pe_glob (v := .int 30) (by rfl) T.c_MOST_SIZE ⟨_, rfl⟩) fun _ _ => Dq.int _) a_nil)) (ln_cons (ln_cons ln_nil)))))
theorem ok_need_word (T : Tx K mg) : FnOk P w K mg base CX0 5 T.a_need_word T.fd_need_word ["word"] (spD K 1 m_need_word) := by
  have nd := sc_need_word.nd
  exact d_fn (k := 4) T.F_need_word sc_need_word (by decide) fun cdv A outer s H E hr => (ss_one (s_if (t_not (t_truth (d_toE (d_call ((ok_is_word_form T).mono (by decide)) hr (by rfl) T.g_is_word_form T.F_is_word_form.kp (b_is_word_form T) (a_cons (d_var (pv 0)) a_nil) (ln_cons ln_nil))) (by intro _; rfl))) (ss_one s_no) ss_nil))
theorem ok_place_above (T : Tx K mg) : FnOk P w K mg base CX0 1 T.a_place_above T.fd_place_above ["row", "letter"] (spD K 2 m_place_above) := by
  have nd := sc_place_above.nd
  exact d_fn (k := 0) T.F_place_above sc_place_above (by decide) fun cdv A outer s H E hr => (ss_cons (s_fz 2 (s_setComp (i := 2) rfl nd rfl rfl (sw_true rfl rfl rfl (by decide +kernel)) (own := [("at", 3), ("other", 4)]) (i_enum (by rfl) T.n_enumerate (d_var (pv 0))) (blkOk_by (own := [("at", 3), ("other", 4)]) (N := n_place_above) (sc := defScope s_place_above) (by decide +kernel)) (by decide) (fun _ _ _ _ _ => (g_tup rfl (gs_cons (g_name (pg_name (i := 3) nd rfl (by first | exact Or.inl rfl | exact Or.inr rfl))) (gs_cons (g_name (pg_name (i := 4) nd rfl (by first | exact Or.inl rfl | exact Or.inr rfl))) gs_nil)) (hl_cons (hl_cons hl_nil)))) (fun _ _ _ _ _ => (ts_one (t_gt (d_var (pv 4)) (d_var (pv 1))))) (fun _ _ _ _ _ => (d_var (pv 3))))) (ss_one (s_ret (d_toV (d_if (t_ne hr.units (d_var (pv 2)) (d_toE (d_lst a_nil))) (d_toE (d_ix (d_var (pv 2)) (d_cst pe_int fun _ _ => Dq.int _) (fun _ _ => rfl))) (d_toE (d_blt call_len rc_len (by rfl) T.n_len (by decide +kernel) (a_cons (d_var (pv 0)) a_nil))))))))
theorem ok_put_in_row (T : Tx K mg) : FnOk P w K mg base CX0 2 T.a_put_in_row T.fd_put_in_row ["rows", "at", "letter"] (spD K 3 m_put_in_row) := by
  have nd := sc_put_in_row.nd
  exact d_fn (k := 1) T.F_put_in_row sc_put_in_row (by decide) fun cdv A outer s H E hr => (ss_cons (s_fz 3 (s_par (i := 3) (j := 4) rfl nd rfl rfl (by decide) rfl rfl (d_ty call_list_of rc_list (by rfl) T.n_list (by decide +kernel) (a_cons (d_var (pv 0)) a_nil)) (d_lst a_nil) rfl)) (ss_cons (s_while 4000 PassesOwn.never (t_notN (d_var (pv 2)) (d_cst pe_non fun _ _ => Dq.non)) (ss_cons (s_set (i := 5) nd rfl (by first | exact Or.inl rfl | exact Or.inr rfl) (d_toV (d_if (t_lt (d_var (pv 1)) (d_toE (d_blt call_len rc_len (by rfl) T.n_len (by decide +kernel) (a_cons (d_var (pv 3)) a_nil)))) (d_toE (d_ix (d_var (pv 3)) (d_var (pv 1)) (fun _ _ => rfl))) (d_toE (d_tup a_nil))))) (ss_cons (s_set (i := 6) nd rfl (by first | exact Or.inl rfl | exact Or.inr rfl) (d_call ((ok_place_above T).mono (by decide)) hr (by rfl) T.g_place_above T.F_place_above.kp (b_place_above T) (a_cons (d_var (pv 5)) (a_cons (d_var (pv 2)) a_nil)) (ln_cons (ln_cons ln_nil)))) (ss_cons (s_set (i := 7) nd rfl (by first | exact Or.inl rfl | exact Or.inr rfl) (d_toV (d_if (t_lt (d_var (pv 6)) (d_toE (d_blt call_len rc_len (by rfl) T.n_len (by decide +kernel) (a_cons (d_var (pv 5)) a_nil)))) (d_toE (d_ix (d_var (pv 5)) (d_var (pv 6)) (fun _ _ => rfl))) (d_cst pe_non fun _ _ => Dq.non)))) (ss_cons (s_set (i := 8) nd rfl (by first | exact Or.inl rfl | exact Or.inr rfl) (d_add (d_toE (d_add (d_toE (d_cut (d_var (pv 5)) o_none (o_some (d_var (pv 6))))) (d_toE (d_tup (a_cons (d_var (pv 2)) a_nil))))) (d_toE (d_cut (d_var (pv 5)) (o_some (d_toE (d_add (d_var (pv 6)) (d_cst pe_int fun _ _ => Dq.int _)))) o_none)))) (ss_cons (s_fz 3 (s_set (i := 3) nd rfl (by first | exact Or.inl rfl | exact Or.inr rfl) (d_add (d_toE (d_add (d_toE (d_cut (d_var (pv 3)) o_none (o_some (d_var (pv 1))))) (d_toE (d_lst (a_cons (d_var (pv 8)) a_nil))))) (d_toE (d_cut (d_var (pv 3)) (o_some (d_toE (d_add (d_var (pv 1)) (d_cst pe_int fun _ _ => Dq.int _)))) o_none))))) (ss_cons (s_expr (d_append (pv 4) (d_toE (d_tup (a_cons (d_var (pv 1)) (a_cons (d_var (pv 7)) a_nil)))))) (ss_one (s_par (i := 2) (j := 1) rfl nd rfl rfl (by decide) rfl rfl (d_toV (d_var (pv 7))) (d_add (d_var (pv 1)) (d_cst pe_int fun _ _ => Dq.int _)) rfl))))))))) (ss_one (s_ret (d_tup (a_cons (d_toE (d_ty call_tuple_of rc_tuple (by rfl) T.n_tuple (by decide +kernel) (a_cons (d_var (pv 3)) a_nil))) (a_cons (d_var (pv 4)) a_nil)))))))
theorem ok_pushed_rows (T : Tx K mg) : FnOk P w K mg base CX0 3 T.a_pushed_rows T.fd_pushed_rows ["letters"] (spD K 1 m_pushed_rows) := by
  have nd := sc_pushed_rows.nd
  exact d_fn (k := 2) T.F_pushed_rows sc_pushed_rows (by decide) fun cdv A outer s H E hr => (ss_cons (s_par3 (i := 1) (j := 2) (k := 3) rfl nd rfl rfl rfl (by decide) (by decide) (by decide) rfl rfl rfl (d_tup a_nil) (d_lst a_nil) (d_lst a_nil) rfl) (ss_cons (s_for PassesOwn.never rfl (i_enum (by rfl) T.n_enumerate (d_var (pv 0))) (g_tup rfl (gs_cons (g_name (pg_name (i := 4) nd rfl (by first | exact Or.inl rfl | exact Or.inr rfl))) (gs_cons (g_name (pg_name (i := 5) nd rfl (by first | exact Or.inl rfl | exact Or.inr rfl))) gs_nil)) (hl_cons (hl_cons hl_nil))) (ss_cons (s_asg (d_call ((ok_put_in_row T).mono (by decide)) hr (by rfl) T.g_put_in_row T.F_put_in_row.kp (b_put_in_row T) (a_cons (d_var (pv 1)) (a_cons (d_cst pe_int fun _ _ => Dq.int _) (a_cons (d_var (pv 5)) a_nil))) (ln_cons (ln_cons (ln_cons ln_nil)))) (g_tup rfl (gs_cons (g_name (pg_name (i := 1) nd rfl (by first | exact Or.inl rfl | exact Or.inr rfl))) (gs_cons (g_name (pg_name (i := 6) nd rfl (by first | exact Or.inl rfl | exact Or.inr rfl))) gs_nil)) (hl_cons (hl_cons hl_nil)))) (ss_cons (s_set (i := 7) nd rfl (by first | exact Or.inl rfl | exact Or.inr rfl) (d_ix (d_toE (d_ix (d_var (pv 6)) (d_toE (d_neg (d_cst pe_int fun _ _ => Dq.int _))) (fun _ _ => rfl))) (d_cst pe_int fun _ _ => Dq.int _) (fun _ _ => rfl))) (ss_cons (s_if (t_eq hr.units (d_var (pv 7)) (d_toE (d_blt call_len rc_len (by rfl) T.n_len (by decide +kernel) (a_cons (d_var (pv 2)) a_nil)))) (ss_one (s_expr (d_append (pv 2) (d_toE (d_tup a_nil))))) ss_nil) (ss_cons (s_setIx (i := 2) (pv 2) (d_var (pv 7)) (d_add (d_toE (d_ix (d_var (pv 2)) (d_var (pv 7)) (fun _ _ => rfl))) (d_toE (d_tup (a_cons (d_toE (d_add (d_var (pv 4)) (d_cst pe_int fun _ _ => Dq.int _))) a_nil))))) (ss_one (s_expr (d_append (pv 3) (d_var (pv 6)))))))))) (ss_one (s_ret (d_tup (a_cons (d_var (pv 1)) (a_cons (d_toE (d_ty call_tuple_of rc_tuple (by rfl) T.n_tuple (by decide +kernel) (a_cons (d_var (pv 2)) a_nil))) (a_cons (d_var (pv 3)) a_nil))))))))
theorem ok_tableau_in (T : Tx K mg) : FnOk P w K mg base CX0 4 T.a_tableau_in T.fd_tableau_in ["word"] (spD K 1 m_tableau_in) := by
  have nd := sc_tableau_in.nd
  exact d_fn (k := 3) T.F_tableau_in sc_tableau_in (by decide) fun cdv A outer s H E hr => (ss_one (s_ret (d_ix (d_toE (d_call ((ok_pushed_rows T).mono (by decide)) hr (by rfl) T.g_pushed_rows T.F_pushed_rows.kp (b_pushed_rows T) (a_cons (d_var (pv 0)) a_nil) (ln_cons ln_nil))) (d_cst pe_int fun _ _ => Dq.int _) (fun _ _ => rfl))))
theorem ok_is_lattice (T : Tx K mg) : FnOk P w K mg base CX0 6 T.a_is_lattice T.fd_is_lattice ["word"] (spD K 1 m_is_lattice) := by
  have nd := sc_is_lattice.nd
  exact d_fn (k := 5) T.F_is_lattice sc_is_lattice (by decide) fun cdv A outer s H E hr => (ss_cons (s_expr (d_call ((ok_need_word T).mono (by decide)) hr (by rfl) T.g_need_word T.F_need_word.kp (b_need_word T) (a_cons (d_var (pv 0)) a_nil) (ln_cons ln_nil))) (ss_cons (s_set (i := 1) nd rfl (by first | exact Or.inl rfl | exact Or.inr rfl) (d_mul (d_toE (d_lst (a_cons (d_cst pe_int fun _ _ => Dq.int _) a_nil))) (d_toE (d_add (d_cst (pe_glob (v := .int 9) (by rfl) T.c_MOST_LETTER ⟨_, rfl⟩) fun _ _ => Dq.int _) (d_cst pe_int fun _ _ => Dq.int _))))) (ss_cons (s_for PassesOwn.never rfl (i_seq (d_var (pv 0))) (g_name (pg_name (i := 2) nd rfl (by first | exact Or.inl rfl | exact Or.inr rfl))) (ss_cons (s_augIx (i := 1) ip_add (pv 1) (d_var (pv 2)) (d_cst pe_int fun _ _ => Dq.int _)) (ss_one (s_if (PW.pt (w_and (t_gt (d_var (pv 2)) (d_cst pe_int fun _ _ => Dq.int _)) (w_and1 (t_gt (d_toE (d_ix (d_var (pv 1)) (d_var (pv 2)) (fun _ _ => rfl))) (d_toE (d_ix (d_var (pv 1)) (d_toE (d_sub (d_var (pv 2)) (d_cst pe_int fun _ _ => Dq.int _))) (fun _ _ => rfl))))))) (ss_one (s_ret (d_toV (d_cst pe_bl fun _ _ => Dq.bl _)))) ss_nil)))) (ss_one (s_ret (d_toV (d_cst pe_bl fun _ _ => Dq.bl _)))))))
theorem ok_left_places (T : Tx K mg) : FnOk P w K mg base CX0 1 T.a_left_places T.fd_left_places ["word", "i"] (spD K 2 m_left_places) := by
  have nd := sc_left_places.nd
  exact d_fn (k := 0) T.F_left_places sc_left_places (by decide) fun cdv A outer s H E hr => (ss_cons (s_par (i := 2) (j := 3) rfl nd rfl rfl (by decide) rfl rfl (d_lst a_nil) (d_lst a_nil) rfl) (ss_cons (s_for PassesOwn.never rfl (i_enum (by rfl) T.n_enumerate (d_var (pv 0))) (g_tup rfl (gs_cons (g_name (pg_name (i := 4) nd rfl (by first | exact Or.inl rfl | exact Or.inr rfl))) (gs_cons (g_name (pg_name (i := 5) nd rfl (by first | exact Or.inl rfl | exact Or.inr rfl))) gs_nil)) (hl_cons (hl_cons hl_nil))) (ss_one (s_if (t_eq hr.units (d_var (pv 5)) (d_toE (d_add (d_var (pv 1)) (d_cst pe_int fun _ _ => Dq.int _)))) (ss_one (s_expr (d_append (pv 2) (d_var (pv 4))))) (ss_one (s_if (PW.pt (w_and (t_eq hr.units (d_var (pv 5)) (d_var (pv 1))) (w_and1 (t_ne hr.units (d_var (pv 2)) (d_toE (d_lst a_nil)))))) (ss_one (s_expr (d_pop (pv 2)))) (ss_one (s_if (t_eq hr.units (d_var (pv 5)) (d_var (pv 1))) (ss_one (s_expr (d_append (pv 3) (d_var (pv 4))))) ss_nil))))))) (ss_one (s_ret (d_tup (a_cons (d_var (pv 3)) (a_cons (d_var (pv 2)) a_nil)))))))
theorem ok_with_letter (T : Tx K mg) : FnOk P w K mg base CX0 1 T.a_with_letter T.fd_with_letter ["word", "place", "letter"] (spD K 3 m_with_letter) := by
  have nd := sc_with_letter.nd
  exact d_fn (k := 0) T.F_with_letter sc_with_letter (by decide) fun cdv A outer s H E hr => (ss_one (s_ret (d_add (d_toE (d_add (d_toE (d_cut (d_var (pv 0)) o_none (o_some (d_var (pv 1))))) (d_toE (d_tup (a_cons (d_var (pv 2)) a_nil))))) (d_toE (d_cut (d_var (pv 0)) (o_some (d_toE (d_add (d_var (pv 1)) (d_cst pe_int fun _ _ => Dq.int _)))) o_none)))))
theorem ok_raised_word (T : Tx K mg) : FnOk P w K mg base CX0 2 T.a_raised_word T.fd_raised_word ["word", "i"] (spD K 2 m_raised_word) := by
  have nd := sc_raised_word.nd
  exact d_fn (k := 1) T.F_raised_word sc_raised_word (by decide) fun cdv A outer s H E hr => (ss_cons (s_fz 2 (s_set (i := 2) nd rfl (by first | exact Or.inl rfl | exact Or.inr rfl) (d_ix (d_toE (d_call ((ok_left_places T).mono (by decide)) hr (by rfl) T.g_left_places T.F_left_places.kp (b_left_places T) (a_cons (d_var (pv 0)) (a_cons (d_var (pv 1)) a_nil)) (ln_cons (ln_cons ln_nil)))) (d_cst pe_int fun _ _ => Dq.int _) (fun _ _ => rfl)))) (ss_one (s_ret (d_toV (d_if (t_ne hr.units (d_var (pv 2)) (d_toE (d_lst a_nil))) (d_toE (d_call ((ok_with_letter T).mono (by decide)) hr (by rfl) T.g_with_letter T.F_with_letter.kp (b_with_letter T) (a_cons (d_var (pv 0)) (a_cons (d_toE (d_ix (d_var (pv 2)) (d_cst pe_int fun _ _ => Dq.int _) (fun _ _ => rfl))) (a_cons (d_var (pv 1)) a_nil))) (ln_cons (ln_cons (ln_cons ln_nil))))) (d_cst pe_non fun _ _ => Dq.non))))))
theorem ok_first_raising (T : Tx K mg) : FnOk P w K mg base CX0 2 T.a_first_raising T.fd_first_raising ["word"] (spD K 1 m_first_raising) := by
  have nd := sc_first_raising.nd
  exact d_fn (k := 1) T.F_first_raising sc_first_raising (by decide) fun cdv A outer s H E hr => (ss_cons (s_fz 1 (s_setComp (i := 1) rfl nd rfl rfl (sw_true rfl rfl rfl (by decide +kernel)) (own := [("i", 2)]) (i_range2 (by rfl) T.n_range (a_cons (d_cst pe_int fun _ _ => Dq.int _) (a_cons (d_cst (pe_glob (v := .int 9) (by rfl) T.c_MOST_LETTER ⟨_, rfl⟩) fun _ _ => Dq.int _) a_nil))) (blkOk_by (own := [("i", 2)]) (N := n_first_raising) (sc := defScope s_first_raising) (by decide +kernel)) (by decide) (fun _ _ _ _ _ => (g_name (pg_name (i := 2) nd rfl (by first | exact Or.inl rfl | exact Or.inr rfl)))) (fun _ _ _ _ _ => (ts_one (t_ne hr.units (d_toE (d_ix (d_toE (d_call ((ok_left_places T).mono (by decide)) hr (by rfl) T.g_left_places T.F_left_places.kp (b_left_places T) (a_cons (d_var (pv 0)) (a_cons (d_var (pv 2)) a_nil)) (ln_cons (ln_cons ln_nil)))) (d_cst pe_int fun _ _ => Dq.int _) (fun _ _ => rfl))) (d_toE (d_lst a_nil))))) (fun _ _ _ _ _ => (d_var (pv 2))))) (ss_one (s_ret (d_toV (d_if (t_ne hr.units (d_var (pv 1)) (d_toE (d_lst a_nil))) (d_toE (d_ix (d_var (pv 1)) (d_cst pe_int fun _ _ => Dq.int _) (fun _ _ => rfl))) (d_cst pe_non fun _ _ => Dq.non))))))
theorem ok_raised_all (T : Tx K mg) : FnOk P w K mg base CX0 3 T.a_raised_all T.fd_raised_all ["word"] (spD K 1 m_raised_all) := by
  have nd := sc_raised_all.nd
  exact d_fn (k := 2) T.F_raised_all sc_raised_all (by decide) fun cdv A outer s H E hr => (ss_cons (s_set (i := 1) nd rfl (by first | exact Or.inl rfl | exact Or.inr rfl) (d_lst a_nil)) (ss_cons (s_set (i := 2) nd rfl (by first | exact Or.inl rfl | exact Or.inr rfl) (d_call ((ok_first_raising T).mono (by decide)) hr (by rfl) T.g_first_raising T.F_first_raising.kp (b_first_raising T) (a_cons (d_var (pv 0)) a_nil) (ln_cons ln_nil))) (ss_cons (s_while 4000 PassesOwn.never (t_notN (d_var (pv 2)) (d_cst pe_non fun _ _ => Dq.non)) (ss_cons (s_set (i := 0) nd rfl (by first | exact Or.inl rfl | exact Or.inr rfl) (d_call ((ok_raised_word T).mono (by decide)) hr (by rfl) T.g_raised_word T.F_raised_word.kp (b_raised_word T) (a_cons (d_var (pv 0)) (a_cons (d_var (pv 2)) a_nil)) (ln_cons (ln_cons ln_nil)))) (ss_cons (s_expr (d_append (pv 1) (d_var (pv 2)))) (ss_one (s_set (i := 2) nd rfl (by first | exact Or.inl rfl | exact Or.inr rfl) (d_call ((ok_first_raising T).mono (by decide)) hr (by rfl) T.g_first_raising T.F_first_raising.kp (b_first_raising T) (a_cons (d_var (pv 0)) a_nil) (ln_cons ln_nil))))))) (ss_one (s_ret (d_tup (a_cons (d_var (pv 0)) (a_cons (d_toE (d_ty call_tuple_of rc_tuple (by rfl) T.n_tuple (by decide +kernel) (a_cons (d_var (pv 1)) a_nil))) a_nil))))))))
theorem ok_content_in (T : Tx K mg) : FnOk P w K mg base CX0 1 T.a_content_in T.fd_content_in ["word"] (spD K 1 m_content_in) := by
  have nd := sc_content_in.nd
  exact d_fn (k := 0) T.F_content_in sc_content_in (by decide) fun cdv A outer s H E hr => (ss_one (s_ret (d_ty call_tuple_of rc_tuple (by rfl) T.n_tuple (by decide +kernel) (a_cons (d_toE (d_comp (own := [("letter", 2)]) (by rfl) nd (i_range2 (by rfl) T.n_range (a_cons (d_cst pe_int fun _ _ => Dq.int _) (a_cons (d_toE (d_add (d_cst (pe_glob (v := .int 9) (by rfl) T.c_MOST_LETTER ⟨_, rfl⟩) fun _ _ => Dq.int _) (d_cst pe_int fun _ _ => Dq.int _))) a_nil))) (blkOk_by (own := [("letter", 2)]) (N := n_content_in) (sc := defScope s_content_in) (by decide +kernel)) (by decide) (fun _ _ _ _ _ => (g_name (pg_name (i := 2) nd rfl (by first | exact Or.inl rfl | exact Or.inr rfl)))) (fun _ _ _ _ _ => ts_nil) (fun _ _ _ _ _ => (d_toE (d_blt call_len rc_len (by rfl) T.n_len (by decide +kernel) (a_cons (d_toE (d_comp (own := [("one", 1)]) (by rfl) nd (i_seq (d_var (pv 0))) (blkOk_by (own := [("one", 1)]) (N := n_content_in) (by kernel_rfl)) (by decide) (fun _ _ _ _ _ => (g_name (pg_name (i := 1) nd rfl (by first | exact Or.inl rfl | exact Or.inr rfl)))) (fun _ _ _ _ _ => (ts_one (t_eq hr.units (d_var (pv 1)) (d_var (pv 2))))) (fun _ _ _ _ _ => (d_var (pv 1))))) a_nil)))))) a_nil))))
theorem ok_content_of (T : Tx K mg) : FnOk P w K mg base CX0 6 T.a_content_of T.fd_content_of ["word"] (spD K 1 m_content_of) := by
  have nd := sc_content_of.nd
  exact d_fn (k := 5) T.F_content_of sc_content_of (by decide) fun cdv A outer s H E hr => (ss_cons (s_expr (d_call ((ok_need_word T).mono (by decide)) hr (by rfl) T.g_need_word T.F_need_word.kp (b_need_word T) (a_cons (d_var (pv 0)) a_nil) (ln_cons ln_nil))) (ss_one (s_ret (d_call ((ok_content_in T).mono (by decide)) hr (by rfl) T.g_content_in T.F_content_in.kp (b_content_in T) (a_cons (d_var (pv 0)) a_nil) (ln_cons ln_nil)))))
theorem ok_need_raise (T : Tx K mg) : FnOk P w K mg base CX0 6 T.a_need_raise T.fd_need_raise ["word", "i"] (spD K 2 m_need_raise) := by
  have nd := sc_need_raise.nd
  exact d_fn (k := 5) T.F_need_raise sc_need_raise (by decide) fun cdv A outer s H E hr => (ss_cons (s_expr (d_call ((ok_need_word T).mono (by decide)) hr (by rfl) T.g_need_word T.F_need_word.kp (b_need_word T) (a_cons (d_var (pv 0)) a_nil) (ln_cons ln_nil))) (ss_one (s_expr (d_call ((ok_need_number T).mono (by decide)) hr (by rfl) T.g_need_number T.F_need_number.kp (b_need_number T) (a_cons (d_var (pv 1)) (a_cons (d_cst pe_int fun _ _ => Dq.int _) (a_cons (d_toE (d_sub (d_cst (pe_glob (v := .int 9) (by rfl) T.c_MOST_LETTER ⟨_, rfl⟩) fun _ _ => Dq.int _) (d_cst pe_int fun _ _ => Dq.int _))) a_nil))) (ln_cons (ln_cons (ln_cons ln_nil)))))))
theorem ok_raised (T : Tx K mg) : FnOk P w K mg base CX0 7 T.a_raised T.fd_raised ["word", "i"] (spD K 2 m_raised) := by
  have nd := sc_raised.nd
  exact d_fn (k := 6) T.F_raised sc_raised (by decide) fun cdv A outer s H E hr => (ss_cons (s_expr (d_call ((ok_need_raise T).mono (by decide)) hr (by rfl) T.g_need_raise T.F_need_raise.kp (b_need_raise T) (a_cons (d_var (pv 0)) (a_cons (d_var (pv 1)) a_nil)) (ln_cons (ln_cons ln_nil)))) (ss_one (s_ret (d_call ((ok_raised_word T).mono (by decide)) hr (by rfl) T.g_raised_word T.F_raised_word.kp (b_raised_word T) (a_cons (d_var (pv 0)) (a_cons (d_var (pv 1)) a_nil)) (ln_cons (ln_cons ln_nil))))))
theorem ok_room_up (T : Tx K mg) : FnOk P w K mg base CX0 7 T.a_room_up T.fd_room_up ["word", "i"] (spD K 2 m_room_up) := by
  have nd := sc_room_up.nd
  exact d_fn (k := 6) T.F_room_up sc_room_up (by decide) fun cdv A outer s H E hr => (ss_cons (s_expr (d_call ((ok_need_raise T).mono (by decide)) hr (by rfl) T.g_need_raise T.F_need_raise.kp (b_need_raise T) (a_cons (d_var (pv 0)) (a_cons (d_var (pv 1)) a_nil)) (ln_cons (ln_cons ln_nil)))) (ss_one (s_ret (d_blt call_len rc_len (by rfl) T.n_len (by decide +kernel) (a_cons (d_toE (d_ix (d_toE (d_call ((ok_left_places T).mono (by decide)) hr (by rfl) T.g_left_places T.F_left_places.kp (b_left_places T) (a_cons (d_var (pv 0)) (a_cons (d_var (pv 1)) a_nil)) (ln_cons (ln_cons ln_nil)))) (d_cst pe_int fun _ _ => Dq.int _) (fun _ _ => rfl))) a_nil)))))
theorem ok_highest_of (T : Tx K mg) : FnOk P w K mg base CX0 6 T.a_highest_of T.fd_highest_of ["word"] (spD K 1 m_highest_of) := by
  have nd := sc_highest_of.nd
  exact d_fn (k := 5) T.F_highest_of sc_highest_of (by decide) fun cdv A outer s H E hr => (ss_cons (s_expr (d_call ((ok_need_word T).mono (by decide)) hr (by rfl) T.g_need_word T.F_need_word.kp (b_need_word T) (a_cons (d_var (pv 0)) a_nil) (ln_cons ln_nil))) (ss_one (s_ret (d_call ((ok_raised_all T).mono (by decide)) hr (by rfl) T.g_raised_all T.F_raised_all.kp (b_raised_all T) (a_cons (d_var (pv 0)) a_nil) (ln_cons ln_nil)))))
theorem ok_tableau_of (T : Tx K mg) : FnOk P w K mg base CX0 6 T.a_tableau_of T.fd_tableau_of ["word"] (spD K 1 m_tableau_of) := by
  have nd := sc_tableau_of.nd
  exact d_fn (k := 5) T.F_tableau_of sc_tableau_of (by decide) fun cdv A outer s H E hr => (ss_cons (s_expr (d_call ((ok_need_word T).mono (by decide)) hr (by rfl) T.g_need_word T.F_need_word.kp (b_need_word T) (a_cons (d_var (pv 0)) a_nil) (ln_cons ln_nil))) (ss_one (s_ret (d_call ((ok_tableau_in T).mono (by decide)) hr (by rfl) T.g_tableau_in T.F_tableau_in.kp (b_tableau_in T) (a_cons (d_var (pv 0)) a_nil) (ln_cons ln_nil)))))
theorem ok_x_law_feed (T : Tx K mg) : FnOk P w K mg base CX0 1 T.a_x_law_feed T.fd_x_law_feed ["script", "k"] (spD K 2 m_x_law_feed) := by
  have nd := sc_x_law_feed.nd
  exact d_fn (k := 0) T.F_x_law_feed sc_x_law_feed (by decide) fun cdv A outer s H E hr => (ss_cons (s_set (i := 2) nd rfl (by first | exact Or.inl rfl | exact Or.inr rfl) (d_add (d_toE (d_mul (d_cst pe_int fun _ _ => Dq.int _) (d_var (pv 1)))) (d_toE (d_mul (d_cst pe_int fun _ _ => Dq.int _) (d_toE (d_blt (cr_sumA rfl) rc_sum (by rfl) T.n_sum (by decide +kernel) (a_cons (d_toE (d_cut (d_var (pv 0)) o_none (o_some (d_cst pe_int fun _ _ => Dq.int _)))) a_nil))))))) (ss_cons (s_if (t_lt (d_var (pv 1)) (d_toE (d_blt call_len rc_len (by rfl) T.n_len (by decide +kernel) (a_cons (d_var (pv 0)) a_nil)))) (ss_one (s_set (i := 2) nd rfl (by first | exact Or.inl rfl | exact Or.inr rfl) (d_ix (d_var (pv 0)) (d_var (pv 1)) (fun _ _ => rfl)))) ss_nil) (ss_one (s_ret (d_lst (a_cons (d_toE (d_blt (call_max2 rfl) rc_max2 (by rfl) T.n_max (by decide +kernel) (a_cons (d_cst pe_int fun _ _ => Dq.int _) (a_cons (d_toE (d_sub (d_var (pv 2)) (d_toE (d_pow (d_cst pe_int fun _ _ => Dq.int _) (d_cst pe_int fun _ _ => Dq.int _))))) a_nil)))) (a_cons (d_toE (d_mod (d_toE (d_ty call_int1 rc_int (by rfl) T.n_int (by decide +kernel) (a_cons (d_toE (d_add (d_toE (d_add (d_toE (d_mul (d_var (pv 2)) (d_cst pe_int fun _ _ => Dq.int _))) (d_toE (d_mul (d_cst pe_int fun _ _ => Dq.int _) (d_var (pv 1)))))) (d_cst pe_int fun _ _ => Dq.int _))) a_nil))) (d_toE (d_add (d_toE (d_pow (d_cst pe_int fun _ _ => Dq.int _) (d_cst pe_int fun _ _ => Dq.int _))) (d_cst pe_int fun _ _ => Dq.int _))))) (a_cons (d_cst pe_int fun _ _ => Dq.int _) a_nil))))))))
theorem ok_x_law_draw (T : Tx K mg) : FnOk P w K mg base CX0 1 T.a_x_law_draw T.fd_x_law_draw ["feed", "many"] (spD K 2 m_x_law_draw) := by
  have nd := sc_x_law_draw.nd
  exact d_fn (k := 0) T.F_x_law_draw sc_x_law_draw (by decide) fun cdv A outer s H E hr => (ss_cons (s_if (t_gt (d_toE (d_ix (d_var (pv 0)) (d_cst pe_int fun _ _ => Dq.int _) (fun _ _ => rfl))) (d_cst pe_int fun _ _ => Dq.int _)) (ss_cons (s_set (i := 2) nd rfl (by first | exact Or.inl rfl | exact Or.inr rfl) (d_mod (d_toE (d_ty call_int1 rc_int (by rfl) T.n_int (by decide +kernel) (a_cons (d_toE (d_ix (d_var (pv 0)) (d_cst pe_int fun _ _ => Dq.int _) (fun _ _ => rfl))) a_nil))) (d_var (pv 1)))) (ss_cons (s_setIx (i := 0) (pv 0) (d_cst pe_int fun _ _ => Dq.int _) (d_div (d_toE (d_ix (d_var (pv 0)) (d_cst pe_int fun _ _ => Dq.int _) (fun _ _ => rfl))) (d_var (pv 1)))) (ss_one (s_ret (d_toV (d_var (pv 2))))))) ss_nil) (ss_cons (s_setIx (i := 0) (pv 0) (d_cst pe_int fun _ _ => Dq.int _) (d_add (d_toE (d_ix (d_var (pv 0)) (d_cst pe_int fun _ _ => Dq.int _) (fun _ _ => rfl))) (d_cst pe_int fun _ _ => Dq.int _))) (ss_cons (s_set (i := 3) nd rfl (by first | exact Or.inl rfl | exact Or.inr rfl) (d_add (d_toE (d_ix (d_var (pv 0)) (d_cst pe_int fun _ _ => Dq.int _) (fun _ _ => rfl))) (d_toE (d_mul (d_cst pe_int fun _ _ => Dq.int _) (d_toE (d_ix (d_var (pv 0)) (d_cst pe_int fun _ _ => Dq.int _) (fun _ _ => rfl))))))) (ss_cons (s_set (i := 3) nd rfl (by first | exact Or.inl rfl | exact Or.inr rfl) (d_mod (d_toE (d_ty call_int1 rc_int (by rfl) T.n_int (by decide +kernel) (a_cons (d_toE (d_add (d_toE (d_add (d_toE (d_mul (d_toE (d_mul (d_var (pv 3)) (d_var (pv 3)))) (d_var (pv 3)))) (d_toE (d_mul (d_cst pe_int fun _ _ => Dq.int _) (d_toE (d_ix (d_var (pv 0)) (d_cst pe_int fun _ _ => Dq.int _) (fun _ _ => rfl))))))) (d_cst pe_int fun _ _ => Dq.int _))) a_nil))) (d_toE (d_add (d_toE (d_pow (d_cst pe_int fun _ _ => Dq.int _) (d_cst pe_int fun _ _ => Dq.int _))) (d_cst pe_int fun _ _ => Dq.int _))))) (ss_cons (s_set (i := 3) nd rfl (by first | exact Or.inl rfl | exact Or.inr rfl) (d_mod (d_toE (d_ty call_int1 rc_int (by rfl) T.n_int (by decide +kernel) (a_cons (d_toE (d_add (d_toE (d_mul (d_var (pv 3)) (d_var (pv 3)))) (d_cst pe_int fun _ _ => Dq.int _))) a_nil))) (d_toE (d_add (d_toE (d_pow (d_cst pe_int fun _ _ => Dq.int _) (d_cst pe_int fun _ _ => Dq.int _))) (d_cst pe_int fun _ _ => Dq.int _))))) (ss_one (s_ret (d_mod (d_toE (d_ty call_int1 rc_int (by rfl) T.n_int (by decide +kernel) (a_cons (d_toE (d_div (d_var (pv 3)) (d_toE (d_pow (d_cst pe_int fun _ _ => Dq.int _) (d_cst pe_int fun _ _ => Dq.int _))))) a_nil))) (d_var (pv 1))))))))))
theorem ok_x_law_one (T : Tx K mg) : FnOk P w K mg base CX0 2 T.a_x_law_one T.fd_x_law_one ["feed", "things"] (spD K 2 m_x_law_one) := by
  have nd := sc_x_law_one.nd
  exact d_fn (k := 1) T.F_x_law_one sc_x_law_one (by decide) fun cdv A outer s H E hr => (ss_one (s_ret (d_ix (d_var (pv 1)) (d_toE (d_call ((ok_x_law_draw T).mono (by decide)) hr (by rfl) T.g_x_law_draw T.F_x_law_draw.kp (b_x_law_draw T) (a_cons (d_var (pv 0)) (a_cons (d_toE (d_blt call_len rc_len (by rfl) T.n_len (by decide +kernel) (a_cons (d_var (pv 1)) a_nil))) a_nil)) (ln_cons (ln_cons ln_nil)))) (fun _ _ => rfl))))
theorem ok_x_law_same (T : Tx K mg) : ∀ n, FnOk P w K mg base CX0 (0 + n) T.a_x_law_same T.fd_x_law_same ["told", "due"] (spD K 2 (m_x_law_same n))
  | 0 => ⟨fun vs H Q E h => by obtain ⟨_, _, _, _, _, hv, _⟩ := h; exact hv, fun A outer s H args us vs Q E hr he hb hv h => by obtain ⟨_, _, _, _, _, _, _, hm, _⟩ := h; cases hm⟩
  | n + 1 => by
    have ih := ok_x_law_same T n
    have nd := sc_x_law_same.nd
    exact d_fn (k := 0 + n) T.F_x_law_same sc_x_law_same (by decide) fun cdv A outer s H E hr => (ss_cons (s_if (t_isN (d_var (pv 1)) (d_cst pe_non fun _ _ => Dq.non)) (ss_one (s_ret (d_isN (d_var (pv 0)) (d_cst pe_non fun _ _ => Dq.non)))) ss_nil) (ss_cons (s_if (t_truth (d_toE (d_isi (t := .bool) (by rfl) T.n_isinstance (d_var (pv 1)) (pe_bltn (by rfl) T.n_bool (by decide +kernel) rfl))) (by intro _; rfl)) (ss_one (s_ret (d_toV (d_and (d_toE (d_isi (t := .bool) (by rfl) T.n_isinstance (d_var (pv 0)) (pe_bltn (by rfl) T.n_bool (by decide +kernel) rfl))) (d_one (d_toE (d_eq hr.units (d_var (pv 0)) (d_var (pv 1))))))))) ss_nil) (ss_cons (s_if (t_truth (d_toE (d_isi (t := .int) (by rfl) T.n_isinstance (d_var (pv 1)) (pe_bltn (by rfl) T.n_int (by decide +kernel) rfl))) (by intro _; rfl)) (ss_one (s_ret (d_toV (d_and (d_toE (d_isi (t := .int) (by rfl) T.n_isinstance (d_var (pv 0)) (pe_bltn (by rfl) T.n_int (by decide +kernel) rfl))) (d_and (d_toE (d_not (d_toE (d_isi (t := .bool) (by rfl) T.n_isinstance (d_var (pv 0)) (pe_bltn (by rfl) T.n_bool (by decide +kernel) rfl))))) (d_one (d_toE (d_eq hr.units (d_var (pv 0)) (d_var (pv 1)))))))))) ss_nil) (ss_cons (s_if (t_truth (d_toE (d_isi (t := .str) (by rfl) T.n_isinstance (d_var (pv 1)) (pe_bltn (by rfl) T.n_str (by decide +kernel) rfl))) (by intro _; rfl)) (ss_one (s_ret (d_toV (d_and (d_toE (d_isi (t := .str) (by rfl) T.n_isinstance (d_var (pv 0)) (pe_bltn (by rfl) T.n_str (by decide +kernel) rfl))) (d_one (d_toE (d_eq hr.units (d_var (pv 0)) (d_var (pv 1))))))))) ss_nil) (ss_cons (s_if (PW.pt (w_or (t_ne hr.units (d_toE (d_isi (t := .list) (by rfl) T.n_isinstance (d_var (pv 1)) (pe_bltn (by rfl) T.n_list (by decide +kernel) rfl))) (d_toE (d_isi (t := .list) (by rfl) T.n_isinstance (d_var (pv 0)) (pe_bltn (by rfl) T.n_list (by decide +kernel) rfl)))) (w_or (t_not (t_truth (d_toE (d_isi2 (t := .list) (u := .tuple) (by rfl) T.n_isinstance (d_var (pv 0)) (pe_bltn (by rfl) T.n_list (by decide +kernel) rfl) (pe_bltn (by rfl) T.n_tuple (by decide +kernel) rfl))) (by intro _; rfl))) (w_or1 (t_ne hr.units (d_toE (d_blt call_len rc_len (by rfl) T.n_len (by decide +kernel) (a_cons (d_var (pv 0)) a_nil))) (d_toE (d_blt call_len rc_len (by rfl) T.n_len (by decide +kernel) (a_cons (d_var (pv 1)) a_nil)))))))) (ss_one (s_ret (d_toV (d_cst pe_bl fun _ _ => Dq.bl _)))) ss_nil) (ss_one (s_ret (d_eq hr.units (d_toE (d_comp (own := [("one", 2), ("other", 3)]) (by rfl) nd (i_zip (by rfl) T.n_zip (a_cons (d_var (pv 0)) (a_cons (d_var (pv 1)) a_nil))) (blkOk_by (own := [("one", 2), ("other", 3)]) (N := n_x_law_same) (sc := defScope s_x_law_same) (by decide +kernel)) (by decide) (fun _ _ _ _ _ => (g_tup rfl (gs_cons (g_name (pg_name (i := 2) nd rfl (by first | exact Or.inl rfl | exact Or.inr rfl))) (gs_cons (g_name (pg_name (i := 3) nd rfl (by first | exact Or.inl rfl | exact Or.inr rfl))) gs_nil)) (hl_cons (hl_cons hl_nil)))) (fun _ _ _ _ _ => (ts_one (t_not (t_truth (d_toE (d_call ih hr (by rfl) T.g_x_law_same T.F_x_law_same.kp (b_x_law_same T) (a_cons (d_var (pv 2)) (a_cons (d_var (pv 3)) a_nil)) (ln_cons (ln_cons ln_nil)))) (by intro _; rfl))))) (fun _ _ _ _ _ => (d_cst pe_int fun _ _ => Dq.int _)))) (d_toE (d_lst a_nil))))))))))
theorem ok_x_law_every (T : Tx K mg) : FnOk P w K mg base CX0 1 T.a_x_law_every T.fd_x_law_every ["letters", "most"] (spD K 2 m_x_law_every) := by
  have nd := sc_x_law_every.nd
  exact d_fn (k := 0) T.F_x_law_every sc_x_law_every (by decide) fun cdv A outer s H E hr => (ss_cons (s_fz 2 (s_fz 3 (s_par (i := 2) (j := 3) rfl nd rfl rfl (by decide) rfl rfl (d_lst (a_cons (d_toE (d_tup a_nil)) a_nil)) (d_lst (a_cons (d_toE (d_tup a_nil)) a_nil)) rfl))) (ss_cons (s_for PassesOwn.never rfl (i_range1 (by rfl) T.n_range (a_cons (d_var (pv 1)) a_nil)) (g_name (pg_name (i := 4) nd rfl (by first | exact Or.inl rfl | exact Or.inr rfl))) (ss_cons (s_set (i := 5) nd rfl (by first | exact Or.inl rfl | exact Or.inr rfl) (d_lst a_nil)) (ss_cons (s_for PassesOwn.never rfl (i_seq (d_var (pv 3))) (g_name (pg_name (i := 6) nd rfl (by first | exact Or.inl rfl | exact Or.inr rfl))) (ss_one (s_expr (d_extend (pv 5) (d_comp (own := [("letter", 7)]) (by rfl) nd (i_seq (d_var (pv 0))) (blkOk_by (own := [("letter", 7)]) (N := n_x_law_every) (sc := defScope s_x_law_every) (by decide +kernel)) (by decide) (fun _ _ _ _ _ => (g_name (pg_name (i := 7) nd rfl (by first | exact Or.inl rfl | exact Or.inr rfl)))) (fun _ _ _ _ _ => ts_nil) (fun _ _ _ _ _ => (d_toE (d_add (d_var (pv 6)) (d_toE (d_tup (a_cons (d_var (pv 7)) a_nil))))))))))) (ss_cons (s_set (i := 3) nd rfl (by first | exact Or.inl rfl | exact Or.inr rfl) (d_toV (d_var (pv 5)))) (ss_one (s_fz 2 (s_set (i := 2) nd rfl (by first | exact Or.inl rfl | exact Or.inr rfl) (d_add (d_var (pv 2)) (d_var (pv 3)))))))))) (ss_one (s_ret (d_toV (d_var (pv 2)))))))
theorem ok_x_law_hooks (T : Tx K mg) : FnOk P w K mg base CX0 1 T.a_x_law_hooks T.fd_x_law_hooks ["shape"] (spD K 1 m_x_law_hooks) := by
  have nd := sc_x_law_hooks.nd
  exact d_fn (k := 0) T.F_x_law_hooks sc_x_law_hooks (by decide) fun cdv A outer s H E hr => (ss_cons (s_set (i := 1) nd rfl (by first | exact Or.inl rfl | exact Or.inr rfl) (d_lst a_nil)) (ss_cons (s_for PassesOwn.never rfl (i_enum (by rfl) T.n_enumerate (d_var (pv 0))) (g_tup rfl (gs_cons (g_name (pg_name (i := 2) nd rfl (by first | exact Or.inl rfl | exact Or.inr rfl))) (gs_cons (g_name (pg_name (i := 3) nd rfl (by first | exact Or.inl rfl | exact Or.inr rfl))) gs_nil)) (hl_cons (hl_cons hl_nil))) (ss_one (s_expr (d_append (pv 1) (d_toE (d_ty call_tuple_of rc_tuple (by rfl) T.n_tuple (by decide +kernel) (a_cons (d_toE (d_comp (own := [("place", 5)]) (by rfl) nd (i_range1 (by rfl) T.n_range (a_cons (d_var (pv 3)) a_nil)) (blkOk_by (own := [("place", 5)]) (N := n_x_law_hooks) (sc := defScope s_x_law_hooks) (by decide +kernel)) (by decide) (fun _ _ _ _ _ => (g_name (pg_name (i := 5) nd rfl (by first | exact Or.inl rfl | exact Or.inr rfl)))) (fun _ _ _ _ _ => ts_nil) (fun _ _ _ _ _ => (d_toE (d_add (d_toE (d_sub (d_var (pv 3)) (d_var (pv 5)))) (d_toE (d_blt call_len rc_len (by rfl) T.n_len (by decide +kernel) (a_cons (d_toE (d_comp (own := [("other", 4)]) (by rfl) nd (i_seq (d_toE (d_cut (d_var (pv 0)) (o_some (d_toE (d_add (d_var (pv 2)) (d_cst pe_int fun _ _ => Dq.int _)))) o_none))) (blkOk_by (own := [("other", 4)]) (N := n_x_law_hooks) (by kernel_rfl)) (by decide) (fun _ _ _ _ _ => (g_name (pg_name (i := 4) nd rfl (by first | exact Or.inl rfl | exact Or.inr rfl)))) (fun _ _ _ _ _ => (ts_one (t_gt (d_var (pv 4)) (d_var (pv 5))))) (fun _ _ _ _ _ => (d_cst pe_int fun _ _ => Dq.int _)))) a_nil)))))))) a_nil))))))) (ss_one (s_ret (d_ty call_tuple_of rc_tuple (by rfl) T.n_tuple (by decide +kernel) (a_cons (d_var (pv 1)) a_nil))))))
theorem ok_x_law_factorial (T : Tx K mg) : FnOk P w K mg base CX0 1 T.a_x_law_factorial T.fd_x_law_factorial ["number"] (spD K 1 m_x_law_factorial) := by
  have nd := sc_x_law_factorial.nd
  exact d_fn (k := 0) T.F_x_law_factorial sc_x_law_factorial (by decide) fun cdv A outer s H E hr => (ss_cons (s_set (i := 1) nd rfl (by first | exact Or.inl rfl | exact Or.inr rfl) (d_toV (d_cst pe_int fun _ _ => Dq.int _))) (ss_cons (s_for PassesOwn.never rfl (i_range2 (by rfl) T.n_range (a_cons (d_cst pe_int fun _ _ => Dq.int _) (a_cons (d_toE (d_add (d_var (pv 0)) (d_cst pe_int fun _ _ => Dq.int _))) a_nil))) (g_name (pg_name (i := 2) nd rfl (by first | exact Or.inl rfl | exact Or.inr rfl))) (ss_one (s_set (i := 1) nd rfl (by first | exact Or.inl rfl | exact Or.inr rfl) (d_mul (d_var (pv 1)) (d_var (pv 2)))))) (ss_one (s_ret (d_toV (d_var (pv 1)))))))
theorem ok_x_law_records (T : Tx K mg) : FnOk P w K mg base CX0 2 T.a_x_law_records T.fd_x_law_records ["shape"] (spD K 1 m_x_law_records) := by
  have nd := sc_x_law_records.nd
  exact d_fn (k := 1) T.F_x_law_records sc_x_law_records (by decide) fun cdv A outer s H E hr => (ss_cons (s_set (i := 1) nd rfl (by first | exact Or.inl rfl | exact Or.inr rfl) (d_toV (d_cst pe_int fun _ _ => Dq.int _))) (ss_cons (s_for PassesOwn.never rfl (i_seq (d_toE (d_call ((ok_x_law_hooks T).mono (by decide)) hr (by rfl) T.g_x_law_hooks T.F_x_law_hooks.kp (b_x_law_hooks T) (a_cons (d_var (pv 0)) a_nil) (ln_cons ln_nil)))) (g_name (pg_name (i := 2) nd rfl (by first | exact Or.inl rfl | exact Or.inr rfl))) (ss_one (s_for PassesOwn.never rfl (i_seq (d_var (pv 2))) (g_name (pg_name (i := 3) nd rfl (by first | exact Or.inl rfl | exact Or.inr rfl))) (ss_one (s_set (i := 1) nd rfl (by first | exact Or.inl rfl | exact Or.inr rfl) (d_mul (d_var (pv 1)) (d_var (pv 3)))))))) (ss_one (s_ret (d_ty call_int1 rc_int (by rfl) T.n_int (by decide +kernel) (a_cons (d_toE (d_div (d_toE (d_call ((ok_x_law_factorial T).mono (by decide)) hr (by rfl) T.g_x_law_factorial T.F_x_law_factorial.kp (b_x_law_factorial T) (a_cons (d_toE (d_blt (cr_sumA rfl) rc_sum (by rfl) T.n_sum (by decide +kernel) (a_cons (d_var (pv 0)) a_nil))) a_nil) (ln_cons ln_nil))) (d_var (pv 1)))) a_nil))))))
theorem ok_x_law_is_lattice (T : Tx K mg) : FnOk P w K mg base CX0 1 T.a_x_law_is_lattice T.fd_x_law_is_lattice ["word"] (spD K 1 m_x_law_is_lattice) := by
  have nd := sc_x_law_is_lattice.nd
  exact d_fn (k := 0) T.F_x_law_is_lattice sc_x_law_is_lattice (by decide) fun cdv A outer s H E hr => (ss_cons (s_set (i := 1) nd rfl (by first | exact Or.inl rfl | exact Or.inr rfl) (d_mul (d_toE (d_lst (a_cons (d_cst pe_int fun _ _ => Dq.int _) a_nil))) (d_cst pe_int fun _ _ => Dq.int _))) (ss_cons (s_for PassesOwn.never rfl (i_seq (d_var (pv 0))) (g_name (pg_name (i := 2) nd rfl (by first | exact Or.inl rfl | exact Or.inr rfl))) (ss_cons (s_setIx (i := 1) (pv 1) (d_var (pv 2)) (d_add (d_toE (d_ix (d_var (pv 1)) (d_var (pv 2)) (fun _ _ => rfl))) (d_cst pe_int fun _ _ => Dq.int _))) (ss_one (s_if (PW.pt (w_and (t_gt (d_var (pv 2)) (d_cst pe_int fun _ _ => Dq.int _)) (w_and1 (t_gt (d_toE (d_ix (d_var (pv 1)) (d_var (pv 2)) (fun _ _ => rfl))) (d_toE (d_ix (d_var (pv 1)) (d_toE (d_sub (d_var (pv 2)) (d_cst pe_int fun _ _ => Dq.int _))) (fun _ _ => rfl))))))) (ss_one (s_ret (d_toV (d_cst pe_bl fun _ _ => Dq.bl _)))) ss_nil)))) (ss_one (s_ret (d_toV (d_cst pe_bl fun _ _ => Dq.bl _))))))
theorem ok_x_law_drawn (T : Tx K mg) : FnOk P w K mg base CX0 3 T.a_x_law_drawn T.fd_x_law_drawn ["feed", "many"] (spD K 2 m_x_law_drawn) := by
  have nd := sc_x_law_drawn.nd
  exact d_fn (k := 2) T.F_x_law_drawn sc_x_law_drawn (by decide) fun cdv A outer s H E hr => (ss_cons (s_parT rfl (d_mul (d_toE (d_lst (a_cons (d_cst pe_int fun _ _ => Dq.int _) a_nil))) (d_cst pe_int fun _ _ => Dq.int _)) (d_lst a_nil) (pg_name (i := 2) nd rfl (by first | exact Or.inl rfl | exact Or.inr rfl)) (pg_name (i := 3) nd rfl (by first | exact Or.inl rfl | exact Or.inr rfl))) (ss_cons (s_for PassesOwn.never rfl (i_range1 (by rfl) T.n_range (a_cons (d_var (pv 1)) a_nil)) (g_name (pg_name (i := 4) nd rfl (by first | exact Or.inl rfl | exact Or.inr rfl))) (ss_cons (s_fz 5 (s_setComp (i := 5) rfl nd rfl rfl (sw_true rfl rfl rfl (by decide +kernel)) (own := [("at", 6)]) (i_range1 (by rfl) T.n_range (a_cons (d_cst pe_int fun _ _ => Dq.int _) a_nil)) (blkOk_by (own := [("at", 6)]) (N := n_x_law_drawn) (sc := defScope s_x_law_drawn) (by decide +kernel)) (by decide) (fun _ _ _ _ _ => (g_name (pg_name (i := 6) nd rfl (by first | exact Or.inl rfl | exact Or.inr rfl)))) (fun _ _ _ _ _ => (ts_one (PW.pt (w_or (t_eq hr.units (d_var (pv 6)) (d_cst pe_int fun _ _ => Dq.int _)) (w_or1 (t_lt (d_toE (d_ix (d_var (pv 2)) (d_var (pv 6)) (fun _ _ => rfl))) (d_toE (d_ix (d_var (pv 2)) (d_toE (d_sub (d_var (pv 6)) (d_cst pe_int fun _ _ => Dq.int _))) (fun _ _ => rfl))))))))) (fun _ _ _ _ _ => (d_var (pv 6))))) (ss_cons (s_set (i := 6) nd rfl (by first | exact Or.inl rfl | exact Or.inr rfl) (d_call ((ok_x_law_one T).mono (by decide)) hr (by rfl) T.g_x_law_one T.F_x_law_one.kp (b_x_law_one T) (a_cons (d_var (pv 0)) (a_cons (d_toE (d_add (d_var (pv 5)) (d_toE (d_mul (d_toE (d_cut (d_var (pv 5)) (o_some (d_toE (d_neg (d_cst pe_int fun _ _ => Dq.int _)))) o_none)) (d_cst pe_int fun _ _ => Dq.int _))))) a_nil)) (ln_cons (ln_cons ln_nil)))) (ss_cons (s_setIx (i := 2) (pv 2) (d_var (pv 6)) (d_add (d_toE (d_ix (d_var (pv 2)) (d_var (pv 6)) (fun _ _ => rfl))) (d_cst pe_int fun _ _ => Dq.int _))) (ss_one (s_expr (d_append (pv 3) (d_toE (d_add (d_var (pv 6)) (d_cst pe_int fun _ _ => Dq.int _)))))))))) (ss_one (s_ret (d_ty call_tuple_of rc_tuple (by rfl) T.n_tuple (by decide +kernel) (a_cons (d_var (pv 3)) a_nil))))))
theorem ok_x_law_long_right (T : Tx K mg) : FnOk P w K mg base CX0 10 T.a_x_law_long_right T.fd_x_law_long_right ["feed"] (spD K 1 m_x_law_long_right) := by
  have nd := sc_x_law_long_right.nd
  exact d_fn (k := 9) T.F_x_law_long_right sc_x_law_long_right (by decide) fun cdv A outer s H E hr => (ss_cons (s_set (i := 1) nd rfl (by first | exact Or.inl rfl | exact Or.inr rfl) (d_call ((ok_x_law_drawn T).mono (by decide)) hr (by rfl) T.g_x_law_drawn T.F_x_law_drawn.kp (b_x_law_drawn T) (a_cons (d_var (pv 0)) (a_cons (d_toE (d_call ((ok_x_law_one T).mono (by decide)) hr (by rfl) T.g_x_law_one T.F_x_law_one.kp (b_x_law_one T) (a_cons (d_var (pv 0)) (a_cons (d_toE (d_lst (a_cons (d_cst pe_int fun _ _ => Dq.int _) (a_cons (d_cst pe_int fun _ _ => Dq.int _) (a_cons (d_cst pe_int fun _ _ => Dq.int _) a_nil))))) a_nil)) (ln_cons (ln_cons ln_nil)))) a_nil)) (ln_cons (ln_cons ln_nil)))) (ss_cons (s_if (PW.pt (w_or (t_notB (d_toE (d_call ((ok_is_lattice T).mono (by decide)) hr (by rfl) T.g_is_lattice T.F_is_lattice.kp (b_is_lattice T) (a_cons (d_var (pv 1)) a_nil) (ln_cons ln_nil))) (d_cst pe_bl fun _ _ => Dq.bl _)) (w_or1 (t_notN (d_toE (d_call ((ok_raised T).mono (by decide)) hr (by rfl) T.g_raised T.F_raised.kp (b_raised T) (a_cons (d_toE (d_rev (d_var (pv 1)))) (a_cons (d_toE (d_add (d_cst pe_int fun _ _ => Dq.int _) (d_toE (d_call ((ok_x_law_draw T).mono (by decide)) hr (by rfl) T.g_x_law_draw T.F_x_law_draw.kp (b_x_law_draw T) (a_cons (d_var (pv 0)) (a_cons (d_cst pe_int fun _ _ => Dq.int _) a_nil)) (ln_cons (ln_cons ln_nil)))))) a_nil)) (ln_cons (ln_cons ln_nil)))) (d_cst pe_non fun _ _ => Dq.non))))) (ss_one (s_ret (d_toV (d_cst pe_bl fun _ _ => Dq.bl _)))) ss_nil) (ss_cons (s_for PassesOwn.never rfl (i_seq (d_toE (d_tup (a_cons (d_cst pe_int fun _ _ => Dq.int _) (a_cons (d_toE (d_sub (d_toE (d_blt call_len rc_len (by rfl) T.n_len (by decide +kernel) (a_cons (d_var (pv 1)) a_nil))) (d_cst pe_int fun _ _ => Dq.int _))) (a_cons (d_toE (d_call ((ok_x_law_draw T).mono (by decide)) hr (by rfl) T.g_x_law_draw T.F_x_law_draw.kp (b_x_law_draw T) (a_cons (d_var (pv 0)) (a_cons (d_toE (d_blt call_len rc_len (by rfl) T.n_len (by decide +kernel) (a_cons (d_var (pv 1)) a_nil))) a_nil)) (ln_cons (ln_cons ln_nil)))) (a_cons (d_toE (d_call ((ok_x_law_draw T).mono (by decide)) hr (by rfl) T.g_x_law_draw T.F_x_law_draw.kp (b_x_law_draw T) (a_cons (d_var (pv 0)) (a_cons (d_toE (d_blt call_len rc_len (by rfl) T.n_len (by decide +kernel) (a_cons (d_var (pv 1)) a_nil))) a_nil)) (ln_cons (ln_cons ln_nil)))) a_nil))))))) (g_name (pg_name (i := 2) nd rfl (by first | exact Or.inl rfl | exact Or.inr rfl))) (ss_cons (s_set (i := 3) nd rfl (by first | exact Or.inl rfl | exact Or.inr rfl) (d_add (d_toE (d_add (d_toE (d_cut (d_var (pv 1)) o_none (o_some (d_var (pv 2))))) (d_toE (d_tup (a_cons (d_toE (d_add (d_cst pe_int fun _ _ => Dq.int _) (d_toE (d_call ((ok_x_law_draw T).mono (by decide)) hr (by rfl) T.g_x_law_draw T.F_x_law_draw.kp (b_x_law_draw T) (a_cons (d_var (pv 0)) (a_cons (d_cst pe_int fun _ _ => Dq.int _) a_nil)) (ln_cons (ln_cons ln_nil)))))) a_nil))))) (d_toE (d_cut (d_var (pv 1)) (o_some (d_toE (d_add (d_var (pv 2)) (d_cst pe_int fun _ _ => Dq.int _)))) o_none)))) (ss_cons (s_if (t_not (t_truth (d_toE (d_call ((ok_x_law_same T 8).mono (by decide)) hr (by rfl) T.g_x_law_same T.F_x_law_same.kp (b_x_law_same T) (a_cons (d_toE (d_lst (a_cons (d_toE (d_call ((ok_is_lattice T).mono (by decide)) hr (by rfl) T.g_is_lattice T.F_is_lattice.kp (b_is_lattice T) (a_cons (d_var (pv 3)) a_nil) (ln_cons ln_nil))) (a_cons (d_toE (d_callKw ((ok_is_lattice T).mono (by decide)) hr (by rfl) T.g_is_lattice T.F_is_lattice.kp (kb_all (ks := ["word"]) T.F_is_lattice fun _ _ _ _ _ _ ws hl => match ws, hl with | [_], _ => rfl) rfl (k_cons (d_var (pv 3)) k_nil) (ln_cons ln_nil))) a_nil)))) (a_cons (d_toE (d_mul (d_toE (d_lst (a_cons (d_toE (d_call ((ok_x_law_is_lattice T).mono (by decide)) hr (by rfl) T.g_x_law_is_lattice T.F_x_law_is_lattice.kp (b_x_law_is_lattice T) (a_cons (d_var (pv 3)) a_nil) (ln_cons ln_nil))) a_nil))) (d_cst pe_int fun _ _ => Dq.int _))) a_nil)) (ln_cons (ln_cons ln_nil)))) (by intro _; rfl))) (ss_one (s_ret (d_toV (d_cst pe_bl fun _ _ => Dq.bl _)))) ss_nil) (ss_one (s_if (t_ne hr.units (d_toE (d_eq hr.units (d_toE (d_ix (d_toE (d_call ((ok_highest_of T).mono (by decide)) hr (by rfl) T.g_highest_of T.F_highest_of.kp (b_highest_of T) (a_cons (d_toE (d_rev (d_var (pv 3)))) a_nil) (ln_cons ln_nil))) (d_cst pe_int fun _ _ => Dq.int _) (fun _ _ => rfl))) (d_toE (d_tup a_nil)))) (d_toE (d_call ((ok_x_law_is_lattice T).mono (by decide)) hr (by rfl) T.g_x_law_is_lattice T.F_x_law_is_lattice.kp (b_x_law_is_lattice T) (a_cons (d_var (pv 3)) a_nil) (ln_cons ln_nil)))) (ss_one (s_ret (d_toV (d_cst pe_bl fun _ _ => Dq.bl _)))) ss_nil))))) (ss_one (s_ret (d_toV (d_and (d_toE (d_isB (d_toE (d_call ((ok_is_lattice T).mono (by decide)) hr (by rfl) T.g_is_lattice T.F_is_lattice.kp (b_is_lattice T) (a_cons (d_toE (d_tupR2 rfl (by rfl) T.n_tuple (by rfl) T.n_range (d_cst pe_int fun _ _ => Dq.int _) (d_cst pe_int fun _ _ => Dq.int _))) a_nil) (ln_cons ln_nil))) (d_cst pe_bl fun _ _ => Dq.bl _))) (d_one (d_toE (d_isB (d_toE (d_call ((ok_is_lattice T).mono (by decide)) hr (by rfl) T.g_is_lattice T.F_is_lattice.kp (b_is_lattice T) (a_cons (d_toE (d_add (d_toE (d_tup (a_cons (d_cst pe_int fun _ _ => Dq.int _) a_nil))) (d_toE (d_cut (d_var (pv 1)) o_none (o_some (d_cst pe_int fun _ _ => Dq.int _)))))) a_nil) (ln_cons ln_nil))) (d_cst pe_bl fun _ _ => Dq.bl _)))))))))))
theorem ok_law (T : Tx K mg) : FnOk P w K mg base CX0 11 T.a_law T.fd_law ["script"] (spD K 1 m_law) := by
  have nd := sc_law.nd
  exact d_fn (k := 10) T.F_law sc_law (by decide) fun cdv A outer s H E hr => (ss_cons (s_set (i := 1) nd rfl (by first | exact Or.inl rfl | exact Or.inr rfl) (d_call ((ok_x_law_feed T).mono (by decide)) hr (by rfl) T.g_x_law_feed T.F_x_law_feed.kp (b_x_law_feed T) (a_cons (d_var (pv 0)) (a_cons (d_cst pe_int fun _ _ => Dq.int _) a_nil)) (ln_cons (ln_cons ln_nil)))) (ss_cons (s_asg (d_call ((ok_x_law_one T).mono (by decide)) hr (by rfl) T.g_x_law_one T.F_x_law_one.kp (b_x_law_one T) (a_cons (d_var (pv 1)) (a_cons (d_toE (d_lst (a_cons (d_toE (d_tup (a_cons (d_toE (d_lst (a_cons (d_cst pe_int fun _ _ => Dq.int _) (a_cons (d_cst pe_int fun _ _ => Dq.int _) (a_cons (d_cst pe_int fun _ _ => Dq.int _) a_nil))))) (a_cons (d_cst pe_int fun _ _ => Dq.int _) a_nil)))) (a_cons (d_toE (d_tup (a_cons (d_toE (d_lst (a_cons (d_cst pe_int fun _ _ => Dq.int _) (a_cons (d_cst pe_int fun _ _ => Dq.int _) (a_cons (d_cst pe_int fun _ _ => Dq.int _) (a_cons (d_cst pe_int fun _ _ => Dq.int _) a_nil)))))) (a_cons (d_cst pe_int fun _ _ => Dq.int _) a_nil)))) (a_cons (d_toE (d_tup (a_cons (d_toE (d_lst (a_cons (d_cst pe_int fun _ _ => Dq.int _) (a_cons (d_cst pe_int fun _ _ => Dq.int _) a_nil)))) (a_cons (d_cst pe_int fun _ _ => Dq.int _) a_nil)))) (a_cons (d_toE (d_tup (a_cons (d_toE (d_lst (a_cons (d_cst pe_int fun _ _ => Dq.int _) (a_cons (d_cst pe_int fun _ _ => Dq.int _) a_nil)))) (a_cons (d_cst pe_int fun _ _ => Dq.int _) a_nil)))) (a_cons (d_toE (d_tup (a_cons (d_toE (d_lst (a_cons (d_cst pe_int fun _ _ => Dq.int _) (a_cons (d_cst pe_int fun _ _ => Dq.int _) a_nil)))) (a_cons (d_cst pe_int fun _ _ => Dq.int _) a_nil)))) a_nil))))))) a_nil)) (ln_cons (ln_cons ln_nil))) (g_tup rfl (gs_cons (g_name (pg_name (i := 2) nd rfl (by first | exact Or.inl rfl | exact Or.inr rfl))) (gs_cons (g_name (pg_name (i := 3) nd rfl (by first | exact Or.inl rfl | exact Or.inr rfl))) gs_nil)) (hl_cons (hl_cons hl_nil)))) (ss_cons (s_set (i := 4) nd rfl (by first | exact Or.inl rfl | exact Or.inr rfl) d_newT) (ss_cons (s_for PassesOwn.never rfl (i_seq (d_toE (d_call ((ok_x_law_every T).mono (by decide)) hr (by rfl) T.g_x_law_every T.F_x_law_every.kp (b_x_law_every T) (a_cons (d_var (pv 2)) (a_cons (d_var (pv 3)) a_nil)) (ln_cons (ln_cons ln_nil))))) (g_name (pg_name (i := 5) nd rfl (by first | exact Or.inl rfl | exact Or.inr rfl))) (ss_cons (s_set (i := 6) nd rfl (by first | exact Or.inl rfl | exact Or.inr rfl) (d_call ((ok_x_law_is_lattice T).mono (by decide)) hr (by rfl) T.g_x_law_is_lattice T.F_x_law_is_lattice.kp (b_x_law_is_lattice T) (a_cons (d_var (pv 5)) a_nil) (ln_cons ln_nil))) (ss_cons (s_if (t_not (t_truth (d_toE (d_call ((ok_x_law_same T 8).mono (by decide)) hr (by rfl) T.g_x_law_same T.F_x_law_same.kp (b_x_law_same T) (a_cons (d_toE (d_call ((ok_is_lattice T).mono (by decide)) hr (by rfl) T.g_is_lattice T.F_is_lattice.kp (b_is_lattice T) (a_cons (d_var (pv 5)) a_nil) (ln_cons ln_nil))) (a_cons (d_var (pv 6)) a_nil)) (ln_cons (ln_cons ln_nil)))) (by intro _; rfl))) (ss_one (s_ret (d_toV (d_cst pe_bl fun _ _ => Dq.bl _)))) ss_nil) (ss_one (s_if (t_truth (d_var (pv 6)) (by intro _; rfl)) (ss_cons (s_set (i := 7) nd rfl (by first | exact Or.inl rfl | exact Or.inr rfl) (d_call ((ok_content_of T).mono (by decide)) hr (by rfl) T.g_content_of T.F_content_of.kp (b_content_of T) (a_cons (d_var (pv 5)) a_nil) (ln_cons ln_nil))) (ss_cons (s_putT (u1 hr.units) (pv 4) (d_var (pv 7)) (d_add (d_toE (d_getT2 (u1 hr.units) (pv 4) (d_var (pv 7)) (d_cst pe_int fun _ _ => Dq.int _) ⟨by rfl, by rfl, by rfl, by rfl⟩)) (d_cst pe_int fun _ _ => Dq.int _))) (ss_cons (s_set (i := 8) nd rfl (by first | exact Or.inl rfl | exact Or.inr rfl) (d_rev (d_var (pv 5)))) (ss_cons (s_set (i := 9) nd rfl (by first | exact Or.inl rfl | exact Or.inr rfl) (d_ty call_tuple_of rc_tuple (by rfl) T.n_tuple (by decide +kernel) (a_cons (d_toE (d_comp (own := [("at", 10), ("many", 11)]) (by rfl) nd (i_enum (by rfl) T.n_enumerate (d_var (pv 7))) (blkOk_by (own := [("at", 10), ("many", 11)]) (N := n_law) (sc := defScope s_law) (by decide +kernel)) (by decide) (fun _ _ _ _ _ => (g_tup rfl (gs_cons (g_name (pg_name (i := 10) nd rfl (by first | exact Or.inl rfl | exact Or.inr rfl))) (gs_cons (g_name (pg_name (i := 11) nd rfl (by first | exact Or.inl rfl | exact Or.inr rfl))) gs_nil)) (hl_cons (hl_cons hl_nil)))) (fun _ _ _ _ _ => (ts_one (t_gt (d_var (pv 11)) (d_cst pe_int fun _ _ => Dq.int _)))) (fun _ _ _ _ _ => (d_toE (d_mulT (d_toE (d_tup (a_cons (d_toE (d_add (d_var (pv 10)) (d_cst pe_int fun _ _ => Dq.int _))) a_nil))) (d_var (pv 11))))))) a_nil))) (ss_one (s_if (t_not (t_truth (d_toE (d_call ((ok_x_law_same T 8).mono (by decide)) hr (by rfl) T.g_x_law_same T.F_x_law_same.kp (b_x_law_same T) (a_cons (d_toE (d_lst (a_cons (d_toE (d_call ((ok_highest_of T).mono (by decide)) hr (by rfl) T.g_highest_of T.F_highest_of.kp (b_highest_of T) (a_cons (d_var (pv 8)) a_nil) (ln_cons ln_nil))) (a_cons (d_toE (d_comp (own := [("i", 12)]) (by rfl) nd (i_range2 (by rfl) T.n_range (a_cons (d_cst pe_int fun _ _ => Dq.int _) (a_cons (d_cst pe_int fun _ _ => Dq.int _) a_nil))) (blkOk_by (own := [("i", 12)]) (N := n_law) (sc := defScope s_law) (by decide +kernel)) (by decide) (fun _ _ _ _ _ => (g_name (pg_name (i := 12) nd rfl (by first | exact Or.inl rfl | exact Or.inr rfl)))) (fun _ _ _ _ _ => ts_nil) (fun _ _ _ _ _ => (d_toE (d_call ((ok_room_up T).mono (by decide)) hr (by rfl) T.g_room_up T.F_room_up.kp (b_room_up T) (a_cons (d_var (pv 8)) (a_cons (d_var (pv 12)) a_nil)) (ln_cons (ln_cons ln_nil))))))) (a_cons (d_toE (d_call ((ok_tableau_of T).mono (by decide)) hr (by rfl) T.g_tableau_of T.F_tableau_of.kp (b_tableau_of T) (a_cons (d_var (pv 8)) a_nil) (ln_cons ln_nil))) a_nil))))) (a_cons (d_toE (d_lst (a_cons (d_toE (d_tup (a_cons (d_var (pv 8)) (a_cons (d_toE (d_tup a_nil)) a_nil)))) (a_cons (d_toE (d_mul (d_toE (d_lst (a_cons (d_cst pe_int fun _ _ => Dq.int _) a_nil))) (d_cst pe_int fun _ _ => Dq.int _))) (a_cons (d_var (pv 9)) a_nil))))) a_nil)) (ln_cons (ln_cons ln_nil)))) (by intro _; rfl))) (ss_one (s_ret (d_toV (d_cst pe_bl fun _ _ => Dq.bl _)))) ss_nil)))))) ss_nil))))) (ss_cons (s_lk 4 (s_for PassesOwn.never rfl (i_keys (pv 4)) (g_name (pg_name (i := 7) nd rfl (by first | exact Or.inl rfl | exact Or.inr rfl))) (ss_cons (s_set (i := 13) nd rfl (by first | exact Or.inl rfl | exact Or.inr rfl) (d_ty call_tuple_of rc_tuple (by rfl) T.n_tuple (by decide +kernel) (a_cons (d_toE (d_comp (own := [("many", 11)]) (by rfl) nd (i_seq (d_var (pv 7))) (blkOk_by (own := [("many", 11)]) (N := n_law) (sc := defScope s_law) (by decide +kernel)) (by decide) (fun _ _ _ _ _ => (g_name (pg_name (i := 11) nd rfl (by first | exact Or.inl rfl | exact Or.inr rfl)))) (fun _ _ _ _ _ => (ts_one (t_gt (d_var (pv 11)) (d_cst pe_int fun _ _ => Dq.int _)))) (fun _ _ _ _ _ => (d_var (pv 11))))) a_nil))) (ss_one (s_if (PW.pt (w_or (t_ne hr.units (d_toE (d_ty call_list_of rc_list (by rfl) T.n_list (by decide +kernel) (a_cons (d_var (pv 7)) a_nil))) (d_toE (d_rev (d_toE (d_blt (cr_sortedIT hr.units) rc_sortedT (by rfl) T.n_sorted (by decide +kernel) (a_cons (d_var (pv 7)) a_nil)))))) (w_or1 (t_ne hr.units (d_toE (d_ixT2 (u1 hr.units) (pv 4) (d_var (pv 7)) (fun _ _ => rfl))) (d_toE (d_call ((ok_x_law_records T).mono (by decide)) hr (by rfl) T.g_x_law_records T.F_x_law_records.kp (b_x_law_records T) (a_cons (d_var (pv 13)) a_nil) (ln_cons ln_nil))))))) (ss_one (s_ret (d_toV (d_cst pe_bl fun _ _ => Dq.bl _)))) ss_nil))))) (ss_one (s_ret (d_call ((ok_x_law_long_right T).mono (by decide)) hr (by rfl) T.g_x_law_long_right T.F_x_law_long_right.kp (b_x_law_long_right T) (a_cons (d_var (pv 1)) a_nil) (ln_cons ln_nil)))))))))
end
end Wk35

set_option Elab.async false
set_option linter.all false
set_option maxRecDepth 100000
set_option maxHeartbeats 2000000
namespace Wk35
open PySem PySem.Spec PyProof.Rows L2 DL
theorem isi_and {d : D} {X : Prop} (h : isDct d = false) (k : X) : isDct d = false ∧ X := ⟨h, k⟩
theorem toE_and {r : Res} {X : Prop} (h : ndR r = true) (k : X) : ndR r = true ∧ X := ⟨h, k⟩
local macro_rules | `(tactic| infer_instance) => `(tactic| with_reducible first
  | (refine mk1 ?_; first | refine ok_var (by with_unfolding_all rfl) ?_ | refine ok_cst ?_ | refine ok_toE ?_ | refine ok_if ?_ | refine ok_and ?_ | refine ok_or ?_)
  | (refine mk2 ?_; first | refine ok_bin ?_ | refine ok_toV ?_ | refine ok_call ?_ | refine ok_blt ?_ | refine ok_lst ?_ | refine ok_tup ?_ | refine ok_not ?_ | refine ok_neg ?_ | refine ok_isi ?_ | refine ok_chain ?_ | refine ok_fCut ?_ | refine ok_un ?_ | refine ok_append ?_ | refine ok_pop ?_ | refine ok_comp ?_ | refine ok_lstR ?_ | refine ok_fnP (by simp only [List.cons_append, List.nil_append, List.length_cons, List.length_nil, List.replicate, Nat.reduceAdd, Nat.reduceSub, Nat.zero_add] <;> with_unfolding_all rfl) ?_)
  | (refine mk3 ?_; first | refine ok_testV ?_ | refine ok_truth ?_ | refine ok_gAnd ?_ | refine ok_gOr ?_ | refine ok_gNot ?_ | refine ok_gYes ?_)
  | (refine mk4 ?_; first | refine ok_cons ?_ | refine ok_nil ?_)
  | (refine mk5 ?_; first | refine ok_seq ?_ | refine ok_ret ?_ | refine ok_sIf ?_ | refine ok_set ?_ | refine ok_expr ?_ | refine ok_next ?_ | refine ok_asg ?_ | refine ok_par ?_ | refine ok_for ?_ | refine ok_setIx ?_ | refine ok_sBrk ?_ | refine ok_sCont ?_)
  | (refine mk6 ?_; first | refine ok_no ?_ | refine ok_at ?_)
  | (refine mk7 ?_; first | refine ok_iSq ?_ | refine ok_iEn ?_ | refine ok_iR1 ?_ | refine ok_iR2 ?_ | refine ok_iZp ?_)
  | (refine mk9 ?_; first | refine ok_look (by with_unfolding_all rfl) ?_)
  | (refine mk8 ?_; first | refine ok_addI ?_ | refine ok_subI ?_ | refine ok_eqI ?_ | refine ok_neI ?_ | refine ok_ltI ?_ | refine ok_leI ?_ | refine ok_gtI ?_ | refine ok_geI ?_ | refine ok_isN (by with_unfolding_all rfl) ?_ | refine ok_one ?_ | refine ok_lenL ?_ | refine ok_lenT ?_ | refine ok_ixL (by with_unfolding_all rfl) ?_ | refine ok_ixT (by with_unfolding_all rfl) ?_ | refine ok_okLen (by simp only [List.length_cons, List.length_nil]; decide) ?_ | refine ok_cutL ?_ | refine ok_cutT ?_ | refine ok_mulI (mulS (.inl (by decide))) ?_ | refine ok_mulI (mulS (.inr (by decide))) ?_ | refine ok_powI (by decide) ?_ | refine ok_modI (by decide) ?_ | refine ok_divI (by decide) ?_ | refine ok_intI ?_ | refine ok_listL ?_ | refine ok_listT ?_ | refine ok_tupleL ?_ | refine ok_tupleT ?_ | refine ok_max2 ?_ | refine ok_min2 ?_ | refine ok_eqB ?_ | refine ok_neB ?_ | refine ok_sRev (by with_unfolding_all rfl) ?_ | refine ok_mulL (by decide) (by simp only [List.length_cons, List.length_nil]; decide) ?_ | refine ok_addT (by simp only [List.length_cons, List.length_nil]; decide) ?_ | refine ok_addL (by simp only [List.length_cons, List.length_nil]; decide) ?_)
  | (refine mkE ?_; first | refine ok_put (by simp only [putV, setR, Slot.pin, List.set_cons_zero, List.set_cons_succ, List.getElem?_cons_zero, List.getElem?_cons_succ, Bool.false_eq_true, if_false] <;> with_unfolding_all rfl) ?_ | refine ok_tgt (by simp only [gTp, hCons, hNil, gNm, putV, Slot.pin, List.set_cons_zero, List.set_cons_succ, List.getElem?_cons_zero, List.getElem?_cons_succ, Bool.false_eq_true, if_false, Option.bind_some] <;> with_unfolding_all rfl) ?_ | refine ok_back (by simp only [back, reb, List.set_cons_zero, List.set_cons_succ, List.getElem?_cons_zero, List.getElem?_cons_succ] <;> with_unfolding_all rfl) ?_)
  | refine toE_and (by with_unfolding_all rfl) ?_ | refine isi_and (by with_unfolding_all rfl) ?_ | refine br_true ?_ | refine br_false ?_ | refine br_yes (by with_unfolding_all rfl) ?_ | refine br_no (by with_unfolding_all rfl) ?_ | refine isB ?_ | refine isBr ?_ | refine isI ?_ | refine isV ?_ | refine isR1 ?_ | refine isR2 ?_ | refine isZL ?_ | refine isZT ?_ | refine isO (by with_unfolding_all rfl) ?_ | refine setE (by simp only [List.set_cons_zero, List.set_cons_succ, Int.reduceToNat] <;> with_unfolding_all rfl) ?_ | refine ok_lent (by simp only [lent, List.getElem?_cons_zero, List.getElem?_cons_succ, Option.map_some, List.any_nil, List.any_cons, isSlot, Bool.false_eq_true, if_false, Bool.or_self, Bool.or_false] <;> with_unfolding_all rfl) ?_ | refine ok_looks (by with_unfolding_all rfl) ?_ | refine ok_truthD (by with_unfolding_all rfl) ?_ | refine ok_frz (by simp only [frz, List.set_cons_zero, List.set_cons_succ, List.getElem?_cons_zero, List.getElem?_cons_succ] <;> with_unfolding_all rfl) ?_ | refine ok_frzs (by simp only [frzs, frz, List.set_cons_zero, List.set_cons_succ, List.getElem?_cons_zero, List.getElem?_cons_succ, Option.bind_some, Option.map_some] <;> with_unfolding_all rfl) ?_ | refine then_ret ?_ | refine turn_next ?_ | refine turn_ret ?_ | refine turn_cont ?_ | refine turn_brk ?_ | refine ok_seqOf (by with_unfolding_all rfl) ?_ | refine ok_rfl (show ixN _ _ = some _ by with_unfolding_all rfl) ?_ | refine fl_next ?_ | refine fnEnd_ret (by simp only [fixO, Slot.pin, Bool.false_eq_true, if_false, if_true] <;> with_unfolding_all rfl) ?_ | refine fnEnd_next (by simp only [fixO, Slot.pin, Bool.false_eq_true, if_false, if_true] <;> with_unfolding_all rfl) ?_)
local macro_rules | `(tactic| nofun) => `(tactic| repeat infer_instance)
local macro_rules | `(tactic| and_intros) => `(tactic| repeat (first | infer_instance | with_reducible refine then_next ?_))
set_option exponentiation.threshold 1000
theorem ok_draw {n : Nat} {f : List D} {many : Int} {P : Res → List Slot → Prop} (hf : Feed n f) (hn : n ≤ 1000000000) (hm : 0 < many ∧ many < 1073741824)
    (k : ∀ g f', 0 ≤ g → g < many → Feed (n + 1) f' → P (.val (.int g)) [.own true (.list f'), .val false (.int many)]) : Ev (m_x_law_draw [.own true (.list f), .val false (.int many)]) P := by
  obtain ⟨a, b, c, rfl, h1, h2, h3, h4⟩ := hf
  unfold m_x_law_draw f_x_law_draw
  and_intros
  refine br_dec (fun h => ?_) fun h => ?_
  · and_intros
    refine ok_modI hm.1 ?_
    and_intros
    refine ok_divI hm ?_
    and_intros
    exact k _ _ (mod_rng hm.1).1 (mod_rng hm.1).2 ⟨_, _, _, rfl, h1, h2, h3, by omega⟩
  · and_intros
    refine ok_mulI (mulW ⟨by omega, by omega⟩ ⟨by omega, by omega⟩) ?_
    and_intros
    refine ok_mulI (mulW (bnd (mul_lt (a := 142) (b := 142) ⟨by omega, by omega⟩ ⟨by omega, by omega⟩)) ⟨by omega, by omega⟩) ?_
    and_intros
    refine ok_mulI (mulW (modW (by decide) (by decide)) (modW (by decide) (by decide))) ?_
    and_intros
    refine ok_modI hm.1 ?_
    and_intros
    exact k _ _ (mod_rng hm.1).1 (mod_rng hm.1).2 ⟨_, _, _, rfl, h1, h2, by omega, by omega⟩
theorem ok_feed {ns : List Int} {k : Int} {P : Res → List Slot → Prop} (hk : 0 ≤ k)
    (h : ∀ f', Feed 0 f' → P (.fresh (.list f')) [.val false (.list (ns.map .int)), .val false (.int k)]) : Ev (m_x_law_feed [.val false (.list (ns.map .int)), .val false (.int k)]) P := by
  unfold m_x_law_feed f_x_law_feed
  and_intros
  refine ok_sumL (cut_map _ _ _ _) ?_
  nofun
  refine then_next ?_
  refine ok_seqK (fun e => ∃ c : Int, e = [.val false (.list (ns.map .int)), .val false (.int k), .val false (.int c)]) ?_ ?_
  · nofun
    refine br_dec (fun hc => ?_) fun hc => ?_
    · nofun
      refine ok_ixL (d := .int (ns.getD k.toNat 0)) ?_ ?_
      · rw [atI_nat _ hk, List.getElem?_map]
        rw [List.length_map] at hc
        rw [List.getD_eq_getElem?_getD, List.getElem?_eq_getElem (by omega)]
        rfl
      nofun
      exact ⟨_, rfl⟩
    · nofun
      exact ⟨_, rfl⟩
  · rintro e ⟨c, rfl⟩
    and_intros
    exact h _ ⟨_, _, _, rfl, (mod_rng (by decide)).1, Int.lt_of_lt_of_le (mod_rng (by decide)).2 (by decide), by decide, by decide⟩
theorem sp_same : ∀ (n : Nat) (d : D), Pl n d → n ≤ 60 → Rt (m_x_law_same (n + 1)) [.val false d, .val false d] (.val (.bool true)) := by
  intro n
  induction n with
  | zero =>
    intro d hc hn
    refine rt_ev ?_
    unfold m_x_law_same b_x_law_same_
    cases d with
    | none => and_intros; exact ⟨rfl, rfl⟩
    | bool b => and_intros; exact ⟨by simp, rfl⟩
    | int i => and_intros; exact ⟨by simp, rfl⟩
    | str x =>
      and_intros
      refine ok_eqD (hc.shaped (by omega)) (hc.shaped (by omega)) ?_
      and_intros
      exact ⟨by rw [eqv_refl _ hc.1], rfl⟩
    | dict x => cases hc.1
    | list l => exact absurd hc.2 (Nat.not_succ_le_zero _)
    | tuple l => exact absurd hc.2 (Nat.not_succ_le_zero _)
  | succ n ih =>
    intro d hc hn
    have ih' : ∀ x, Pl n x → Rt (m_x_law_same (n + 1)) [.val false x, .val false x] (.val (.bool true)) := fun x hx => ih x hx (by omega)
    have sub : ∀ l : List D, (PyData.canLayAll0 l = true) → PyData.depthAll l + 1 ≤ n + 1 → ∀ x ∈ l, Pl n x := fun l h1 h2 x hx => ⟨lay_mem h1 x hx, Nat.le_trans (depth_mem x hx) (by omega)⟩
    clear ih
    refine rt_ev ?_
    unfold m_x_law_same b_x_law_same_
    cases d with
    | none => and_intros; exact ⟨rfl, rfl⟩
    | bool b => and_intros; exact ⟨by simp, rfl⟩
    | int i => and_intros; exact ⟨by simp, rfl⟩
    | str x =>
      and_intros
      refine ok_eqD (hc.shaped (by omega)) (hc.shaped (by omega)) ?_
      and_intros
      exact ⟨by rw [eqv_refl _ hc.1], rfl⟩
    | dict x => cases hc.1
    | list l =>
      and_intros
      refine br_no (by simp) ?_
      and_intros
      rw [zip_self]
      refine ⟨rfl, ok_compN (e0 := [Slot.val false (PyData.list l), Slot.val false (PyData.list l), Slot.dead, Slot.dead]) rfl (fun x hx => ?_) fun e2 he => ?_⟩
      · and_intros
        refine ok_rt (ih' x (sub l hc.1 hc.2 x hx)) ?_
        and_intros
        exact rfl
      · rw [merge_bk he rfl]
        and_intros
        refine ok_eqNil rfl ?_
        and_intros
        exact ⟨rfl, rfl⟩
    | tuple l =>
      and_intros
      refine br_no (by simp) ?_
      and_intros
      rw [zip_self]
      refine ⟨rfl, ok_compN (e0 := [Slot.val false (PyData.tuple l), Slot.val false (PyData.tuple l), Slot.dead, Slot.dead]) rfl (fun x hx => ?_) fun e2 he => ?_⟩
      · and_intros
        refine ok_rt (ih' x (sub l hc.1 hc.2 x hx)) ?_
        and_intros
        exact rfl
      · rw [merge_bk he rfl]
        and_intros
        refine ok_eqNil rfl ?_
        and_intros
        exact ⟨rfl, rfl⟩

end Wk35

set_option Elab.async false
set_option linter.all false
set_option maxRecDepth 100000
set_option maxHeartbeats 4000000
namespace Wk35
open PySem PySem.Spec PyProof.Rows L2 DL
/-! the law's own draws, and its test of equality -/
def p_x_law_feed (s : List Int) (k : Int) : Option (List D) := if 0 ≤ k then (match m_x_law_feed [.val false (eL eI s), .val false (eI k)] with
  | some (.fresh (.list f), _) => some f
  | _ => none) else none
theorem pf_ex (s : List Int) (k : Int) (hk : 0 ≤ k) : ∃ f, Feed 0 f ∧ m_x_law_feed [.val false (eL eI s), .val false (eI k)] = some (.fresh (eF f), [.val false (eL eI s), .val false (eI k)]) := by
  obtain ⟨z, o, h1, f, h2, rfl, rfl⟩ := ok_feed (ns := s) (k := k) (P := fun z o => ∃ f, Feed 0 f ∧ z = .fresh (.list f) ∧ o = [.val false (eL eI s), .val false (eI k)]) hk fun f' hf => ⟨f', hf, rfl, rfl⟩
  exact ⟨f, h2, h1⟩
theorem pf_spec (s : List Int) (k : Int) (hk : 0 ≤ k) : ∃ f, Feed 0 f ∧ p_x_law_feed s k = some f := by
  obtain ⟨f, h1, h2⟩ := pf_ex s k hk
  refine ⟨f, h1, ?_⟩
  unfold p_x_law_feed
  rw [if_pos hk, h2]
  rfl
theorem sp_x_law_feed (s : List Int) (k : Int) (r : List D) (h : p_x_law_feed s k = some r) : m_x_law_feed [.val false (eL eI s), .val false (eI k)] = some (.fresh (eF r), [.val false (eL eI s), .val false (eI k)]) := by
  by_cases hk : 0 ≤ k
  · obtain ⟨f, h1, h2⟩ := pf_ex s k hk
    unfold p_x_law_feed at h
    rw [if_pos hk, h2] at h
    have e : f = r := Option.some.inj h
    rw [← e]
    exact h2
  · unfold p_x_law_feed at h
    rw [if_neg hk] at h
    cases h
def FeedB : List D → Bool
  | [.int _, .int b, .int c] => decide (0 ≤ b ∧ b < 2 ^ 140 ∧ 0 ≤ c ∧ c ≤ 1000000000)
  | _ => false
theorem feedB {f : List D} (h : FeedB f = true) : Feed 1000000000 f := by
  unfold FeedB at h
  split at h
  · rename_i a b c
    obtain ⟨h1, h2, h3, h4⟩ := of_decide_eq_true h
    exact ⟨a, b, c, rfl, h1, h2, h3, h4⟩
  · cases h
theorem feedB_of {n : Nat} {f : List D} (h : Feed n f) (hn : n ≤ 1000000000) : FeedB f = true := by
  obtain ⟨a, b, c, rfl, h1, h2, h3, h4⟩ := h
  exact decide_eq_true ⟨h1, h2, h3, by omega⟩
def p_x_law_draw (f : List D) (many : Int) : Option (Int × List D) := if FeedB f = true ∧ 0 < many ∧ many < 1073741824 then (match m_x_law_draw [.own true (eF f), .val false (eI many)] with
  | some (.val (.int g), .own _ (.list f') :: _) => some (g, f')
  | _ => none) else none
theorem pd_ex {n : Nat} {f : List D} {many : Int} (hf : Feed n f) (hn : n ≤ 1000000000) (hm : 0 < many ∧ many < 1073741824) :
    ∃ g f', 0 ≤ g ∧ g < many ∧ Feed (n + 1) f' ∧ m_x_law_draw [.own true (eF f), .val false (eI many)] = some (.val (eI g), [.own true (eF f'), .val false (eI many)]) := by
  obtain ⟨z, o, h1, g, f', h2, h3, h4, rfl, rfl⟩ := ok_draw (P := fun z o => ∃ g f', 0 ≤ g ∧ g < many ∧ Feed (n + 1) f' ∧ z = .val (.int g) ∧ o = [.own true (.list f'), .val false (.int many)]) hf hn hm fun g f' h1 h2 h3 => ⟨g, f', h1, h2, h3, rfl, rfl⟩
  exact ⟨g, f', h2, h3, h4, h1⟩
theorem pd_spec {n : Nat} {f : List D} {many : Int} (hf : Feed n f) (hn : n ≤ 1000000000) (hm : 0 < many ∧ many < 1073741824) : ∃ g f', p_x_law_draw f many = some (g, f') ∧ 0 ≤ g ∧ g < many ∧ Feed (n + 1) f' := by
  obtain ⟨g, f', h1, h2, h3, h4⟩ := pd_ex hf hn hm
  refine ⟨g, f', ?_, h1, h2, h3⟩
  unfold p_x_law_draw
  rw [if_pos ⟨feedB_of hf hn, hm⟩, h4]
  rfl
theorem sp_x_law_draw (f : List D) (many : Int) (r : Int × List D) (h : p_x_law_draw f many = some r) : m_x_law_draw [.own true (eF f), .val false (eI many)] = some (.val (eI r.1), [.own true (eF r.2), .val false (eI many)]) := by
  by_cases c : FeedB f = true ∧ 0 < many ∧ many < 1073741824
  · obtain ⟨g, f', h1, h2, h3, h4⟩ := pd_ex (feedB c.1) (Nat.le_refl _) c.2
    unfold p_x_law_draw at h
    rw [if_pos c, h4] at h
    have e : (g, f') = r := Option.some.inj h
    rw [← e]
    exact h4
  · unfold p_x_law_draw at h
    rw [if_neg c] at h
    cases h
theorem sp_x_law_same {α : Type} [DecidableEq α] (f : α → D) [q : EncOk f] (a b : α) (v : Bool) (h : sameO a b = some v) (hn : q.n ≤ 7 := by decide) : m_x_law_same 8 [.val false (f a), .val false (f b)] = some (.val (eB v), [.val false (f a), .val false (f b)]) := by
  unfold sameO at h
  split at h
  · rename_i e
    subst e
    cases h
    exact sp_same 7 (f a) ((q.pl a).mono hn) (by decide)
  · cases h

def p_x_law_one_0 (a_feed : (List D)) (a_things : (List ((List Int) × Int))) : Option (((List Int) × Int) × (List D)) :=
  (p_x_law_draw a_feed ((List.length a_things : Nat) : Int)).bind fun v1 =>
  (atI a_things v1.1).bind fun v2 =>
  some (v2, v1.2)
theorem sp_x_law_one_0 (a_feed : (List D)) (a_things : (List ((List Int) × Int))) (r : (((List Int) × Int) × (List D))) (h : p_x_law_one_0 a_feed a_things = some r) : m_x_law_one [.own true (eF a_feed), .val false ((eL (eP2 (eL eI) eI)) a_things)] = some (.val ((eP2 (eL eI) eI) r.1), [.own true (eF r.2), .val false ((eL (eP2 (eL eI) eI)) a_things)]) := by
  refine ev_fn ?_
  unfold p_x_law_one_0 at h
  unfold m_x_law_one f_x_law_one
  refine ok_fnP (e0 := [.own true (eF a_feed), .val false ((eL (eP2 (eL eI) eI)) a_things)]) rfl ?_
  refine ok_ret ?_
  refine ok_bin ?_
  refine ok_var rfl ?_
  refine ok_toE ?_
  refine ok_call ?_
  refine ok_cons ?_
  refine ok_var rfl ?_
  refine ok_cons ?_
  refine ok_toE ?_
  refine ok_blt ?_
  refine ok_cons ?_
  refine ok_var rfl ?_
  refine ok_nil ?_
  refine ok_looks (d := [(eL (eP2 (eL eI) eI)) a_things]) rfl ?_
  refine okt_lenL (f := (eP2 (eL eI) eI)) (xs := a_things) ?_
  refine ⟨rfl, ?_⟩
  refine ok_nil ?_
  refine ok_lent (d := [.own true (eF a_feed), .val false (eI ((List.length a_things : Nat) : Int))]) rfl ?_
  refine okh_call h (fun v hv => sp_x_law_draw a_feed ((List.length a_things : Nat) : Int) v hv) fun v1 h => ?_
  refine ok_back (d := [_, _]) rfl ?_
  refine ⟨rfl, ?_⟩
  refine ok_look rfl ?_
  refine ok_look rfl ?_
  refine okh_ixL (f := (eP2 (eL eI) eI)) (xs := a_things) (i := v1.1) h fun v2 h => ?_
  cases h
  exact fnEnd_ret rfl ⟨rfl, rfl⟩
def p_x_law_every (a_letters : (List Int)) (a_most : Int) : Option (List (List Int)) :=
  (rngO 0 a_most).bind fun r1 =>
  (forS (σ := (List (List Int)) × (List (List Int))) (fun s3 x4 =>
  (forS (σ := (List (List Int))) (fun s8 x9 =>
  (compG (fun x13 =>
  (addO x9 [x13]).bind fun v17 =>
  some (some v17)) a_letters).bind fun v14 =>
  (addO s8 v14).bind fun v11 =>
  some v11) s3.2 ([] : (List (List Int)))).bind fun s8 =>
  (addO s3.1 s8).bind fun v18 =>
  some (v18, s8)) r1 ([([] : (List Int))], [([] : (List Int))])).bind fun s3 =>
  some s3.1
theorem sp_x_law_every (a_letters : (List Int)) (a_most : Int) (r : (List (List Int))) (h : p_x_law_every a_letters a_most = some r) : m_x_law_every [.val false ((eL eI) a_letters), .val false (eI a_most)] = some (.val ((eL (eT eI)) r), [.val false ((eL eI) a_letters), .val false (eI a_most)]) := by
  refine ev_fn ?_
  unfold p_x_law_every at h
  unfold m_x_law_every f_x_law_every
  refine ok_fnP (e0 := [.val false ((eL eI) a_letters), .val false (eI a_most), .dead, .dead, .dead, .dead, .dead, .dead]) rfl ?_
  refine ok_seq ?_
  refine ok_sFz ?_
  refine ok_sFz ?_
  refine ok_par ?_
  refine ok_lst ?_
  refine ok_cons ?_
  refine ok_toE ?_
  refine ok_tup ?_
  refine ok_nil ?_
  refine ok_frzs (d := []) (e' := [_, _, _, _, _, _, _, _]) rfl ?_
  refine ok_okLen (by simp only [List.length_cons, List.length_nil]; decide) ?_
  refine ⟨rfl, ?_⟩
  refine ok_nil ?_
  refine ok_frzs (d := [(eT eI) ([] : (List Int))]) (e' := [_, _, _, _, _, _, _, _]) rfl ?_
  refine ok_okLen (by simp only [List.length_cons, List.length_nil]; decide) ?_
  refine ok_lst ?_
  refine ok_cons ?_
  refine ok_toE ?_
  refine ok_tup ?_
  refine ok_nil ?_
  refine ok_frzs (d := []) (e' := [_, _, _, _, _, _, _, _]) rfl ?_
  refine ok_okLen (by simp only [List.length_cons, List.length_nil]; decide) ?_
  refine ⟨rfl, ?_⟩
  refine ok_nil ?_
  refine ok_frzs (d := [(eT eI) ([] : (List Int))]) (e' := [_, _, _, _, _, _, _, _]) rfl ?_
  refine ok_okLen (by simp only [List.length_cons, List.length_nil]; decide) ?_
  refine ok_put (d := [_, _, _, _, _, _, _, _]) rfl ?_
  refine ok_put (d := [_, _, _, _, _, _, _, _]) rfl ?_
  refine ⟨_, rfl, ?_⟩
  refine ok_frz (e' := [_, _, _, _, _, _, _, _]) rfl ?_
  refine ⟨_, rfl, ?_⟩
  refine ok_frz (e' := [_, _, _, _, _, _, _, _]) rfl ?_
  refine then_next ?_
  refine ok_seq ?_
  refine ok_for ?_
  refine okh_R1 ?_
  refine ok_cons ?_
  refine ok_var rfl ?_
  refine ok_nil ?_
  refine ok_looks (d := [eI a_most]) rfl ?_
  obtain ⟨r1, hr2, h⟩ := bS h
  refine ⟨a_most, r1, rfl, hr2, ?_⟩
  refine okh_forS (σ := (List (List Int)) × (List (List Int))) (fun (s3 : (List (List Int)) × (List (List Int))) (e : En) => ∃ j5_turn j6_longer j7_word : Slot, e = [.val false ((eL eI) a_letters), .val false (eI a_most), .val false ((eL (eT eI)) s3.1), .val false ((eL (eT eI)) s3.2), j5_turn, j6_longer, j7_word, .dead] ∧ j5_turn.pin = false ∧ j6_longer.pin = false ∧ j7_word.pin = false) (fun s3 x4 e s' h he => ?_) (xs := r1) (s0 := ([([] : (List Int))], [([] : (List Int))])) h (⟨.dead, .dead, .dead, rfl, rfl, rfl, rfl⟩) (fun s3 e h he => ?_)
  ·
    obtain ⟨j5_turn, j6_longer, j7_word, rfl, hp_j5_turn, hp_j6_longer, hp_j7_word⟩ := he
    refine ok_tgt (d := [.val false ((eL eI) a_letters), .val false (eI a_most), .val false ((eL (eT eI)) s3.1), .val false ((eL (eT eI)) s3.2), .val false (eI x4), j6_longer, j7_word, .dead]) (by simp [gTp, hCons, hNil, gNm, putV, pinV, pinO, pinD, eP2, eP3, eP4, hp_j5_turn] <;> rfl) ?_
    refine ok_seq ?_
    refine ok_set ?_
    refine ok_lst ?_
    refine ok_nil ?_
    refine ok_frzs (d := []) (e' := [_, _, _, _, _, _, _, _]) rfl ?_
    refine ok_okLen (by simp only [List.length_cons, List.length_nil]; decide) ?_
    refine ok_put (d := [.val false ((eL eI) a_letters), .val false (eI a_most), .val false ((eL (eT eI)) s3.1), .val false ((eL (eT eI)) s3.2), .val false (eI x4), .own false ((eL (eT eI)) ([] : (List (List Int)))), j7_word, .dead]) (by simp [putV, setR, hp_j6_longer] <;> rfl) ?_
    refine then_next ?_
    refine ok_seq ?_
    refine ok_for ?_
    refine okt_sqL (f := (eT eI)) ?_
    refine ok_var rfl ?_
    refine ok_frz (e' := [_, _, _, _, _, _, _, _]) rfl ?_
    refine ⟨s3.2, rfl, ?_⟩
    refine okh_forS (σ := (List (List Int))) (fun (s8 : (List (List Int))) (e : En) => ∃ j10_word : Slot, e = [.val false ((eL eI) a_letters), .val false (eI a_most), .val false ((eL (eT eI)) s3.1), .val false ((eL (eT eI)) s3.2), .val false (eI x4), .own false ((eL (eT eI)) s8), j10_word, .dead] ∧ j10_word.pin = false) (fun s8 x9 e s' h he => ?_) (xs := s3.2) (s0 := ([] : (List (List Int)))) h (⟨j7_word, rfl, hp_j7_word⟩) (fun s8 e h he => ?_)
    ·
      obtain ⟨j10_word, rfl, hp_j10_word⟩ := he
      refine ok_tgt (d := [.val false ((eL eI) a_letters), .val false (eI a_most), .val false ((eL (eT eI)) s3.1), .val false ((eL (eT eI)) s3.2), .val false (eI x4), .own false ((eL (eT eI)) s8), .val false ((eT eI) x9), .dead]) (by simp [gTp, hCons, hNil, gNm, putV, pinV, pinO, pinD, eP2, eP3, eP4, hp_j10_word] <;> rfl) ?_
      refine ok_expr ?_
      refine okh_extend (g := (eT eI)) (xs0 := s8) rfl ?_
      refine okh_fComp (en := eI) (eT eI) ?_
      refine okt_sqL (f := eI) ?_
      refine ok_var rfl ?_
      refine ok_frz (e' := [_, _, _, _, _, _, _, _]) rfl ?_
      refine ⟨a_letters, rfl, ?_⟩
      obtain ⟨v14, hv15, h⟩ := bS h
      refine ⟨a_letters, _, [.val false ((eL eI) a_letters), .val false (eI a_most), .val false ((eL (eT eI)) s3.1), .val false ((eL (eT eI)) s3.2), .val false (eI x4), .own false ((eL (eT eI)) s8), .val false ((eT eI) x9), .dead], v14, rfl, rfl, hv15, rfl, fun x13 o16 h => ?_, ?_⟩
      ·
        refine ok_tgt (d := [_, _, _, _, _, _, _, _]) rfl ?_
        refine ok_gYes ?_
        refine ⟨fun _ => ?_, fun hc => nomatch hc⟩
        refine ok_toE ?_
        refine ok_bin ?_
        refine ok_var rfl ?_
        refine ok_toE ?_
        refine ok_tup ?_
        refine ok_cons ?_
        refine ok_var rfl ?_
        refine ok_nil ?_
        refine ok_frzs (d := [eI x13]) (e' := [_, _, _, _, _, _, _, _]) rfl ?_
        refine ok_okLen (by simp only [List.length_cons, List.length_nil]; decide) ?_
        refine ⟨rfl, ?_⟩
        refine ok_look rfl ?_
        refine ok_look rfl ?_
        refine okh_addT (f := eI) (xs := x9) (ys := [x13]) h fun v17 h => ?_
        refine ⟨rfl, ?_⟩
        refine ok_frz (e' := [_, _, _, _, _, _, _, _]) rfl ?_
        cases h
        exact ⟨⟨_, rfl, rfl⟩, rfl⟩
      obtain ⟨v11, hv12, h⟩ := bS h
      refine ⟨s8, v14, v11, [_, _, _, _, _, _, _, _], ⟨rfl, rfl⟩, hv12, rfl, ?_⟩
      cases h
      exact turnS_next (⟨_, rfl, rfl⟩)
    obtain ⟨j10_word, rfl, hp_j10_word⟩ := he
    refine then_next ?_
    refine ok_seq ?_
    refine ok_set ?_
    refine ok_toV ?_
    refine ok_var rfl ?_
    refine ok_frz (e' := [_, _, _, _, _, _, _, _]) rfl ?_
    refine ok_put (d := [_, _, _, _, _, _, _, _]) rfl ?_
    refine then_next ?_
    refine ok_sFz ?_
    refine ok_set ?_
    refine ok_bin ?_
    refine ok_var rfl ?_
    refine ok_var rfl ?_
    refine ok_look rfl ?_
    refine ok_look rfl ?_
    refine okh_addL (f := (eT eI)) (xs := s3.1) (ys := s8) h fun v18 h => ?_
    refine ok_put (d := [_, _, _, _, _, _, _, _]) rfl ?_
    refine ⟨_, rfl, ?_⟩
    refine ok_frz (e' := [_, _, _, _, _, _, _, _]) rfl ?_
    cases h
    exact turnS_next (⟨_, _, _, rfl, rfl, rfl, hp_j10_word⟩)
  obtain ⟨j5_turn, j6_longer, j7_word, rfl, hp_j5_turn, hp_j6_longer, hp_j7_word⟩ := he
  refine then_next ?_
  refine ok_ret ?_
  refine ok_toV ?_
  refine ok_var rfl ?_
  refine ok_frz (e' := [_, _, _, _, _, _, _, _]) rfl ?_
  cases h
  exact fnEnd_ret rfl ⟨rfl, rfl⟩
def p_x_law_is_lattice (a_word : (List Int)) : Option Bool :=
  (repO [(0 : Int)] (10 : Int)).bind fun v1 =>
  (forP (σ := (List Int)) (ρ := Bool) (fun s2 x3 =>
  (atI s2 x3).bind fun v7 =>
  (setO s2 x3 (v7 + (1 : Int))).bind fun v5 =>
  (if (decide ((1 : Int) < x3)) = true then
  (atI v5 x3).bind fun v10 =>
  (atI v5 (x3 - (1 : Int))).bind fun v11 =>
  some (decide (v11 < v10))
  else
  some false).bind fun v8 =>
  if v8 = true then
  some (.rt false)
  else
  some (.nx v5)) a_word v1).bind (retK fun s2 =>
  some true)
theorem sp_x_law_is_lattice (a_word : (List Int)) (r : Bool) (h : p_x_law_is_lattice a_word = some r) : m_x_law_is_lattice [.val false ((eT eI) a_word)] = some (.val (eB r), [.val false ((eT eI) a_word)]) := by
  refine ev_fn ?_
  unfold p_x_law_is_lattice at h
  unfold m_x_law_is_lattice f_x_law_is_lattice
  refine ok_fnP (e0 := [.val false ((eT eI) a_word), .dead, .dead]) rfl ?_
  refine ok_seq ?_
  refine ok_set ?_
  refine ok_bin ?_
  refine ok_toE ?_
  refine ok_lst ?_
  refine ok_cons ?_
  refine ok_cst ?_
  refine ok_nil ?_
  refine ok_frzs (d := [eI (0 : Int)]) (e' := [_, _, _]) rfl ?_
  refine ok_okLen (by simp only [List.length_cons, List.length_nil]; decide) ?_
  refine ⟨rfl, ?_⟩
  refine ok_cst ?_
  refine ok_look rfl ?_
  refine ok_look rfl ?_
  refine okh_repL (f := eI) (xs := [(0 : Int)]) (n := (10 : Int)) h fun v1 h => ?_
  refine ok_put (d := [_, _, _]) rfl ?_
  refine then_next ?_
  refine ok_seq ?_
  refine ok_for ?_
  refine okt_sqT (f := eI) ?_
  refine ok_var rfl ?_
  refine ok_frz (e' := [_, _, _]) rfl ?_
  refine ⟨a_word, rfl, ?_⟩
  refine okh_forP (σ := (List Int)) (ρ := Bool) (fun (s2 : (List Int)) (e : En) => ∃ j4_letter : Slot, e = [.val false ((eT eI) a_word), .own false ((eL eI) s2), j4_letter] ∧ j4_letter.pin = false) (fun v z e => z = .val (eB v) ∧ fixO [.val false ((eT eI) a_word)] e = [.val false ((eT eI) a_word)]) (xs := a_word) (s0 := v1) h (⟨.dead, rfl, rfl⟩) (fun s2 x3 e t h he => ?_) (fun s2 e h he => ?_) (fun z e hz => ?_)
  ·
    obtain ⟨j4_letter, rfl, hp_j4_letter⟩ := he
    refine ok_tgt (d := [.val false ((eT eI) a_word), .own false ((eL eI) s2), .val false (eI x3)]) (by simp [gTp, hCons, hNil, gNm, putV, pinV, pinO, pinD, eP2, eP3, eP4, hp_j4_letter] <;> rfl) ?_
    refine ok_seq ?_
    refine okh_setIx (g := eI) ?_
    refine ok_bin ?_
    refine ok_toE ?_
    refine ok_bin ?_
    refine ok_var rfl ?_
    refine ok_var rfl ?_
    refine ok_look rfl ?_
    refine ok_look rfl ?_
    refine okh_ixL (f := eI) (xs := s2) (i := x3) h fun v7 h => ?_
    refine ⟨rfl, ?_⟩
    refine ok_cst ?_
    refine ok_look rfl ?_
    refine ok_look rfl ?_
    refine ok_addI ?_
    refine ⟨(v7 + (1 : Int)), _, _, ⟨rfl, rfl⟩, ?_⟩
    refine ok_var rfl ?_
    obtain ⟨v5, hv6, h⟩ := bS h
    refine ⟨_, s2, x3, v5, [_, _, _], ⟨rfl, rfl⟩, hv6, rfl, ?_⟩
    refine then_next ?_
    refine ok_sIf ?_
    obtain ⟨v8, hv9, h⟩ := bS h
    refine ok_testJ v8 ?_ ?_
    ·
      replace h := hv9
      refine ok_gAnd ?_
      refine ok_testV ?_
      refine ok_bin ?_
      refine ok_var rfl ?_
      refine ok_cst ?_
      refine ok_look rfl ?_
      refine ok_look rfl ?_
      refine ok_gtI ?_
      refine isBr ?_
      refine br_ite h (fun hc h => ?_) (fun hc h => ?_)
      ·
        refine ok_testV ?_
        refine ok_bin ?_
        refine ok_toE ?_
        refine ok_bin ?_
        refine ok_var rfl ?_
        refine ok_var rfl ?_
        refine ok_look rfl ?_
        refine ok_look rfl ?_
        refine okh_ixL (f := eI) (xs := v5) (i := x3) h fun v10 h => ?_
        refine ⟨rfl, ?_⟩
        refine ok_toE ?_
        refine ok_bin ?_
        refine ok_var rfl ?_
        refine ok_toE ?_
        refine ok_bin ?_
        refine ok_var rfl ?_
        refine ok_cst ?_
        refine ok_look rfl ?_
        refine ok_look rfl ?_
        refine ok_subI ?_
        refine ⟨rfl, ?_⟩
        refine ok_look rfl ?_
        refine ok_look rfl ?_
        refine okh_ixL (f := eI) (xs := v5) (i := (x3 - (1 : Int))) h fun v11 h => ?_
        refine ⟨rfl, ?_⟩
        refine ok_look rfl ?_
        refine ok_look rfl ?_
        refine ok_gtI ?_
        refine isBr ?_
        cases h; exact ⟨rfl, rfl⟩
      ·
        cases h; exact ⟨rfl, rfl⟩
    refine br_ite h (fun hc h => ?_) (fun hc h => ?_)
    ·
      refine ok_ret ?_
      refine ok_toV ?_
      refine ok_cst ?_
      refine ok_frz (e' := [_, _, _]) rfl ?_
      cases h
      exact turnP_ret ⟨rfl, rfl⟩
    ·
      refine ok_next ?_
      cases h
      exact turnP_next (⟨_, rfl, rfl⟩)
  ·
    obtain ⟨j4_letter, rfl, hp_j4_letter⟩ := he
    refine then_next ?_
    refine ok_ret ?_
    refine ok_toV ?_
    refine ok_cst ?_
    refine ok_frz (e' := [_, _, _]) rfl ?_
    cases h
    exact fnEnd_ret rfl ⟨rfl, rfl⟩
  ·
    refine then_ret ?_
    exact hz
def p_is_integer (a_thing : Int) : Option Bool :=
  some (true && (!false))
theorem sp_is_integer (a_thing : Int) (r : Bool) (h : p_is_integer a_thing = some r) : m_is_integer [.val false (eI a_thing)] = some (.val (eB r), [.val false (eI a_thing)]) := by
  refine ev_fn ?_
  unfold p_is_integer at h
  unfold m_is_integer f_is_integer
  refine ok_fnP (e0 := [.val false (eI a_thing)]) rfl ?_
  refine ok_ret ?_
  refine ok_joinV (.bool (true && (!false))) ?_ ?_
  ·
    refine ok_and ?_
    refine ok_toE ?_
    refine okt_fIsi ?_
    refine ok_var rfl ?_
    refine ok_look rfl ?_
    refine ⟨true, by with_unfolding_all rfl, by with_unfolding_all rfl, ?_⟩
    refine ⟨rfl, ?_⟩
    refine ok_look rfl ?_
    refine isB ?_
    refine ⟨fun hc => ?_, fun hc => ?_⟩
    ·
      rw [hc]
      rw [Bool.true_and]
      refine ok_toE ?_
      refine ok_not ?_
      refine ok_toE ?_
      refine okt_fIsi ?_
      refine ok_var rfl ?_
      refine ok_look rfl ?_
      refine ⟨false, by with_unfolding_all rfl, by with_unfolding_all rfl, ?_⟩
      refine ⟨rfl, ?_⟩
      refine ok_look rfl ?_
      refine isB ?_
      refine ⟨rfl, ?_⟩
      exact ⟨rfl, rfl⟩
    ·
      rw [hc]
      exact ⟨rfl, rfl⟩
  cases h
  exact fnEnd_ret rfl ⟨rfl, rfl⟩
def p_is_within (a_thing : Int) (a_low : Int) (a_high : Int) : Option Bool :=
  ((p_is_integer a_thing).bind fun v3 =>
  if v3 = true then
  some ((decide (a_low ≤ a_thing)) && (decide (a_thing ≤ a_high)))
  else
  some false).bind fun v1 =>
  some v1
theorem sp_is_within (a_thing : Int) (a_low : Int) (a_high : Int) (r : Bool) (h : p_is_within a_thing a_low a_high = some r) : m_is_within [.val false (eI a_thing), .val false (eI a_low), .val false (eI a_high)] = some (.val (eB r), [.val false (eI a_thing), .val false (eI a_low), .val false (eI a_high)]) := by
  refine ev_fn ?_
  unfold p_is_within at h
  unfold m_is_within f_is_within
  refine ok_fnP (e0 := [.val false (eI a_thing), .val false (eI a_low), .val false (eI a_high)]) rfl ?_
  refine ok_ret ?_
  obtain ⟨v1, hv2, h⟩ := bS h
  refine ok_joinV2 (.bool v1) [.val false (eI a_thing), .val false (eI a_low), .val false (eI a_high)] ?_ ?_
  ·
    replace h := hv2
    refine ok_and ?_
    refine ok_toE ?_
    refine ok_call ?_
    refine ok_cons ?_
    refine ok_var rfl ?_
    refine ok_nil ?_
    refine ok_lent (d := [.val false (eI a_thing)]) rfl ?_
    refine okh_call h (fun v hv => sp_is_integer a_thing v hv) fun v3 h => ?_
    refine ok_back (d := [_, _, _]) rfl ?_
    refine ⟨rfl, ?_⟩
    refine ok_look rfl ?_
    refine isB ?_
    refine br_ite h (fun hc h => ?_) (fun hc h => ?_)
    ·
      refine ok_toE ?_
      refine ok_joinF (.bool ((decide (a_low ≤ a_thing)) && (decide (a_thing ≤ a_high)))) ?_ ?_
      ·
        refine ok_chain ?_
        refine ok_var rfl ?_
        refine ok_var rfl ?_
        refine ok_look rfl ?_
        refine ok_look rfl ?_
        refine ok_leI ?_
        refine isBr ?_
        refine ⟨fun hc => ?_, fun hc => ?_⟩
        ·
          refine ok_var rfl ?_
          refine ok_look rfl ?_
          refine ok_look rfl ?_
          refine ok_leI ?_
          rw [hc]; exact ⟨rfl, rfl⟩
        ·
          rw [hc]; exact ⟨rfl, rfl⟩
      refine ⟨rfl, ?_⟩
      cases h; rfl
    ·
      cases h; rfl
  cases h
  exact fnEnd_ret rfl ⟨rfl, rfl⟩
def p_are_letters (a_thing : (List Int)) (a_most : Int) : Option Bool :=
  if ((!true) || (decide (a_most < ((List.length a_thing : Nat) : Int)))) = true then
  some false
  else
  (compG (fun x1 =>
  (p_is_within x1 (1 : Int) (9 : Int)).bind fun v5 =>
  some (some v5)) a_thing).bind fun v2 =>
  some (List.all v2 id)
theorem sp_are_letters (a_thing : (List Int)) (a_most : Int) (r : Bool) (h : p_are_letters a_thing a_most = some r) : m_are_letters [.val false ((eT eI) a_thing), .val false (eI a_most)] = some (.val (eB r), [.val false ((eT eI) a_thing), .val false (eI a_most)]) := by
  refine ev_fn ?_
  unfold p_are_letters at h
  unfold m_are_letters f_are_letters
  refine ok_fnP (e0 := [.val false ((eT eI) a_thing), .val false (eI a_most), .dead]) rfl ?_
  refine ok_seq ?_
  refine ok_sIf ?_
  refine ok_testJ ((!true) || (decide (a_most < ((List.length a_thing : Nat) : Int)))) ?_ ?_
  ·
    refine ok_gOr ?_
    refine ok_gNot ?_
    refine ok_truth ?_
    refine ok_toE ?_
    refine okt_fIsi ?_
    refine ok_var rfl ?_
    refine ok_look rfl ?_
    refine ⟨true, by with_unfolding_all rfl, by with_unfolding_all rfl, ?_⟩
    refine ⟨rfl, ?_⟩
    refine ok_look rfl ?_
    refine ok_truthD rfl ?_
    refine ⟨fun hc => ?_, fun hc => ?_⟩
    ·
      rw [hc]
      exact ⟨rfl, rfl⟩
    ·
      rw [hc]
      rw [Bool.false_or]
      refine ok_testV ?_
      refine ok_bin ?_
      refine ok_toE ?_
      refine ok_blt ?_
      refine ok_cons ?_
      refine ok_var rfl ?_
      refine ok_nil ?_
      refine ok_looks (d := [(eT eI) a_thing]) rfl ?_
      refine okt_lenT (f := eI) (xs := a_thing) ?_
      refine ⟨rfl, ?_⟩
      refine ok_var rfl ?_
      refine ok_look rfl ?_
      refine ok_look rfl ?_
      refine ok_gtI ?_
      refine isBr ?_
      exact ⟨rfl, rfl⟩
  refine br_ite h (fun hc h => ?_) (fun hc h => ?_)
  ·
    refine ok_ret ?_
    refine ok_toV ?_
    refine ok_cst ?_
    refine ok_frz (e' := [_, _, _]) rfl ?_
    refine then_ret ?_
    cases h
    exact fnEnd_ret rfl ⟨rfl, rfl⟩
  ·
    refine ok_next ?_
    refine then_next ?_
    refine ok_ret ?_
    refine ok_blt ?_
    refine ok_cons ?_
    refine ok_toE ?_
    refine okh_fComp (en := eI) eB ?_
    refine okt_sqT (f := eI) ?_
    refine ok_var rfl ?_
    refine ok_frz (e' := [_, _, _]) rfl ?_
    refine ⟨a_thing, rfl, ?_⟩
    obtain ⟨v2, hv3, h⟩ := bS h
    refine ⟨a_thing, _, [.val false ((eT eI) a_thing), .val false (eI a_most), .dead], v2, rfl, rfl, hv3, rfl, fun x1 o4 h => ?_, ?_⟩
    ·
      refine ok_tgt (d := [_, _, _]) rfl ?_
      refine ok_gYes ?_
      refine ⟨fun _ => ?_, fun hc => nomatch hc⟩
      refine ok_toE ?_
      refine ok_call ?_
      refine ok_cons ?_
      refine ok_var rfl ?_
      refine ok_cons ?_
      refine ok_cst ?_
      refine ok_cons ?_
      refine ok_cst ?_
      refine ok_nil ?_
      refine ok_lent (d := [.val false (eI x1), .val false (eI (1 : Int)), .val false (eI (9 : Int))]) rfl ?_
      refine okh_call h (fun v hv => sp_is_within x1 (1 : Int) (9 : Int) v hv) fun v5 h => ?_
      refine ok_back (d := [_, _, _]) rfl ?_
      refine ⟨rfl, ?_⟩
      refine ok_frz (e' := [_, _, _]) rfl ?_
      cases h
      exact ⟨⟨_, rfl, rfl⟩, rfl⟩
    refine ⟨rfl, ?_⟩
    refine ok_nil ?_
    refine ok_looks (d := [(eL eB) v2]) rfl ?_
    refine okt_allL (xs := v2) ?_
    cases h
    exact fnEnd_ret rfl ⟨rfl, rfl⟩
def p_is_word_form (a_thing : (List Int)) : Option Bool :=
  (p_are_letters a_thing (30 : Int)).bind fun v1 =>
  some v1
theorem sp_is_word_form (a_thing : (List Int)) (r : Bool) (h : p_is_word_form a_thing = some r) : m_is_word_form [.val false ((eT eI) a_thing)] = some (.val (eB r), [.val false ((eT eI) a_thing)]) := by
  refine ev_fn ?_
  unfold p_is_word_form at h
  unfold m_is_word_form f_is_word_form
  refine ok_fnP (e0 := [.val false ((eT eI) a_thing)]) rfl ?_
  refine ok_ret ?_
  refine ok_call ?_
  refine ok_cons ?_
  refine ok_var rfl ?_
  refine ok_cons ?_
  refine ok_cst ?_
  refine ok_nil ?_
  refine ok_lent (d := [.val false ((eT eI) a_thing), .val false (eI (30 : Int))]) rfl ?_
  refine okh_call h (fun v hv => sp_are_letters a_thing (30 : Int) v hv) fun v1 h => ?_
  refine ok_back (d := [_]) rfl ?_
  cases h
  exact fnEnd_ret rfl ⟨rfl, rfl⟩
def p_need_word (a_word : (List Int)) : Option Unit :=
  (p_is_word_form a_word).bind fun v1 =>
  if (!v1) = true then
  none
  else
  some ()
theorem sp_need_word (a_word : (List Int)) (r : Unit) (h : p_need_word a_word = some r) : m_need_word [.val false ((eT eI) a_word)] = some (.val (eU r), [.val false ((eT eI) a_word)]) := by
  refine ev_fn ?_
  unfold p_need_word at h
  unfold m_need_word f_need_word
  refine ok_fnP (e0 := [.val false ((eT eI) a_word)]) rfl ?_
  refine ok_sIf ?_
  refine ok_gNot ?_
  refine ok_truth ?_
  refine ok_toE ?_
  refine ok_call ?_
  refine ok_cons ?_
  refine ok_var rfl ?_
  refine ok_nil ?_
  refine ok_lent (d := [.val false ((eT eI) a_word)]) rfl ?_
  refine okh_call h (fun v hv => sp_is_word_form a_word v hv) fun v1 h => ?_
  refine ok_back (d := [_]) rfl ?_
  refine ⟨rfl, ?_⟩
  refine ok_look rfl ?_
  refine ok_truthD rfl ?_
  refine br_ite h (fun hc h => ?_) (fun hc h => ?_)
  ·
    cases h
  ·
    refine ok_next ?_
    cases h
    exact fnEnd_next rfl ⟨rfl, rfl⟩
def p_is_lattice (a_word : (List Int)) : Option Bool :=
  (p_need_word a_word).bind fun v1 =>
  (repO [(0 : Int)] ((9 : Int) + (1 : Int))).bind fun v2 =>
  (forP (σ := (List Int)) (ρ := Bool) (fun s3 x4 =>
  (atI s3 x4).bind fun v6 =>
  (setO s3 x4 (v6 + (1 : Int))).bind fun v8 =>
  (if (decide ((1 : Int) < x4)) = true then
  (atI v8 x4).bind fun v12 =>
  (atI v8 (x4 - (1 : Int))).bind fun v13 =>
  some (decide (v13 < v12))
  else
  some false).bind fun v10 =>
  if v10 = true then
  some (.rt false)
  else
  some (.nx v8)) a_word v2).bind (retK fun s3 =>
  some true)
theorem sp_is_lattice (a_word : (List Int)) (r : Bool) (h : p_is_lattice a_word = some r) : m_is_lattice [.val false ((eT eI) a_word)] = some (.val (eB r), [.val false ((eT eI) a_word)]) := by
  refine ev_fn ?_
  unfold p_is_lattice at h
  unfold m_is_lattice f_is_lattice
  refine ok_fnP (e0 := [.val false ((eT eI) a_word), .dead, .dead]) rfl ?_
  refine ok_seq ?_
  refine ok_expr ?_
  refine ok_call ?_
  refine ok_cons ?_
  refine ok_var rfl ?_
  refine ok_nil ?_
  refine ok_lent (d := [.val false ((eT eI) a_word)]) rfl ?_
  refine okh_call h (fun v hv => sp_need_word a_word v hv) fun v1 h => ?_
  refine ok_back (d := [_, _, _]) rfl ?_
  refine then_next ?_
  refine ok_seq ?_
  refine ok_set ?_
  refine ok_bin ?_
  refine ok_toE ?_
  refine ok_lst ?_
  refine ok_cons ?_
  refine ok_cst ?_
  refine ok_nil ?_
  refine ok_frzs (d := [eI (0 : Int)]) (e' := [_, _, _]) rfl ?_
  refine ok_okLen (by simp only [List.length_cons, List.length_nil]; decide) ?_
  refine ⟨rfl, ?_⟩
  refine ok_toE ?_
  refine ok_bin ?_
  refine ok_cst ?_
  refine ok_cst ?_
  refine ok_look rfl ?_
  refine ok_look rfl ?_
  refine ok_addI ?_
  refine ⟨rfl, ?_⟩
  refine ok_look rfl ?_
  refine ok_look rfl ?_
  refine okh_repL (f := eI) (xs := [(0 : Int)]) (n := ((9 : Int) + (1 : Int))) h fun v2 h => ?_
  refine ok_put (d := [_, _, _]) rfl ?_
  refine then_next ?_
  refine ok_seq ?_
  refine ok_for ?_
  refine okt_sqT (f := eI) ?_
  refine ok_var rfl ?_
  refine ok_frz (e' := [_, _, _]) rfl ?_
  refine ⟨a_word, rfl, ?_⟩
  refine okh_forP (σ := (List Int)) (ρ := Bool) (fun (s3 : (List Int)) (e : En) => ∃ j5_letter : Slot, e = [.val false ((eT eI) a_word), .own false ((eL eI) s3), j5_letter] ∧ j5_letter.pin = false) (fun v z e => z = .val (eB v) ∧ fixO [.val false ((eT eI) a_word)] e = [.val false ((eT eI) a_word)]) (xs := a_word) (s0 := v2) h (⟨.dead, rfl, rfl⟩) (fun s3 x4 e t h he => ?_) (fun s3 e h he => ?_) (fun z e hz => ?_)
  ·
    obtain ⟨j5_letter, rfl, hp_j5_letter⟩ := he
    refine ok_tgt (d := [.val false ((eT eI) a_word), .own false ((eL eI) s3), .val false (eI x4)]) (by simp [gTp, hCons, hNil, gNm, putV, pinV, pinO, pinD, eP2, eP3, eP4, hp_j5_letter] <;> rfl) ?_
    refine ok_seq ?_
    refine okh_augIx rfl ?_
    refine ok_var rfl ?_
    obtain ⟨v6, hv7, h⟩ := bS h
    refine ⟨x4, _, s3, v6, ⟨rfl, rfl⟩, hv7, ?_⟩
    refine ok_cst ?_
    obtain ⟨v8, hv9, h⟩ := bS h
    refine ⟨(1 : Int), _, s3, v8, [_, _, _], ⟨rfl, rfl⟩, hv9, rfl, ?_⟩
    refine then_next ?_
    refine ok_sIf ?_
    obtain ⟨v10, hv11, h⟩ := bS h
    refine ok_testJ v10 ?_ ?_
    ·
      replace h := hv11
      refine ok_gAnd ?_
      refine ok_testV ?_
      refine ok_bin ?_
      refine ok_var rfl ?_
      refine ok_cst ?_
      refine ok_look rfl ?_
      refine ok_look rfl ?_
      refine ok_gtI ?_
      refine isBr ?_
      refine br_ite h (fun hc h => ?_) (fun hc h => ?_)
      ·
        refine ok_testV ?_
        refine ok_bin ?_
        refine ok_toE ?_
        refine ok_bin ?_
        refine ok_var rfl ?_
        refine ok_var rfl ?_
        refine ok_look rfl ?_
        refine ok_look rfl ?_
        refine okh_ixL (f := eI) (xs := v8) (i := x4) h fun v12 h => ?_
        refine ⟨rfl, ?_⟩
        refine ok_toE ?_
        refine ok_bin ?_
        refine ok_var rfl ?_
        refine ok_toE ?_
        refine ok_bin ?_
        refine ok_var rfl ?_
        refine ok_cst ?_
        refine ok_look rfl ?_
        refine ok_look rfl ?_
        refine ok_subI ?_
        refine ⟨rfl, ?_⟩
        refine ok_look rfl ?_
        refine ok_look rfl ?_
        refine okh_ixL (f := eI) (xs := v8) (i := (x4 - (1 : Int))) h fun v13 h => ?_
        refine ⟨rfl, ?_⟩
        refine ok_look rfl ?_
        refine ok_look rfl ?_
        refine ok_gtI ?_
        refine isBr ?_
        cases h; exact ⟨rfl, rfl⟩
      ·
        cases h; exact ⟨rfl, rfl⟩
    refine br_ite h (fun hc h => ?_) (fun hc h => ?_)
    ·
      refine ok_ret ?_
      refine ok_toV ?_
      refine ok_cst ?_
      refine ok_frz (e' := [_, _, _]) rfl ?_
      cases h
      exact turnP_ret ⟨rfl, rfl⟩
    ·
      refine ok_next ?_
      cases h
      exact turnP_next (⟨_, rfl, rfl⟩)
  ·
    obtain ⟨j5_letter, rfl, hp_j5_letter⟩ := he
    refine then_next ?_
    refine ok_ret ?_
    refine ok_toV ?_
    refine ok_cst ?_
    refine ok_frz (e' := [_, _, _]) rfl ?_
    cases h
    exact fnEnd_ret rfl ⟨rfl, rfl⟩
  ·
    refine then_ret ?_
    exact hz
def p_content_in (a_word : (List Int)) : Option (List Int) :=
  (rngO (1 : Int) ((9 : Int) + (1 : Int))).bind fun r1 =>
  (compG (fun x3 =>
  (mapG (fun x7 => (decide (x7 = x3))) (fun x7 => x7) a_word).bind fun v8 =>
  some (some ((List.length v8 : Nat) : Int))) r1).bind fun v4 =>
  some v4
theorem sp_content_in (a_word : (List Int)) (r : (List Int)) (h : p_content_in a_word = some r) : m_content_in [.val false ((eT eI) a_word)] = some (.val ((eT eI) r), [.val false ((eT eI) a_word)]) := by
  refine ev_fn ?_
  unfold p_content_in at h
  unfold m_content_in f_content_in
  refine ok_fnP (e0 := [.val false ((eT eI) a_word), .dead, .dead]) rfl ?_
  refine ok_ret ?_
  refine ok_blt ?_
  refine ok_cons ?_
  refine ok_toE ?_
  refine okh_fComp (en := eI) eI ?_
  refine okh_R2 ?_
  refine ok_cons ?_
  refine ok_cst ?_
  refine ok_cons ?_
  refine ok_toE ?_
  refine ok_bin ?_
  refine ok_cst ?_
  refine ok_cst ?_
  refine ok_look rfl ?_
  refine ok_look rfl ?_
  refine ok_addI ?_
  refine ⟨rfl, ?_⟩
  refine ok_nil ?_
  refine ok_looks (d := [eI (1 : Int), eI ((9 : Int) + (1 : Int))]) rfl ?_
  obtain ⟨r1, hr2, h⟩ := bS h
  refine ⟨(1 : Int), ((9 : Int) + (1 : Int)), r1, rfl, hr2, ?_⟩
  obtain ⟨v4, hv5, h⟩ := bS h
  refine ⟨r1, _, [.val false ((eT eI) a_word), .dead, .dead], v4, rfl, rfl, hv5, rfl, fun x3 o6 h => ?_, ?_⟩
  ·
    refine ok_tgt (d := [_, _, _]) rfl ?_
    refine ok_gYes ?_
    refine ⟨fun _ => ?_, fun hc => nomatch hc⟩
    refine ok_toE ?_
    refine ok_blt ?_
    refine ok_cons ?_
    refine ok_toE ?_
    refine okt_fComp (en := eI) eI ?_
    refine okt_sqT (f := eI) ?_
    refine ok_var rfl ?_
    refine ok_frz (e' := [_, _, _]) rfl ?_
    refine ⟨a_word, rfl, ?_⟩
    obtain ⟨v8, hv9, h⟩ := bS h
    refine ⟨a_word, fun x7 => (decide (x7 = x3)), fun x7 => x7, [.val false ((eT eI) a_word), .dead, .val false (eI x3)], v8, rfl, rfl, hv9, rfl, fun x7 => ?_, ?_⟩
    ·
      refine ok_tgt (d := [_, _, _]) rfl ?_
      refine ok_testV ?_
      refine ok_bin ?_
      refine ok_var rfl ?_
      refine ok_var rfl ?_
      refine ok_look rfl ?_
      refine ok_look rfl ?_
      refine okt_eq (f := eI) (a := x7) (b := x3) ?_
      refine isBr ?_
      refine ⟨rfl, fun hc => ?_, fun hc => rfl⟩
      refine ok_var rfl ?_
      refine ok_frz (e' := [_, _, _]) rfl ?_
      exact ⟨rfl, rfl⟩
    refine ⟨rfl, ?_⟩
    refine ok_nil ?_
    refine ok_looks (d := [(eL eI) v8]) rfl ?_
    refine okt_lenL (f := eI) (xs := v8) ?_
    refine ⟨rfl, ?_⟩
    refine ok_frz (e' := [_, _, _]) rfl ?_
    cases h
    exact ⟨⟨_, rfl, rfl⟩, rfl⟩
  refine ⟨rfl, ?_⟩
  refine ok_nil ?_
  refine ok_looks (d := [(eL eI) v4]) rfl ?_
  refine okt_tupleL (f := eI) (xs := v4) ?_
  cases h
  exact fnEnd_ret rfl ⟨rfl, rfl⟩
def p_content_of (a_word : (List Int)) : Option (List Int) :=
  (p_need_word a_word).bind fun v1 =>
  (p_content_in a_word).bind fun v2 =>
  some v2
theorem sp_content_of (a_word : (List Int)) (r : (List Int)) (h : p_content_of a_word = some r) : m_content_of [.val false ((eT eI) a_word)] = some (.val ((eT eI) r), [.val false ((eT eI) a_word)]) := by
  refine ev_fn ?_
  unfold p_content_of at h
  unfold m_content_of f_content_of
  refine ok_fnP (e0 := [.val false ((eT eI) a_word)]) rfl ?_
  refine ok_seq ?_
  refine ok_expr ?_
  refine ok_call ?_
  refine ok_cons ?_
  refine ok_var rfl ?_
  refine ok_nil ?_
  refine ok_lent (d := [.val false ((eT eI) a_word)]) rfl ?_
  refine okh_call h (fun v hv => sp_need_word a_word v hv) fun v1 h => ?_
  refine ok_back (d := [_]) rfl ?_
  refine then_next ?_
  refine ok_ret ?_
  refine ok_call ?_
  refine ok_cons ?_
  refine ok_var rfl ?_
  refine ok_nil ?_
  refine ok_lent (d := [.val false ((eT eI) a_word)]) rfl ?_
  refine okh_call h (fun v hv => sp_content_in a_word v hv) fun v2 h => ?_
  refine ok_back (d := [_]) rfl ?_
  cases h
  exact fnEnd_ret rfl ⟨rfl, rfl⟩
def p_left_places (a_word : (List Int)) (a_i : Int) : Option ((List Int) × (List Int)) :=
  (forS (σ := (List Int) × (List Int)) (fun s1 x2 =>
  (if (decide (x2.2 = (a_i + (1 : Int)))) = true then
  (appO s1.1 x2.1).bind fun v7 =>
  some (v7, s1.2)
  else
  (if ((decide (x2.2 = a_i)) && (!decide (s1.1 = ([] : (List Int))))) = true then
  (popO s1.1).bind fun v11 =>
  some (v11.2, s1.2)
  else
  (if (decide (x2.2 = a_i)) = true then
  (appO s1.2 x2.1).bind fun v15 =>
  some v15
  else
  some s1.2).bind fun j13 =>
  some (s1.1, j13)).bind fun j9 =>
  some (j9.1, j9.2)).bind fun j5 =>
  some (j5.1, j5.2)) (enumF 0 a_word) (([] : (List Int)), ([] : (List Int)))).bind fun s1 =>
  some (s1.2, s1.1)
theorem sp_left_places (a_word : (List Int)) (a_i : Int) (r : ((List Int) × (List Int))) (h : p_left_places a_word a_i = some r) : m_left_places [.val false ((eT eI) a_word), .val false (eI a_i)] = some (.val ((eP2 (eL eI) (eL eI)) r), [.val false ((eT eI) a_word), .val false (eI a_i)]) := by
  refine ev_fn ?_
  unfold p_left_places at h
  unfold m_left_places f_left_places
  refine ok_fnP (e0 := [.val false ((eT eI) a_word), .val false (eI a_i), .dead, .dead, .dead, .dead]) rfl ?_
  refine ok_seq ?_
  refine ok_par ?_
  refine ok_lst ?_
  refine ok_nil ?_
  refine ok_frzs (d := []) (e' := [_, _, _, _, _, _]) rfl ?_
  refine ok_okLen (by simp only [List.length_cons, List.length_nil]; decide) ?_
  refine ok_lst ?_
  refine ok_nil ?_
  refine ok_frzs (d := []) (e' := [_, _, _, _, _, _]) rfl ?_
  refine ok_okLen (by simp only [List.length_cons, List.length_nil]; decide) ?_
  refine ok_put (d := [_, _, _, _, _, _]) rfl ?_
  refine ok_put (d := [_, _, _, _, _, _]) rfl ?_
  refine then_next ?_
  refine ok_seq ?_
  refine ok_for ?_
  refine okt_enum (f := eI) ?_
  refine okt_sqT (f := eI) ?_
  refine ok_var rfl ?_
  refine ok_frz (e' := [_, _, _, _, _, _]) rfl ?_
  refine ⟨a_word, rfl, ?_⟩
  refine ⟨a_word, rfl, ?_⟩
  refine okh_forS (σ := (List Int) × (List Int)) (fun (s1 : (List Int) × (List Int)) (e : En) => ∃ j3_place j4_letter : Slot, e = [.val false ((eT eI) a_word), .val false (eI a_i), .own false ((eL eI) s1.1), .own false ((eL eI) s1.2), j3_place, j4_letter] ∧ j3_place.pin = false ∧ j4_letter.pin = false) (fun s1 x2 e s' h he => ?_) (xs := (enumF 0 a_word)) (s0 := (([] : (List Int)), ([] : (List Int)))) h (⟨.dead, .dead, rfl, rfl, rfl⟩) (fun s1 e h he => ?_)
  ·
    obtain ⟨j3_place, j4_letter, rfl, hp_j3_place, hp_j4_letter⟩ := he
    refine ok_tgt (d := [.val false ((eT eI) a_word), .val false (eI a_i), .own false ((eL eI) s1.1), .own false ((eL eI) s1.2), .val false (eI x2.1), .val false (eI x2.2)]) (by simp [gTp, hCons, hNil, gNm, putV, pinV, pinO, pinD, eP2, eP3, eP4, hp_j4_letter, hp_j3_place] <;> rfl) ?_
    obtain ⟨j5, hj6, h⟩ := bS h
    refine ok_if2 (fun e => e = [.val false ((eT eI) a_word), .val false (eI a_i), .own false ((eL eI) j5.1), .own false ((eL eI) j5.2), .val false (eI x2.1), .val false (eI x2.2)]) ?_ ?_
    ·
      replace h := hj6
      refine ok_sIf ?_
      refine ok_testV ?_
      refine ok_bin ?_
      refine ok_var rfl ?_
      refine ok_toE ?_
      refine ok_bin ?_
      refine ok_var rfl ?_
      refine ok_cst ?_
      refine ok_look rfl ?_
      refine ok_look rfl ?_
      refine ok_addI ?_
      refine ⟨rfl, ?_⟩
      refine ok_look rfl ?_
      refine ok_look rfl ?_
      refine okt_eq (f := eI) (a := x2.2) (b := (a_i + (1 : Int))) ?_
      refine isBr ?_
      refine br_ite h (fun hc h => ?_) (fun hc h => ?_)
      ·
        refine ok_expr ?_
        refine okh_append (g := eI) (xs0 := s1.1) rfl ?_
        refine ok_var rfl ?_
        refine ok_frz (e' := [_, _, _, _, _, _]) rfl ?_
        obtain ⟨v7, hv8, h⟩ := bS h
        refine ⟨x2.1, s1.1, v7, [_, _, _, _, _, _], ⟨rfl, rfl⟩, hv8, rfl, ?_⟩
        cases h
        exact ⟨_, rfl, rfl⟩
      ·
        obtain ⟨j9, hj10, h⟩ := bS h
        refine ok_if2 (fun e => e = [.val false ((eT eI) a_word), .val false (eI a_i), .own false ((eL eI) j9.1), .own false ((eL eI) j9.2), .val false (eI x2.1), .val false (eI x2.2)]) ?_ ?_
        ·
          replace h := hj10
          refine ok_sIf ?_
          refine ok_testJ ((decide (x2.2 = a_i)) && (!decide (s1.1 = ([] : (List Int))))) ?_ ?_
          ·
            refine ok_gAnd ?_
            refine ok_testV ?_
            refine ok_bin ?_
            refine ok_var rfl ?_
            refine ok_var rfl ?_
            refine ok_look rfl ?_
            refine ok_look rfl ?_
            refine okt_eq (f := eI) (a := x2.2) (b := a_i) ?_
            refine isBr ?_
            refine ⟨fun hc => ?_, fun hc => ?_⟩
            ·
              rw [hc]
              rw [Bool.true_and]
              refine ok_testV ?_
              refine ok_bin ?_
              refine ok_var rfl ?_
              refine ok_toE ?_
              refine ok_lst ?_
              refine ok_nil ?_
              refine ok_frzs (d := []) (e' := [_, _, _, _, _, _]) rfl ?_
              refine ok_okLen (by simp only [List.length_cons, List.length_nil]; decide) ?_
              refine ⟨rfl, ?_⟩
              refine ok_look rfl ?_
              refine ok_look rfl ?_
              refine okt_ne (f := (eL eI)) (a := s1.1) (b := ([] : (List Int))) ?_
              refine isBr ?_
              exact ⟨rfl, rfl⟩
            ·
              rw [hc]
              exact ⟨rfl, rfl⟩
          refine br_ite h (fun hc h => ?_) (fun hc h => ?_)
          ·
            refine ok_expr ?_
            obtain ⟨v11, hv12, h⟩ := bS h
            refine okh_pop (g := eI) (xs := s1.1) v11 [_, _, _, _, _, _] rfl hv12 rfl ?_
            cases h
            exact ⟨_, rfl, rfl⟩
          ·
            obtain ⟨j13, hj14, h⟩ := bS h
            refine ok_if2 (fun e => e = [.val false ((eT eI) a_word), .val false (eI a_i), .own false ((eL eI) s1.1), .own false ((eL eI) j13), .val false (eI x2.1), .val false (eI x2.2)]) ?_ ?_
            ·
              replace h := hj14
              refine ok_sIf ?_
              refine ok_testV ?_
              refine ok_bin ?_
              refine ok_var rfl ?_
              refine ok_var rfl ?_
              refine ok_look rfl ?_
              refine ok_look rfl ?_
              refine okt_eq (f := eI) (a := x2.2) (b := a_i) ?_
              refine isBr ?_
              refine br_ite h (fun hc h => ?_) (fun hc h => ?_)
              ·
                refine ok_expr ?_
                refine okh_append (g := eI) (xs0 := s1.2) rfl ?_
                refine ok_var rfl ?_
                refine ok_frz (e' := [_, _, _, _, _, _]) rfl ?_
                obtain ⟨v15, hv16, h⟩ := bS h
                refine ⟨x2.1, s1.2, v15, [_, _, _, _, _, _], ⟨rfl, rfl⟩, hv16, rfl, ?_⟩
                cases h
                exact ⟨_, rfl, rfl⟩
              ·
                refine ok_next ?_
                cases h
                exact ⟨_, rfl, rfl⟩
            rintro _ rfl
            cases h
            exact ⟨_, rfl, rfl⟩
        rintro _ rfl
        cases h
        exact ⟨_, rfl, rfl⟩
    rintro _ rfl
    cases h
    exact turnS_next (⟨_, _, rfl, rfl, rfl⟩)
  obtain ⟨j3_place, j4_letter, rfl, hp_j3_place, hp_j4_letter⟩ := he
  refine then_next ?_
  refine ok_ret ?_
  refine ok_tup ?_
  refine ok_cons ?_
  refine ok_var rfl ?_
  refine ok_cons ?_
  refine ok_var rfl ?_
  refine ok_nil ?_
  refine ok_frzs (d := [(eL eI) s1.2, (eL eI) s1.1]) (e' := [_, _, _, _, _, _]) rfl ?_
  refine ok_okLen (by simp only [List.length_cons, List.length_nil]; decide) ?_
  cases h
  exact fnEnd_ret rfl ⟨rfl, rfl⟩
def p_first_raising (a_word : (List Int)) : Option (Option Int) :=
  (rngO (1 : Int) (9 : Int)).bind fun r1 =>
  (compG (fun x3 =>
  (p_left_places a_word x3).bind fun v7 =>
  if (!decide (v7.2 = ([] : (List Int)))) = true then
  some (some x3)
  else some none) r1).bind fun v4 =>
  (if (!decide (v4 = ([] : (List Int)))) = true then
  (atI v4 (0 : Int)).bind fun v10 =>
  some (some v10)
  else
  some (none : (Option Int))).bind fun v8 =>
  some v8
theorem sp_first_raising (a_word : (List Int)) (r : (Option Int)) (h : p_first_raising a_word = some r) : m_first_raising [.val false ((eT eI) a_word)] = some (.val ((eO eI) r), [.val false ((eT eI) a_word)]) := by
  refine ev_fn ?_
  unfold p_first_raising at h
  unfold m_first_raising f_first_raising
  refine ok_fnP (e0 := [.val false ((eT eI) a_word), .dead, .dead]) rfl ?_
  refine ok_seq ?_
  refine ok_sFz ?_
  refine ok_set ?_
  refine okh_fComp (en := eI) eI ?_
  refine okh_R2 ?_
  refine ok_cons ?_
  refine ok_cst ?_
  refine ok_cons ?_
  refine ok_cst ?_
  refine ok_nil ?_
  refine ok_looks (d := [eI (1 : Int), eI (9 : Int)]) rfl ?_
  obtain ⟨r1, hr2, h⟩ := bS h
  refine ⟨(1 : Int), (9 : Int), r1, rfl, hr2, ?_⟩
  obtain ⟨v4, hv5, h⟩ := bS h
  refine ⟨r1, _, [.val false ((eT eI) a_word), .dead, .dead], v4, rfl, rfl, hv5, rfl, fun x3 o6 h => ?_, ?_⟩
  ·
    refine ok_tgt (d := [_, _, _]) rfl ?_
    refine ok_testV ?_
    refine ok_bin ?_
    refine ok_toE ?_
    refine ok_bin ?_
    refine ok_toE ?_
    refine ok_call ?_
    refine ok_cons ?_
    refine ok_var rfl ?_
    refine ok_cons ?_
    refine ok_var rfl ?_
    refine ok_nil ?_
    refine ok_lent (d := [.val false ((eT eI) a_word), .val false (eI x3)]) rfl ?_
    refine okh_call h (fun v hv => sp_left_places a_word x3 v hv) fun v7 h => ?_
    refine ok_back (d := [_, _, _]) rfl ?_
    refine ⟨rfl, ?_⟩
    refine ok_cst ?_
    refine ok_look rfl ?_
    refine ok_look rfl ?_
    refine ok_ixT (d := (eL eI) v7.2) rfl ?_
    refine ⟨rfl, ?_⟩
    refine ok_toE ?_
    refine ok_lst ?_
    refine ok_nil ?_
    refine ok_frzs (d := []) (e' := [_, _, _]) rfl ?_
    refine ok_okLen (by simp only [List.length_cons, List.length_nil]; decide) ?_
    refine ⟨rfl, ?_⟩
    refine ok_look rfl ?_
    refine ok_look rfl ?_
    refine okt_ne (f := (eL eI)) (a := v7.2) (b := ([] : (List Int))) ?_
    refine isBr ?_
    refine br_ite h (fun hc h => ?_) (fun hc h => ?_)
    ·
      refine ok_var rfl ?_
      refine ok_frz (e' := [_, _, _]) rfl ?_
      cases h
      exact ⟨⟨_, rfl, rfl⟩, rfl⟩
    ·
      cases h
      exact ⟨rfl, rfl⟩
  refine ok_put (d := [_, _, _]) rfl ?_
  refine ⟨_, rfl, ?_⟩
  refine ok_frz (e' := [_, _, _]) rfl ?_
  refine then_next ?_
  refine ok_ret ?_
  obtain ⟨v8, hv9, h⟩ := bS h
  refine ok_joinV2 ((eO eI) v8) [.val false ((eT eI) a_word), .val false ((eL eI) v4), .dead] ?_ ?_
  ·
    replace h := hv9
    refine ok_if ?_
    refine ok_testV ?_
    refine ok_bin ?_
    refine ok_var rfl ?_
    refine ok_toE ?_
    refine ok_lst ?_
    refine ok_nil ?_
    refine ok_frzs (d := []) (e' := [_, _, _]) rfl ?_
    refine ok_okLen (by simp only [List.length_cons, List.length_nil]; decide) ?_
    refine ⟨rfl, ?_⟩
    refine ok_look rfl ?_
    refine ok_look rfl ?_
    refine okt_ne (f := (eL eI)) (a := v4) (b := ([] : (List Int))) ?_
    refine isBr ?_
    refine br_ite h (fun hc h => ?_) (fun hc h => ?_)
    ·
      refine ok_toE ?_
      refine ok_bin ?_
      refine ok_var rfl ?_
      refine ok_cst ?_
      refine ok_look rfl ?_
      refine ok_look rfl ?_
      refine okh_ixL (f := eI) (xs := v4) (i := (0 : Int)) h fun v10 h => ?_
      refine ⟨rfl, ?_⟩
      cases h; rfl
    ·
      refine ok_cst ?_
      cases h; rfl
  cases h
  exact fnEnd_ret rfl ⟨rfl, rfl⟩
def p_with_letter (a_word : (List Int)) (a_place : Int) (a_letter : Int) : Option (List Int) :=
  (addO (cutG a_word none (some a_place)) [a_letter]).bind fun v1 =>
  (addO v1 (cutG a_word (some (a_place + (1 : Int))) none)).bind fun v2 =>
  some v2
theorem sp_with_letter (a_word : (List Int)) (a_place : Int) (a_letter : Int) (r : (List Int)) (h : p_with_letter a_word a_place a_letter = some r) : m_with_letter [.val false ((eT eI) a_word), .val false (eI a_place), .val false (eI a_letter)] = some (.val ((eT eI) r), [.val false ((eT eI) a_word), .val false (eI a_place), .val false (eI a_letter)]) := by
  refine ev_fn ?_
  unfold p_with_letter at h
  unfold m_with_letter f_with_letter
  refine ok_fnP (e0 := [.val false ((eT eI) a_word), .val false (eI a_place), .val false (eI a_letter)]) rfl ?_
  refine ok_ret ?_
  refine ok_bin ?_
  refine ok_toE ?_
  refine ok_bin ?_
  refine ok_toE ?_
  refine ok_fCut ?_
  refine ok_var rfl ?_
  refine ok_no ?_
  refine ok_at ?_
  refine ok_var rfl ?_
  refine ok_look rfl ?_
  refine isI ?_
  refine ok_look rfl ?_
  refine okt_cutT (f := eI) (xs := a_word) (lo := none) (hi := (some a_place)) ?_
  refine ⟨rfl, ?_⟩
  refine ok_toE ?_
  refine ok_tup ?_
  refine ok_cons ?_
  refine ok_var rfl ?_
  refine ok_nil ?_
  refine ok_frzs (d := [eI a_letter]) (e' := [_, _, _]) rfl ?_
  refine ok_okLen (by simp only [List.length_cons, List.length_nil]; decide) ?_
  refine ⟨rfl, ?_⟩
  refine ok_look rfl ?_
  refine ok_look rfl ?_
  refine okh_addT (f := eI) (xs := (cutG a_word none (some a_place))) (ys := [a_letter]) h fun v1 h => ?_
  refine ⟨rfl, ?_⟩
  refine ok_toE ?_
  refine ok_fCut ?_
  refine ok_var rfl ?_
  refine ok_at ?_
  refine ok_toE ?_
  refine ok_bin ?_
  refine ok_var rfl ?_
  refine ok_cst ?_
  refine ok_look rfl ?_
  refine ok_look rfl ?_
  refine ok_addI ?_
  refine ⟨rfl, ?_⟩
  refine ok_look rfl ?_
  refine isI ?_
  refine ok_no ?_
  refine ok_look rfl ?_
  refine okt_cutT (f := eI) (xs := a_word) (lo := (some (a_place + (1 : Int)))) (hi := none) ?_
  refine ⟨rfl, ?_⟩
  refine ok_look rfl ?_
  refine ok_look rfl ?_
  refine okh_addT (f := eI) (xs := v1) (ys := (cutG a_word (some (a_place + (1 : Int))) none)) h fun v2 h => ?_
  cases h
  exact fnEnd_ret rfl ⟨rfl, rfl⟩
def p_raised_word (a_word : (List Int)) (a_i : Int) : Option (Option (List Int)) :=
  (p_left_places a_word a_i).bind fun v1 =>
  (if (!decide (v1.2 = ([] : (List Int)))) = true then
  (atI v1.2 (0 : Int)).bind fun v4 =>
  (p_with_letter a_word v4 a_i).bind fun v5 =>
  some (some v5)
  else
  some (none : (Option (List Int)))).bind fun v2 =>
  some v2
theorem sp_raised_word (a_word : (List Int)) (a_i : Int) (r : (Option (List Int))) (h : p_raised_word a_word a_i = some r) : m_raised_word [.val false ((eT eI) a_word), .val false (eI a_i)] = some (.val ((eO (eT eI)) r), [.val false ((eT eI) a_word), .val false (eI a_i)]) := by
  refine ev_fn ?_
  unfold p_raised_word at h
  unfold m_raised_word f_raised_word
  refine ok_fnP (e0 := [.val false ((eT eI) a_word), .val false (eI a_i), .dead]) rfl ?_
  refine ok_seq ?_
  refine ok_sFz ?_
  refine ok_set ?_
  refine ok_bin ?_
  refine ok_toE ?_
  refine ok_call ?_
  refine ok_cons ?_
  refine ok_var rfl ?_
  refine ok_cons ?_
  refine ok_var rfl ?_
  refine ok_nil ?_
  refine ok_lent (d := [.val false ((eT eI) a_word), .val false (eI a_i)]) rfl ?_
  refine okh_call h (fun v hv => sp_left_places a_word a_i v hv) fun v1 h => ?_
  refine ok_back (d := [_, _, _]) rfl ?_
  refine ⟨rfl, ?_⟩
  refine ok_cst ?_
  refine ok_look rfl ?_
  refine ok_look rfl ?_
  refine ok_ixT (d := (eL eI) v1.2) rfl ?_
  refine ok_put (d := [_, _, _]) rfl ?_
  refine ⟨_, rfl, ?_⟩
  refine ok_frz (e' := [_, _, _]) rfl ?_
  refine then_next ?_
  refine ok_ret ?_
  obtain ⟨v2, hv3, h⟩ := bS h
  refine ok_joinV2 ((eO (eT eI)) v2) [.val false ((eT eI) a_word), .val false (eI a_i), .val false ((eL eI) v1.2)] ?_ ?_
  ·
    replace h := hv3
    refine ok_if ?_
    refine ok_testV ?_
    refine ok_bin ?_
    refine ok_var rfl ?_
    refine ok_toE ?_
    refine ok_lst ?_
    refine ok_nil ?_
    refine ok_frzs (d := []) (e' := [_, _, _]) rfl ?_
    refine ok_okLen (by simp only [List.length_cons, List.length_nil]; decide) ?_
    refine ⟨rfl, ?_⟩
    refine ok_look rfl ?_
    refine ok_look rfl ?_
    refine okt_ne (f := (eL eI)) (a := v1.2) (b := ([] : (List Int))) ?_
    refine isBr ?_
    refine br_ite h (fun hc h => ?_) (fun hc h => ?_)
    ·
      refine ok_toE ?_
      refine ok_call ?_
      refine ok_cons ?_
      refine ok_var rfl ?_
      refine ok_cons ?_
      refine ok_toE ?_
      refine ok_bin ?_
      refine ok_var rfl ?_
      refine ok_cst ?_
      refine ok_look rfl ?_
      refine ok_look rfl ?_
      refine okh_ixL (f := eI) (xs := v1.2) (i := (0 : Int)) h fun v4 h => ?_
      refine ⟨rfl, ?_⟩
      refine ok_cons ?_
      refine ok_var rfl ?_
      refine ok_nil ?_
      refine ok_lent (d := [.val false ((eT eI) a_word), .val false (eI v4), .val false (eI a_i)]) rfl ?_
      refine okh_call h (fun v hv => sp_with_letter a_word v4 a_i v hv) fun v5 h => ?_
      refine ok_back (d := [_, _, _]) rfl ?_
      refine ⟨rfl, ?_⟩
      cases h; rfl
    ·
      refine ok_cst ?_
      cases h; rfl
  cases h
  exact fnEnd_ret rfl ⟨rfl, rfl⟩
def p_raised_all (a_word : (List Int)) : Option ((List Int) × (List Int)) :=
  (p_first_raising a_word).bind fun v1 =>
  (whileP (σ := (List Int) × (List Int) × (Option Int)) (ρ := ((List Int) × (List Int))) (fun s2 =>
  some (s2.2.2).isSome) (fun s2 =>
  (s2.2.2).bind fun v3 =>
  (p_raised_word s2.1 v3).bind fun v5 =>
  (v5).bind fun v6 =>
  ((some v3)).bind fun v10 =>
  (appO s2.2.1 v10).bind fun v8 =>
  (p_first_raising v6).bind fun v12 =>
  some (.nx (v6, v8, v12))) 4000 (a_word, ([] : (List Int)), v1)).bind (retK fun s2 =>
  some (s2.1, s2.2.1))
theorem sp_raised_all (a_word : (List Int)) (r : ((List Int) × (List Int))) (h : p_raised_all a_word = some r) : m_raised_all [.val false ((eT eI) a_word)] = some (.val ((eP2 (eT eI) (eT eI)) r), [.val false ((eT eI) a_word)]) := by
  refine ev_fn ?_
  unfold p_raised_all at h
  unfold m_raised_all f_raised_all
  refine ok_fnP (e0 := [.val false ((eT eI) a_word), .dead, .dead]) rfl ?_
  refine ok_seq ?_
  refine ok_set ?_
  refine ok_lst ?_
  refine ok_nil ?_
  refine ok_frzs (d := []) (e' := [_, _, _]) rfl ?_
  refine ok_okLen (by simp only [List.length_cons, List.length_nil]; decide) ?_
  refine ok_put (d := [_, _, _]) rfl ?_
  refine then_next ?_
  refine ok_seq ?_
  refine ok_set ?_
  refine ok_call ?_
  refine ok_cons ?_
  refine ok_var rfl ?_
  refine ok_nil ?_
  refine ok_lent (d := [.val false ((eT eI) a_word)]) rfl ?_
  refine okh_call h (fun v hv => sp_first_raising a_word v hv) fun v1 h => ?_
  refine ok_back (d := [_, _, _]) rfl ?_
  refine ok_put (d := [_, _, _]) rfl ?_
  refine then_next ?_
  refine ok_seq ?_
  refine okh_whileP (σ := (List Int) × (List Int) × (Option Int)) (ρ := ((List Int) × (List Int))) (fun (s2 : (List Int) × (List Int) × (Option Int)) (e : En) => e = [.val false ((eT eI) s2.1), .own false ((eL eI) s2.2.1), .val false ((eO eI) s2.2.2)]) (fun v z e => z = .val ((eP2 (eT eI) (eT eI)) v) ∧ fixO [.val false ((eT eI) a_word)] e = [.val false ((eT eI) a_word)]) (s0 := (a_word, ([] : (List Int)), v1)) h (rfl) (fun s2 e b h he => ?_) (fun s2 e t h he => ?_) (fun s2 e h he => ?_) (fun z e hz => ?_)
  ·
    subst he
    refine ok_testV ?_
    refine ok_bin ?_
    refine ok_var rfl ?_
    refine ok_cst ?_
    refine ok_look rfl ?_
    refine ok_look rfl ?_
    refine okt_notN (f := eI) (x := s2.2.2) ?_
    refine isBr ?_
    cases h
    exact ⟨rfl, rfl⟩
  ·
    subst he
    refine ok_seq ?_
    refine ok_set ?_
    refine ok_call ?_
    refine ok_cons ?_
    refine ok_var rfl ?_
    refine ok_cons ?_
    refine ok_var rfl ?_
    obtain ⟨v3, hv4, hh⟩ := bS h; clear h; have h := hh; clear hh
    try rw [hv4]
    refine ok_nil ?_
    refine ok_lent (d := [.val false ((eT eI) s2.1), .val false (eI v3)]) rfl ?_
    refine okh_call h (fun v hv => sp_raised_word s2.1 v3 v hv) fun v5 h => ?_
    refine ok_back (d := [_, _, _]) rfl ?_
    obtain ⟨v6, hv7, hh⟩ := bS h; clear h; have h := hh; clear hh
    subst hv7
    refine ok_put (d := [_, _, _]) rfl ?_
    refine then_next ?_
    refine ok_seq ?_
    refine ok_expr ?_
    refine okh_append (g := eI) (xs0 := s2.2.1) rfl ?_
    refine ok_var rfl ?_
    obtain ⟨v10, hv11, hh⟩ := bS h; clear h; have h := hh; clear hh
    try rw [hv11]
    refine ok_frz (e' := [_, _, _]) rfl ?_
    obtain ⟨v8, hv9, h⟩ := bS h
    refine ⟨v10, s2.2.1, v8, [_, _, _], ⟨rfl, rfl⟩, hv9, rfl, ?_⟩
    refine then_next ?_
    refine ok_set ?_
    refine ok_call ?_
    refine ok_cons ?_
    refine ok_var rfl ?_
    refine ok_nil ?_
    refine ok_lent (d := [.val false ((eT eI) v6)]) rfl ?_
    refine okh_call h (fun v hv => sp_first_raising v6 v hv) fun v12 h => ?_
    refine ok_back (d := [_, _, _]) rfl ?_
    refine ok_put (d := [_, _, _]) rfl ?_
    cases h
    exact turnP_next (rfl)
  ·
    subst he
    refine then_next ?_
    refine ok_ret ?_
    refine ok_tup ?_
    refine ok_cons ?_
    refine ok_var rfl ?_
    refine ok_cons ?_
    refine ok_toE ?_
    refine ok_blt ?_
    refine ok_cons ?_
    refine ok_var rfl ?_
    refine ok_nil ?_
    refine ok_looks (d := [(eL eI) s2.2.1]) rfl ?_
    refine okt_tupleL (f := eI) (xs := s2.2.1) ?_
    refine ⟨rfl, ?_⟩
    refine ok_nil ?_
    refine ok_frzs (d := [(eT eI) s2.1, (eT eI) s2.2.1]) (e' := [_, _, _]) rfl ?_
    refine ok_okLen (by simp only [List.length_cons, List.length_nil]; decide) ?_
    cases h
    exact fnEnd_ret rfl ⟨rfl, rfl⟩
  ·
    refine then_ret ?_
    exact hz
def p_highest_of (a_word : (List Int)) : Option ((List Int) × (List Int)) :=
  (p_need_word a_word).bind fun v1 =>
  (p_raised_all a_word).bind fun v2 =>
  some v2
theorem sp_highest_of (a_word : (List Int)) (r : ((List Int) × (List Int))) (h : p_highest_of a_word = some r) : m_highest_of [.val false ((eT eI) a_word)] = some (.val ((eP2 (eT eI) (eT eI)) r), [.val false ((eT eI) a_word)]) := by
  refine ev_fn ?_
  unfold p_highest_of at h
  unfold m_highest_of f_highest_of
  refine ok_fnP (e0 := [.val false ((eT eI) a_word)]) rfl ?_
  refine ok_seq ?_
  refine ok_expr ?_
  refine ok_call ?_
  refine ok_cons ?_
  refine ok_var rfl ?_
  refine ok_nil ?_
  refine ok_lent (d := [.val false ((eT eI) a_word)]) rfl ?_
  refine okh_call h (fun v hv => sp_need_word a_word v hv) fun v1 h => ?_
  refine ok_back (d := [_]) rfl ?_
  refine then_next ?_
  refine ok_ret ?_
  refine ok_call ?_
  refine ok_cons ?_
  refine ok_var rfl ?_
  refine ok_nil ?_
  refine ok_lent (d := [.val false ((eT eI) a_word)]) rfl ?_
  refine okh_call h (fun v hv => sp_raised_all a_word v hv) fun v2 h => ?_
  refine ok_back (d := [_]) rfl ?_
  cases h
  exact fnEnd_ret rfl ⟨rfl, rfl⟩
def p_need_number (a_thing : Int) (a_low : Int) (a_high : Int) : Option Unit :=
  (p_is_within a_thing a_low a_high).bind fun v1 =>
  if (!v1) = true then
  none
  else
  some ()
theorem sp_need_number (a_thing : Int) (a_low : Int) (a_high : Int) (r : Unit) (h : p_need_number a_thing a_low a_high = some r) : m_need_number [.val false (eI a_thing), .val false (eI a_low), .val false (eI a_high)] = some (.val (eU r), [.val false (eI a_thing), .val false (eI a_low), .val false (eI a_high)]) := by
  refine ev_fn ?_
  unfold p_need_number at h
  unfold m_need_number f_need_number
  refine ok_fnP (e0 := [.val false (eI a_thing), .val false (eI a_low), .val false (eI a_high)]) rfl ?_
  refine ok_sIf ?_
  refine ok_gNot ?_
  refine ok_truth ?_
  refine ok_toE ?_
  refine ok_call ?_
  refine ok_cons ?_
  refine ok_var rfl ?_
  refine ok_cons ?_
  refine ok_var rfl ?_
  refine ok_cons ?_
  refine ok_var rfl ?_
  refine ok_nil ?_
  refine ok_lent (d := [.val false (eI a_thing), .val false (eI a_low), .val false (eI a_high)]) rfl ?_
  refine okh_call h (fun v hv => sp_is_within a_thing a_low a_high v hv) fun v1 h => ?_
  refine ok_back (d := [_, _, _]) rfl ?_
  refine ⟨rfl, ?_⟩
  refine ok_look rfl ?_
  refine ok_truthD rfl ?_
  refine br_ite h (fun hc h => ?_) (fun hc h => ?_)
  ·
    cases h
  ·
    refine ok_next ?_
    cases h
    exact fnEnd_next rfl ⟨rfl, rfl⟩
def p_need_raise (a_word : (List Int)) (a_i : Int) : Option Unit :=
  (p_need_word a_word).bind fun v1 =>
  (p_need_number a_i (1 : Int) ((9 : Int) - (1 : Int))).bind fun v2 =>
  some ()
theorem sp_need_raise (a_word : (List Int)) (a_i : Int) (r : Unit) (h : p_need_raise a_word a_i = some r) : m_need_raise [.val false ((eT eI) a_word), .val false (eI a_i)] = some (.val (eU r), [.val false ((eT eI) a_word), .val false (eI a_i)]) := by
  refine ev_fn ?_
  unfold p_need_raise at h
  unfold m_need_raise f_need_raise
  refine ok_fnP (e0 := [.val false ((eT eI) a_word), .val false (eI a_i)]) rfl ?_
  refine ok_seq ?_
  refine ok_expr ?_
  refine ok_call ?_
  refine ok_cons ?_
  refine ok_var rfl ?_
  refine ok_nil ?_
  refine ok_lent (d := [.val false ((eT eI) a_word)]) rfl ?_
  refine okh_call h (fun v hv => sp_need_word a_word v hv) fun v1 h => ?_
  refine ok_back (d := [_, _]) rfl ?_
  refine then_next ?_
  refine ok_expr ?_
  refine ok_call ?_
  refine ok_cons ?_
  refine ok_var rfl ?_
  refine ok_cons ?_
  refine ok_cst ?_
  refine ok_cons ?_
  refine ok_toE ?_
  refine ok_bin ?_
  refine ok_cst ?_
  refine ok_cst ?_
  refine ok_look rfl ?_
  refine ok_look rfl ?_
  refine ok_subI ?_
  refine ⟨rfl, ?_⟩
  refine ok_nil ?_
  refine ok_lent (d := [.val false (eI a_i), .val false (eI (1 : Int)), .val false (eI ((9 : Int) - (1 : Int)))]) rfl ?_
  refine okh_call h (fun v hv => sp_need_number a_i (1 : Int) ((9 : Int) - (1 : Int)) v hv) fun v2 h => ?_
  refine ok_back (d := [_, _]) rfl ?_
  cases h
  exact fnEnd_next rfl ⟨rfl, rfl⟩
def p_room_up (a_word : (List Int)) (a_i : Int) : Option Int :=
  (p_need_raise a_word a_i).bind fun v1 =>
  (p_left_places a_word a_i).bind fun v2 =>
  some ((List.length v2.2 : Nat) : Int)
theorem sp_room_up (a_word : (List Int)) (a_i : Int) (r : Int) (h : p_room_up a_word a_i = some r) : m_room_up [.val false ((eT eI) a_word), .val false (eI a_i)] = some (.val (eI r), [.val false ((eT eI) a_word), .val false (eI a_i)]) := by
  refine ev_fn ?_
  unfold p_room_up at h
  unfold m_room_up f_room_up
  refine ok_fnP (e0 := [.val false ((eT eI) a_word), .val false (eI a_i)]) rfl ?_
  refine ok_seq ?_
  refine ok_expr ?_
  refine ok_call ?_
  refine ok_cons ?_
  refine ok_var rfl ?_
  refine ok_cons ?_
  refine ok_var rfl ?_
  refine ok_nil ?_
  refine ok_lent (d := [.val false ((eT eI) a_word), .val false (eI a_i)]) rfl ?_
  refine okh_call h (fun v hv => sp_need_raise a_word a_i v hv) fun v1 h => ?_
  refine ok_back (d := [_, _]) rfl ?_
  refine then_next ?_
  refine ok_ret ?_
  refine ok_blt ?_
  refine ok_cons ?_
  refine ok_toE ?_
  refine ok_bin ?_
  refine ok_toE ?_
  refine ok_call ?_
  refine ok_cons ?_
  refine ok_var rfl ?_
  refine ok_cons ?_
  refine ok_var rfl ?_
  refine ok_nil ?_
  refine ok_lent (d := [.val false ((eT eI) a_word), .val false (eI a_i)]) rfl ?_
  refine okh_call h (fun v hv => sp_left_places a_word a_i v hv) fun v2 h => ?_
  refine ok_back (d := [_, _]) rfl ?_
  refine ⟨rfl, ?_⟩
  refine ok_cst ?_
  refine ok_look rfl ?_
  refine ok_look rfl ?_
  refine ok_ixT (d := (eL eI) v2.2) rfl ?_
  refine ⟨rfl, ?_⟩
  refine ok_nil ?_
  refine ok_looks (d := [(eL eI) v2.2]) rfl ?_
  refine okt_lenL (f := eI) (xs := v2.2) ?_
  cases h
  exact fnEnd_ret rfl ⟨rfl, rfl⟩
def p_place_above (a_row : (List Int)) (a_letter : Int) : Option Int :=
  (mapG (fun x1 => (decide (a_letter < x1.2))) (fun x1 => x1.1) (enumF 0 a_row)).bind fun v2 =>
  (if (!decide (v2 = ([] : (List Int)))) = true then
  (atI v2 (0 : Int)).bind fun v6 =>
  some v6
  else
  some ((List.length a_row : Nat) : Int)).bind fun v4 =>
  some v4
theorem sp_place_above (a_row : (List Int)) (a_letter : Int) (r : Int) (h : p_place_above a_row a_letter = some r) : m_place_above [.val false ((eT eI) a_row), .val false (eI a_letter)] = some (.val (eI r), [.val false ((eT eI) a_row), .val false (eI a_letter)]) := by
  refine ev_fn ?_
  unfold p_place_above at h
  unfold m_place_above f_place_above
  refine ok_fnP (e0 := [.val false ((eT eI) a_row), .val false (eI a_letter), .dead, .dead, .dead]) rfl ?_
  refine ok_seq ?_
  refine ok_sFz ?_
  refine ok_set ?_
  refine okt_fComp (en := (eP2 eI eI)) eI ?_
  refine okt_enum (f := eI) ?_
  refine okt_sqT (f := eI) ?_
  refine ok_var rfl ?_
  refine ok_frz (e' := [_, _, _, _, _]) rfl ?_
  refine ⟨a_row, rfl, ?_⟩
  refine ⟨a_row, rfl, ?_⟩
  obtain ⟨v2, hv3, h⟩ := bS h
  refine ⟨(enumF 0 a_row), fun x1 => (decide (a_letter < x1.2)), fun x1 => x1.1, [.val false ((eT eI) a_row), .val false (eI a_letter), .dead, .dead, .dead], v2, rfl, rfl, hv3, rfl, fun x1 => ?_, ?_⟩
  ·
    refine ok_tgt (d := [_, _, _, _, _]) rfl ?_
    refine ok_testV ?_
    refine ok_bin ?_
    refine ok_var rfl ?_
    refine ok_var rfl ?_
    refine ok_look rfl ?_
    refine ok_look rfl ?_
    refine ok_gtI ?_
    refine isBr ?_
    refine ⟨rfl, fun hc => ?_, fun hc => rfl⟩
    refine ok_var rfl ?_
    refine ok_frz (e' := [_, _, _, _, _]) rfl ?_
    exact ⟨rfl, rfl⟩
  refine ok_put (d := [_, _, _, _, _]) rfl ?_
  refine ⟨_, rfl, ?_⟩
  refine ok_frz (e' := [_, _, _, _, _]) rfl ?_
  refine then_next ?_
  refine ok_ret ?_
  obtain ⟨v4, hv5, h⟩ := bS h
  refine ok_joinV2 (eI v4) [.val false ((eT eI) a_row), .val false (eI a_letter), .val false ((eL eI) v2), .dead, .dead] ?_ ?_
  ·
    replace h := hv5
    refine ok_if ?_
    refine ok_testV ?_
    refine ok_bin ?_
    refine ok_var rfl ?_
    refine ok_toE ?_
    refine ok_lst ?_
    refine ok_nil ?_
    refine ok_frzs (d := []) (e' := [_, _, _, _, _]) rfl ?_
    refine ok_okLen (by simp only [List.length_cons, List.length_nil]; decide) ?_
    refine ⟨rfl, ?_⟩
    refine ok_look rfl ?_
    refine ok_look rfl ?_
    refine okt_ne (f := (eL eI)) (a := v2) (b := ([] : (List Int))) ?_
    refine isBr ?_
    refine br_ite h (fun hc h => ?_) (fun hc h => ?_)
    ·
      refine ok_toE ?_
      refine ok_bin ?_
      refine ok_var rfl ?_
      refine ok_cst ?_
      refine ok_look rfl ?_
      refine ok_look rfl ?_
      refine okh_ixL (f := eI) (xs := v2) (i := (0 : Int)) h fun v6 h => ?_
      refine ⟨rfl, ?_⟩
      cases h; rfl
    ·
      refine ok_toE ?_
      refine ok_blt ?_
      refine ok_cons ?_
      refine ok_var rfl ?_
      refine ok_nil ?_
      refine ok_looks (d := [(eT eI) a_row]) rfl ?_
      refine okt_lenT (f := eI) (xs := a_row) ?_
      refine ⟨rfl, ?_⟩
      cases h; rfl
  cases h
  exact fnEnd_ret rfl ⟨rfl, rfl⟩
def p_put_in_row (a_rows : (List (List Int))) (a_at : Int) (a_letter : (Option Int)) : Option ((List (List Int)) × (List (Int × (Option Int)))) :=
  (whileP (σ := Int × (Option Int) × (List (List Int)) × (List (Int × (Option Int)))) (ρ := ((List (List Int)) × (List (Int × (Option Int))))) (fun s1 =>
  some (s1.2.1).isSome) (fun s1 =>
  (if (decide (s1.1 < ((List.length s1.2.2.1 : Nat) : Int))) = true then
  (atI s1.2.2.1 s1.1).bind fun v8 =>
  some v8
  else
  some ([] : (List Int))).bind fun v6 =>
  (s1.2.1).bind fun v9 =>
  (p_place_above v6 v9).bind fun v11 =>
  (if (decide (v11 < ((List.length v6 : Nat) : Int))) = true then
  (atI v6 v11).bind fun v14 =>
  some (some v14)
  else
  some (none : (Option Int))).bind fun v12 =>
  ((some v9)).bind fun v15 =>
  (addO (cutG v6 none (some v11)) [v15]).bind fun v17 =>
  (addO v17 (cutG v6 (some (v11 + (1 : Int))) none)).bind fun v18 =>
  (addO (cutG s1.2.2.1 none (some s1.1)) [v18]).bind fun v19 =>
  (addO v19 (cutG s1.2.2.1 (some (s1.1 + (1 : Int))) none)).bind fun v20 =>
  (appO s1.2.2.2 (s1.1, v12)).bind fun v21 =>
  some (.nx ((s1.1 + (1 : Int)), v12, v20, v21))) 4000 (a_at, a_letter, a_rows, ([] : (List (Int × (Option Int)))))).bind (retK fun s1 =>
  some (s1.2.2.1, s1.2.2.2))
theorem sp_put_in_row (a_rows : (List (List Int))) (a_at : Int) (a_letter : (Option Int)) (r : ((List (List Int)) × (List (Int × (Option Int))))) (h : p_put_in_row a_rows a_at a_letter = some r) : m_put_in_row [.val false ((eT (eT eI)) a_rows), .val false (eI a_at), .val false ((eO eI) a_letter)] = some (.val ((eP2 (eT (eT eI)) (eL (eP2 eI (eO eI)))) r), [.val false ((eT (eT eI)) a_rows), .val false (eI a_at), .val false ((eO eI) a_letter)]) := by
  refine ev_fn ?_
  unfold p_put_in_row at h
  unfold m_put_in_row f_put_in_row
  refine ok_fnP (e0 := [.val false ((eT (eT eI)) a_rows), .val false (eI a_at), .val false ((eO eI) a_letter), .dead, .dead, .dead, .dead, .dead, .dead]) rfl ?_
  refine ok_seq ?_
  refine ok_sFz ?_
  refine ok_par ?_
  refine ok_blt ?_
  refine ok_cons ?_
  refine ok_var rfl ?_
  refine ok_nil ?_
  refine ok_looks (d := [(eT (eT eI)) a_rows]) rfl ?_
  refine okt_listT (f := (eT eI)) (xs := a_rows) ?_
  refine ok_lst ?_
  refine ok_nil ?_
  refine ok_frzs (d := []) (e' := [_, _, _, _, _, _, _, _, _]) rfl ?_
  refine ok_okLen (by simp only [List.length_cons, List.length_nil]; decide) ?_
  refine ok_put (d := [_, _, _, _, _, _, _, _, _]) rfl ?_
  refine ok_put (d := [_, _, _, _, _, _, _, _, _]) rfl ?_
  refine ⟨_, rfl, ?_⟩
  refine ok_frz (e' := [_, _, _, _, _, _, _, _, _]) rfl ?_
  refine then_next ?_
  refine ok_seq ?_
  refine okh_whileP (σ := Int × (Option Int) × (List (List Int)) × (List (Int × (Option Int)))) (ρ := ((List (List Int)) × (List (Int × (Option Int))))) (fun (s1 : Int × (Option Int) × (List (List Int)) × (List (Int × (Option Int)))) (e : En) => ∃ j2_row j3_place j4_out j5_whole : Slot, e = [.val false ((eT (eT eI)) a_rows), .val false (eI s1.1), .val false ((eO eI) s1.2.1), .val false ((eL (eT eI)) s1.2.2.1), .own false ((eL (eP2 eI (eO eI))) s1.2.2.2), j2_row, j3_place, j4_out, j5_whole] ∧ j2_row.pin = false ∧ j3_place.pin = false ∧ j4_out.pin = false ∧ j5_whole.pin = false) (fun v z e => z = .val ((eP2 (eT (eT eI)) (eL (eP2 eI (eO eI)))) v) ∧ fixO [.val false ((eT (eT eI)) a_rows), .val false (eI a_at), .val false ((eO eI) a_letter)] e = [.val false ((eT (eT eI)) a_rows), .val false (eI a_at), .val false ((eO eI) a_letter)]) (s0 := (a_at, a_letter, a_rows, ([] : (List (Int × (Option Int)))))) h (⟨.dead, .dead, .dead, .dead, rfl, rfl, rfl, rfl, rfl⟩) (fun s1 e b h he => ?_) (fun s1 e t h he => ?_) (fun s1 e h he => ?_) (fun z e hz => ?_)
  ·
    obtain ⟨j2_row, j3_place, j4_out, j5_whole, rfl, hp_j2_row, hp_j3_place, hp_j4_out, hp_j5_whole⟩ := he
    refine ok_testV ?_
    refine ok_bin ?_
    refine ok_var rfl ?_
    refine ok_cst ?_
    refine ok_look rfl ?_
    refine ok_look rfl ?_
    refine okt_notN (f := eI) (x := s1.2.1) ?_
    refine isBr ?_
    cases h
    exact ⟨rfl, rfl⟩
  ·
    obtain ⟨j2_row, j3_place, j4_out, j5_whole, rfl, hp_j2_row, hp_j3_place, hp_j4_out, hp_j5_whole⟩ := he
    refine ok_seq ?_
    refine ok_set ?_
    obtain ⟨v6, hv7, h⟩ := bS h
    refine ok_joinV2 ((eT eI) v6) [.val false ((eT (eT eI)) a_rows), .val false (eI s1.1), .val false ((eO eI) s1.2.1), .val false ((eL (eT eI)) s1.2.2.1), .own false ((eL (eP2 eI (eO eI))) s1.2.2.2), j2_row, j3_place, j4_out, j5_whole] ?_ ?_
    ·
      replace h := hv7
      refine ok_if ?_
      refine ok_testV ?_
      refine ok_bin ?_
      refine ok_var rfl ?_
      refine ok_toE ?_
      refine ok_blt ?_
      refine ok_cons ?_
      refine ok_var rfl ?_
      refine ok_nil ?_
      refine ok_looks (d := [(eL (eT eI)) s1.2.2.1]) rfl ?_
      refine okt_lenL (f := (eT eI)) (xs := s1.2.2.1) ?_
      refine ⟨rfl, ?_⟩
      refine ok_look rfl ?_
      refine ok_look rfl ?_
      refine ok_ltI ?_
      refine isBr ?_
      refine br_ite h (fun hc h => ?_) (fun hc h => ?_)
      ·
        refine ok_toE ?_
        refine ok_bin ?_
        refine ok_var rfl ?_
        refine ok_var rfl ?_
        refine ok_look rfl ?_
        refine ok_look rfl ?_
        refine okh_ixL (f := (eT eI)) (xs := s1.2.2.1) (i := s1.1) h fun v8 h => ?_
        refine ⟨rfl, ?_⟩
        cases h; rfl
      ·
        refine ok_toE ?_
        refine ok_tup ?_
        refine ok_nil ?_
        refine ok_frzs (d := []) (e' := [_, _, _, _, _, _, _, _, _]) rfl ?_
        refine ok_okLen (by simp only [List.length_cons, List.length_nil]; decide) ?_
        refine ⟨rfl, ?_⟩
        cases h; rfl
    refine ok_put (d := [.val false ((eT (eT eI)) a_rows), .val false (eI s1.1), .val false ((eO eI) s1.2.1), .val false ((eL (eT eI)) s1.2.2.1), .own false ((eL (eP2 eI (eO eI))) s1.2.2.2), .val false ((eT eI) v6), j3_place, j4_out, j5_whole]) (by simp [putV, setR, hp_j2_row] <;> rfl) ?_
    refine then_next ?_
    refine ok_seq ?_
    refine ok_set ?_
    refine ok_call ?_
    refine ok_cons ?_
    refine ok_var rfl ?_
    refine ok_cons ?_
    refine ok_var rfl ?_
    obtain ⟨v9, hv10, hh⟩ := bS h; clear h; have h := hh; clear hh
    try rw [hv10]
    refine ok_nil ?_
    refine ok_lent (d := [.val false ((eT eI) v6), .val false (eI v9)]) rfl ?_
    refine okh_call h (fun v hv => sp_place_above v6 v9 v hv) fun v11 h => ?_
    refine ok_back (d := [_, _, _, _, _, _, _, _, _]) rfl ?_
    refine ok_put (d := [.val false ((eT (eT eI)) a_rows), .val false (eI s1.1), .val false ((eO eI) (some v9)), .val false ((eL (eT eI)) s1.2.2.1), .own false ((eL (eP2 eI (eO eI))) s1.2.2.2), .val false ((eT eI) v6), .val false (eI v11), j4_out, j5_whole]) (by simp [putV, setR, hp_j3_place] <;> rfl) ?_
    refine then_next ?_
    refine ok_seq ?_
    refine ok_set ?_
    obtain ⟨v12, hv13, h⟩ := bS h
    refine ok_joinV2 ((eO eI) v12) [.val false ((eT (eT eI)) a_rows), .val false (eI s1.1), .val false ((eO eI) (some v9)), .val false ((eL (eT eI)) s1.2.2.1), .own false ((eL (eP2 eI (eO eI))) s1.2.2.2), .val false ((eT eI) v6), .val false (eI v11), j4_out, j5_whole] ?_ ?_
    ·
      replace h := hv13
      refine ok_if ?_
      refine ok_testV ?_
      refine ok_bin ?_
      refine ok_var rfl ?_
      refine ok_toE ?_
      refine ok_blt ?_
      refine ok_cons ?_
      refine ok_var rfl ?_
      refine ok_nil ?_
      refine ok_looks (d := [(eT eI) v6]) rfl ?_
      refine okt_lenT (f := eI) (xs := v6) ?_
      refine ⟨rfl, ?_⟩
      refine ok_look rfl ?_
      refine ok_look rfl ?_
      refine ok_ltI ?_
      refine isBr ?_
      refine br_ite h (fun hc h => ?_) (fun hc h => ?_)
      ·
        refine ok_toE ?_
        refine ok_bin ?_
        refine ok_var rfl ?_
        refine ok_var rfl ?_
        refine ok_look rfl ?_
        refine ok_look rfl ?_
        refine okh_ixT (f := eI) (xs := v6) (i := v11) h fun v14 h => ?_
        refine ⟨rfl, ?_⟩
        cases h; rfl
      ·
        refine ok_cst ?_
        cases h; rfl
    refine ok_put (d := [.val false ((eT (eT eI)) a_rows), .val false (eI s1.1), .val false ((eO eI) (some v9)), .val false ((eL (eT eI)) s1.2.2.1), .own false ((eL (eP2 eI (eO eI))) s1.2.2.2), .val false ((eT eI) v6), .val false (eI v11), .val false ((eO eI) v12), j5_whole]) (by simp [putV, setR, hp_j4_out] <;> rfl) ?_
    refine then_next ?_
    refine ok_seq ?_
    refine ok_set ?_
    refine ok_bin ?_
    refine ok_toE ?_
    refine ok_bin ?_
    refine ok_toE ?_
    refine ok_fCut ?_
    refine ok_var rfl ?_
    refine ok_no ?_
    refine ok_at ?_
    refine ok_var rfl ?_
    refine ok_look rfl ?_
    refine isI ?_
    refine ok_look rfl ?_
    refine okt_cutT (f := eI) (xs := v6) (lo := none) (hi := (some v11)) ?_
    refine ⟨rfl, ?_⟩
    refine ok_toE ?_
    refine ok_tup ?_
    refine ok_cons ?_
    refine ok_var rfl ?_
    obtain ⟨v15, hv16, hh⟩ := bS h; clear h; have h := hh; clear hh
    try rw [hv16]
    refine ok_nil ?_
    refine ok_frzs (d := [eI v15]) (e' := [_, _, _, _, _, _, _, _, _]) rfl ?_
    refine ok_okLen (by simp only [List.length_cons, List.length_nil]; decide) ?_
    refine ⟨rfl, ?_⟩
    refine ok_look rfl ?_
    refine ok_look rfl ?_
    refine okh_addT (f := eI) (xs := (cutG v6 none (some v11))) (ys := [v15]) h fun v17 h => ?_
    refine ⟨rfl, ?_⟩
    refine ok_toE ?_
    refine ok_fCut ?_
    refine ok_var rfl ?_
    refine ok_at ?_
    refine ok_toE ?_
    refine ok_bin ?_
    refine ok_var rfl ?_
    refine ok_cst ?_
    refine ok_look rfl ?_
    refine ok_look rfl ?_
    refine ok_addI ?_
    refine ⟨rfl, ?_⟩
    refine ok_look rfl ?_
    refine isI ?_
    refine ok_no ?_
    refine ok_look rfl ?_
    refine okt_cutT (f := eI) (xs := v6) (lo := (some (v11 + (1 : Int)))) (hi := none) ?_
    refine ⟨rfl, ?_⟩
    refine ok_look rfl ?_
    refine ok_look rfl ?_
    refine okh_addT (f := eI) (xs := v17) (ys := (cutG v6 (some (v11 + (1 : Int))) none)) h fun v18 h => ?_
    refine ok_put (d := [.val false ((eT (eT eI)) a_rows), .val false (eI s1.1), .val false ((eO eI) (some v15)), .val false ((eL (eT eI)) s1.2.2.1), .own false ((eL (eP2 eI (eO eI))) s1.2.2.2), .val false ((eT eI) v6), .val false (eI v11), .val false ((eO eI) v12), .val false ((eT eI) v18)]) (by simp [putV, setR, hp_j5_whole] <;> rfl) ?_
    refine then_next ?_
    refine ok_seq ?_
    refine ok_sFz ?_
    refine ok_set ?_
    refine ok_bin ?_
    refine ok_toE ?_
    refine ok_bin ?_
    refine ok_toE ?_
    refine ok_fCut ?_
    refine ok_var rfl ?_
    refine ok_no ?_
    refine ok_at ?_
    refine ok_var rfl ?_
    refine ok_look rfl ?_
    refine isI ?_
    refine ok_look rfl ?_
    refine okt_cutL (f := (eT eI)) (xs := s1.2.2.1) (lo := none) (hi := (some s1.1)) ?_
    refine ⟨rfl, ?_⟩
    refine ok_toE ?_
    refine ok_lst ?_
    refine ok_cons ?_
    refine ok_var rfl ?_
    refine ok_nil ?_
    refine ok_frzs (d := [(eT eI) v18]) (e' := [_, _, _, _, _, _, _, _, _]) rfl ?_
    refine ok_okLen (by simp only [List.length_cons, List.length_nil]; decide) ?_
    refine ⟨rfl, ?_⟩
    refine ok_look rfl ?_
    refine ok_look rfl ?_
    refine okh_addL (f := (eT eI)) (xs := (cutG s1.2.2.1 none (some s1.1))) (ys := [v18]) h fun v19 h => ?_
    refine ⟨rfl, ?_⟩
    refine ok_toE ?_
    refine ok_fCut ?_
    refine ok_var rfl ?_
    refine ok_at ?_
    refine ok_toE ?_
    refine ok_bin ?_
    refine ok_var rfl ?_
    refine ok_cst ?_
    refine ok_look rfl ?_
    refine ok_look rfl ?_
    refine ok_addI ?_
    refine ⟨rfl, ?_⟩
    refine ok_look rfl ?_
    refine isI ?_
    refine ok_no ?_
    refine ok_look rfl ?_
    refine okt_cutL (f := (eT eI)) (xs := s1.2.2.1) (lo := (some (s1.1 + (1 : Int)))) (hi := none) ?_
    refine ⟨rfl, ?_⟩
    refine ok_look rfl ?_
    refine ok_look rfl ?_
    refine okh_addL (f := (eT eI)) (xs := v19) (ys := (cutG s1.2.2.1 (some (s1.1 + (1 : Int))) none)) h fun v20 h => ?_
    refine ok_put (d := [_, _, _, _, _, _, _, _, _]) rfl ?_
    refine ⟨_, rfl, ?_⟩
    refine ok_frz (e' := [_, _, _, _, _, _, _, _, _]) rfl ?_
    refine then_next ?_
    refine ok_seq ?_
    refine ok_expr ?_
    refine okh_append (g := (eP2 eI (eO eI))) (xs0 := s1.2.2.2) rfl ?_
    refine ok_toE ?_
    refine ok_tup ?_
    refine ok_cons ?_
    refine ok_var rfl ?_
    refine ok_cons ?_
    refine ok_var rfl ?_
    refine ok_nil ?_
    refine ok_frzs (d := [eI s1.1, (eO eI) v12]) (e' := [_, _, _, _, _, _, _, _, _]) rfl ?_
    refine ok_okLen (by simp only [List.length_cons, List.length_nil]; decide) ?_
    refine ⟨rfl, ?_⟩
    refine ok_frz (e' := [_, _, _, _, _, _, _, _, _]) rfl ?_
    obtain ⟨v21, hv22, h⟩ := bS h
    refine ⟨(s1.1, v12), s1.2.2.2, v21, [_, _, _, _, _, _, _, _, _], ⟨rfl, rfl⟩, hv22, rfl, ?_⟩
    refine then_next ?_
    refine ok_par ?_
    refine ok_toV ?_
    refine ok_var rfl ?_
    refine ok_frz (e' := [_, _, _, _, _, _, _, _, _]) rfl ?_
    refine ok_bin ?_
    refine ok_var rfl ?_
    refine ok_cst ?_
    refine ok_look rfl ?_
    refine ok_look rfl ?_
    refine ok_addI ?_
    refine ok_put (d := [_, _, _, _, _, _, _, _, _]) rfl ?_
    refine ok_put (d := [_, _, _, _, _, _, _, _, _]) rfl ?_
    cases h
    exact turnP_next (⟨_, _, _, _, rfl, rfl, rfl, rfl, rfl⟩)
  ·
    obtain ⟨j2_row, j3_place, j4_out, j5_whole, rfl, hp_j2_row, hp_j3_place, hp_j4_out, hp_j5_whole⟩ := he
    refine then_next ?_
    refine ok_ret ?_
    refine ok_tup ?_
    refine ok_cons ?_
    refine ok_toE ?_
    refine ok_blt ?_
    refine ok_cons ?_
    refine ok_var rfl ?_
    refine ok_nil ?_
    refine ok_looks (d := [(eL (eT eI)) s1.2.2.1]) rfl ?_
    refine okt_tupleL (f := (eT eI)) (xs := s1.2.2.1) ?_
    refine ⟨rfl, ?_⟩
    refine ok_cons ?_
    refine ok_var rfl ?_
    refine ok_nil ?_
    refine ok_frzs (d := [(eT (eT eI)) s1.2.2.1, (eL (eP2 eI (eO eI))) s1.2.2.2]) (e' := [_, _, _, _, _, _, _, _, _]) rfl ?_
    refine ok_okLen (by simp only [List.length_cons, List.length_nil]; decide) ?_
    cases h
    exact fnEnd_ret rfl ⟨rfl, rfl⟩
  ·
    refine then_ret ?_
    exact hz
def p_pushed_rows (a_letters : (List Int)) : Option ((List (List Int)) × (List (List Int)) × (List (List (Int × (Option Int))))) :=
  (forS (σ := (List (List Int)) × (List (List Int)) × (List (List (Int × (Option Int))))) (fun s1 x2 =>
  (p_put_in_row s1.1 (0 : Int) (some x2.2)).bind fun v7 =>
  (atI v7.2 (-(1 : Int))).bind fun v8 =>
  (if (decide (v8.1 = ((List.length s1.2.1 : Nat) : Int))) = true then
  (appO s1.2.1 ([] : (List Int))).bind fun v11 =>
  some v11
  else
  some s1.2.1).bind fun j9 =>
  (atI j9 v8.1).bind fun v15 =>
  (addO v15 [(x2.1 + (1 : Int))]).bind fun v16 =>
  (setO j9 v8.1 v16).bind fun v13 =>
  (appO s1.2.2 v7.2).bind fun v17 =>
  some (v7.1, v13, v17)) (enumF 0 a_letters) (([] : (List (List Int))), ([] : (List (List Int))), ([] : (List (List (Int × (Option Int))))))).bind fun s1 =>
  some (s1.1, s1.2.1, s1.2.2)
theorem sp_pushed_rows (a_letters : (List Int)) (r : ((List (List Int)) × (List (List Int)) × (List (List (Int × (Option Int)))))) (h : p_pushed_rows a_letters = some r) : m_pushed_rows [.val false ((eT eI) a_letters)] = some (.val ((eP3 (eT (eT eI)) (eT (eT eI)) (eL (eL (eP2 eI (eO eI))))) r), [.val false ((eT eI) a_letters)]) := by
  refine ev_fn ?_
  unfold p_pushed_rows at h
  unfold m_pushed_rows f_pushed_rows
  refine ok_fnP (e0 := [.val false ((eT eI) a_letters), .dead, .dead, .dead, .dead, .dead, .dead, .dead]) rfl ?_
  refine ok_seq ?_
  refine ok_par3 ?_
  refine ok_tup ?_
  refine ok_nil ?_
  refine ok_frzs (d := []) (e' := [_, _, _, _, _, _, _, _]) rfl ?_
  refine ok_okLen (by simp only [List.length_cons, List.length_nil]; decide) ?_
  refine ok_lst ?_
  refine ok_nil ?_
  refine ok_frzs (d := []) (e' := [_, _, _, _, _, _, _, _]) rfl ?_
  refine ok_okLen (by simp only [List.length_cons, List.length_nil]; decide) ?_
  refine ok_lst ?_
  refine ok_nil ?_
  refine ok_frzs (d := []) (e' := [_, _, _, _, _, _, _, _]) rfl ?_
  refine ok_okLen (by simp only [List.length_cons, List.length_nil]; decide) ?_
  refine ok_put (d := [_, _, _, _, _, _, _, _]) rfl ?_
  refine ok_put (d := [_, _, _, _, _, _, _, _]) rfl ?_
  refine ok_put (d := [_, _, _, _, _, _, _, _]) rfl ?_
  refine then_next ?_
  refine ok_seq ?_
  refine ok_for ?_
  refine okt_enum (f := eI) ?_
  refine okt_sqT (f := eI) ?_
  refine ok_var rfl ?_
  refine ok_frz (e' := [_, _, _, _, _, _, _, _]) rfl ?_
  refine ⟨a_letters, rfl, ?_⟩
  refine ⟨a_letters, rfl, ?_⟩
  refine okh_forS (σ := (List (List Int)) × (List (List Int)) × (List (List (Int × (Option Int))))) (fun (s1 : (List (List Int)) × (List (List Int)) × (List (List (Int × (Option Int))))) (e : En) => ∃ j3_number j4_letter j5_doors j6_last : Slot, e = [.val false ((eT eI) a_letters), .val false ((eT (eT eI)) s1.1), .own false ((eL (eT eI)) s1.2.1), .own false ((eL (eL (eP2 eI (eO eI)))) s1.2.2), j3_number, j4_letter, j5_doors, j6_last] ∧ j3_number.pin = false ∧ j4_letter.pin = false ∧ j5_doors.pin = false ∧ j6_last.pin = false) (fun s1 x2 e s' h he => ?_) (xs := (enumF 0 a_letters)) (s0 := (([] : (List (List Int))), ([] : (List (List Int))), ([] : (List (List (Int × (Option Int))))))) h (⟨.dead, .dead, .dead, .dead, rfl, rfl, rfl, rfl, rfl⟩) (fun s1 e h he => ?_)
  ·
    obtain ⟨j3_number, j4_letter, j5_doors, j6_last, rfl, hp_j3_number, hp_j4_letter, hp_j5_doors, hp_j6_last⟩ := he
    refine ok_tgt (d := [.val false ((eT eI) a_letters), .val false ((eT (eT eI)) s1.1), .own false ((eL (eT eI)) s1.2.1), .own false ((eL (eL (eP2 eI (eO eI)))) s1.2.2), .val false (eI x2.1), .val false (eI x2.2), j5_doors, j6_last]) (by simp [gTp, hCons, hNil, gNm, putV, pinV, pinO, pinD, eP2, eP3, eP4, hp_j3_number, hp_j4_letter] <;> rfl) ?_
    refine ok_seq ?_
    refine ok_asg ?_
    refine ok_call ?_
    refine ok_cons ?_
    refine ok_var rfl ?_
    refine ok_cons ?_
    refine ok_cst ?_
    refine ok_cons ?_
    refine ok_var rfl ?_
    refine ok_nil ?_
    refine ok_lent (d := [.val false ((eT (eT eI)) s1.1), .val false (eI (0 : Int)), .val false ((eO eI) (some x2.2))]) rfl ?_
    refine okh_call h (fun v hv => sp_put_in_row s1.1 (0 : Int) (some x2.2) v hv) fun v7 h => ?_
    refine ok_back (d := [_, _, _, _, _, _, _, _]) rfl ?_
    refine isV ?_
    refine ok_tgt (d := [.val false ((eT eI) a_letters), .val false ((eT (eT eI)) v7.1), .own false ((eL (eT eI)) s1.2.1), .own false ((eL (eL (eP2 eI (eO eI)))) s1.2.2), .val false (eI x2.1), .val false (eI x2.2), .val false ((eL (eP2 eI (eO eI))) v7.2), j6_last]) (by simp [gTp, hCons, hNil, gNm, putV, pinV, pinO, pinD, eP2, eP3, eP4, hp_j5_doors] <;> rfl) ?_
    refine then_next ?_
    refine ok_seq ?_
    refine ok_set ?_
    refine ok_bin ?_
    refine ok_toE ?_
    refine ok_bin ?_
    refine ok_var rfl ?_
    refine ok_toE ?_
    refine ok_neg ?_
    refine ok_cst ?_
    refine ok_look rfl ?_
    refine isI ?_
    refine ⟨rfl, ?_⟩
    refine ok_look rfl ?_
    refine ok_look rfl ?_
    refine okh_ixL (f := (eP2 eI (eO eI))) (xs := v7.2) (i := (-(1 : Int))) h fun v8 h => ?_
    refine ⟨rfl, ?_⟩
    refine ok_cst ?_
    refine ok_look rfl ?_
    refine ok_look rfl ?_
    refine ok_ixT (d := eI v8.1) rfl ?_
    refine ok_put (d := [.val false ((eT eI) a_letters), .val false ((eT (eT eI)) v7.1), .own false ((eL (eT eI)) s1.2.1), .own false ((eL (eL (eP2 eI (eO eI)))) s1.2.2), .val false (eI x2.1), .val false (eI x2.2), .val false ((eL (eP2 eI (eO eI))) v7.2), .val false (eI v8.1)]) (by simp [putV, setR, hp_j6_last] <;> rfl) ?_
    refine then_next ?_
    refine ok_seq ?_
    obtain ⟨j9, hj10, h⟩ := bS h
    refine ok_if2 (fun e => e = [.val false ((eT eI) a_letters), .val false ((eT (eT eI)) v7.1), .own false ((eL (eT eI)) j9), .own false ((eL (eL (eP2 eI (eO eI)))) s1.2.2), .val false (eI x2.1), .val false (eI x2.2), .val false ((eL (eP2 eI (eO eI))) v7.2), .val false (eI v8.1)]) ?_ ?_
    ·
      replace h := hj10
      refine ok_sIf ?_
      refine ok_testV ?_
      refine ok_bin ?_
      refine ok_var rfl ?_
      refine ok_toE ?_
      refine ok_blt ?_
      refine ok_cons ?_
      refine ok_var rfl ?_
      refine ok_nil ?_
      refine ok_looks (d := [(eL (eT eI)) s1.2.1]) rfl ?_
      refine okt_lenL (f := (eT eI)) (xs := s1.2.1) ?_
      refine ⟨rfl, ?_⟩
      refine ok_look rfl ?_
      refine ok_look rfl ?_
      refine okt_eq (f := eI) (a := v8.1) (b := ((List.length s1.2.1 : Nat) : Int)) ?_
      refine isBr ?_
      refine br_ite h (fun hc h => ?_) (fun hc h => ?_)
      ·
        refine ok_expr ?_
        refine okh_append (g := (eT eI)) (xs0 := s1.2.1) rfl ?_
        refine ok_toE ?_
        refine ok_tup ?_
        refine ok_nil ?_
        refine ok_frzs (d := []) (e' := [_, _, _, _, _, _, _, _]) rfl ?_
        refine ok_okLen (by simp only [List.length_cons, List.length_nil]; decide) ?_
        refine ⟨rfl, ?_⟩
        refine ok_frz (e' := [_, _, _, _, _, _, _, _]) rfl ?_
        obtain ⟨v11, hv12, h⟩ := bS h
        refine ⟨([] : (List Int)), s1.2.1, v11, [_, _, _, _, _, _, _, _], ⟨rfl, rfl⟩, hv12, rfl, ?_⟩
        cases h
        exact ⟨_, rfl, rfl⟩
      ·
        refine ok_next ?_
        cases h
        exact ⟨_, rfl, rfl⟩
    rintro _ rfl
    refine then_next ?_
    refine ok_seq ?_
    refine okh_setIx (g := (eT eI)) ?_
    refine ok_bin ?_
    refine ok_toE ?_
    refine ok_bin ?_
    refine ok_var rfl ?_
    refine ok_var rfl ?_
    refine ok_look rfl ?_
    refine ok_look rfl ?_
    refine okh_ixL (f := (eT eI)) (xs := j9) (i := v8.1) h fun v15 h => ?_
    refine ⟨rfl, ?_⟩
    refine ok_toE ?_
    refine ok_tup ?_
    refine ok_cons ?_
    refine ok_toE ?_
    refine ok_bin ?_
    refine ok_var rfl ?_
    refine ok_cst ?_
    refine ok_look rfl ?_
    refine ok_look rfl ?_
    refine ok_addI ?_
    refine ⟨rfl, ?_⟩
    refine ok_nil ?_
    refine ok_frzs (d := [eI (x2.1 + (1 : Int))]) (e' := [_, _, _, _, _, _, _, _]) rfl ?_
    refine ok_okLen (by simp only [List.length_cons, List.length_nil]; decide) ?_
    refine ⟨rfl, ?_⟩
    refine ok_look rfl ?_
    refine ok_look rfl ?_
    refine okh_addT (f := eI) (xs := v15) (ys := [(x2.1 + (1 : Int))]) h fun v16 h => ?_
    refine ⟨v16, _, _, ⟨rfl, rfl⟩, ?_⟩
    refine ok_var rfl ?_
    obtain ⟨v13, hv14, h⟩ := bS h
    refine ⟨_, j9, v8.1, v13, [_, _, _, _, _, _, _, _], ⟨rfl, rfl⟩, hv14, rfl, ?_⟩
    refine then_next ?_
    refine ok_expr ?_
    refine okh_append (g := (eL (eP2 eI (eO eI)))) (xs0 := s1.2.2) rfl ?_
    refine ok_var rfl ?_
    refine ok_frz (e' := [_, _, _, _, _, _, _, _]) rfl ?_
    obtain ⟨v17, hv18, h⟩ := bS h
    refine ⟨v7.2, s1.2.2, v17, [_, _, _, _, _, _, _, _], ⟨rfl, rfl⟩, hv18, rfl, ?_⟩
    cases h
    exact turnS_next (⟨_, _, _, _, rfl, rfl, rfl, rfl, rfl⟩)
  obtain ⟨j3_number, j4_letter, j5_doors, j6_last, rfl, hp_j3_number, hp_j4_letter, hp_j5_doors, hp_j6_last⟩ := he
  refine then_next ?_
  refine ok_ret ?_
  refine ok_tup ?_
  refine ok_cons ?_
  refine ok_var rfl ?_
  refine ok_cons ?_
  refine ok_toE ?_
  refine ok_blt ?_
  refine ok_cons ?_
  refine ok_var rfl ?_
  refine ok_nil ?_
  refine ok_looks (d := [(eL (eT eI)) s1.2.1]) rfl ?_
  refine okt_tupleL (f := (eT eI)) (xs := s1.2.1) ?_
  refine ⟨rfl, ?_⟩
  refine ok_cons ?_
  refine ok_var rfl ?_
  refine ok_nil ?_
  refine ok_frzs (d := [(eT (eT eI)) s1.1, (eT (eT eI)) s1.2.1, (eL (eL (eP2 eI (eO eI)))) s1.2.2]) (e' := [_, _, _, _, _, _, _, _]) rfl ?_
  refine ok_okLen (by simp only [List.length_cons, List.length_nil]; decide) ?_
  cases h
  exact fnEnd_ret rfl ⟨rfl, rfl⟩
def p_tableau_in (a_word : (List Int)) : Option (List (List Int)) :=
  (p_pushed_rows a_word).bind fun v1 =>
  some v1.1
theorem sp_tableau_in (a_word : (List Int)) (r : (List (List Int))) (h : p_tableau_in a_word = some r) : m_tableau_in [.val false ((eT eI) a_word)] = some (.val ((eT (eT eI)) r), [.val false ((eT eI) a_word)]) := by
  refine ev_fn ?_
  unfold p_tableau_in at h
  unfold m_tableau_in f_tableau_in
  refine ok_fnP (e0 := [.val false ((eT eI) a_word)]) rfl ?_
  refine ok_ret ?_
  refine ok_bin ?_
  refine ok_toE ?_
  refine ok_call ?_
  refine ok_cons ?_
  refine ok_var rfl ?_
  refine ok_nil ?_
  refine ok_lent (d := [.val false ((eT eI) a_word)]) rfl ?_
  refine okh_call h (fun v hv => sp_pushed_rows a_word v hv) fun v1 h => ?_
  refine ok_back (d := [_]) rfl ?_
  refine ⟨rfl, ?_⟩
  refine ok_cst ?_
  refine ok_look rfl ?_
  refine ok_look rfl ?_
  refine ok_ixT (d := (eT (eT eI)) v1.1) rfl ?_
  cases h
  exact fnEnd_ret rfl ⟨rfl, rfl⟩
def p_tableau_of (a_word : (List Int)) : Option (List (List Int)) :=
  (p_need_word a_word).bind fun v1 =>
  (p_tableau_in a_word).bind fun v2 =>
  some v2
theorem sp_tableau_of (a_word : (List Int)) (r : (List (List Int))) (h : p_tableau_of a_word = some r) : m_tableau_of [.val false ((eT eI) a_word)] = some (.val ((eT (eT eI)) r), [.val false ((eT eI) a_word)]) := by
  refine ev_fn ?_
  unfold p_tableau_of at h
  unfold m_tableau_of f_tableau_of
  refine ok_fnP (e0 := [.val false ((eT eI) a_word)]) rfl ?_
  refine ok_seq ?_
  refine ok_expr ?_
  refine ok_call ?_
  refine ok_cons ?_
  refine ok_var rfl ?_
  refine ok_nil ?_
  refine ok_lent (d := [.val false ((eT eI) a_word)]) rfl ?_
  refine okh_call h (fun v hv => sp_need_word a_word v hv) fun v1 h => ?_
  refine ok_back (d := [_]) rfl ?_
  refine then_next ?_
  refine ok_ret ?_
  refine ok_call ?_
  refine ok_cons ?_
  refine ok_var rfl ?_
  refine ok_nil ?_
  refine ok_lent (d := [.val false ((eT eI) a_word)]) rfl ?_
  refine okh_call h (fun v hv => sp_tableau_in a_word v hv) fun v2 h => ?_
  refine ok_back (d := [_]) rfl ?_
  cases h
  exact fnEnd_ret rfl ⟨rfl, rfl⟩
def p_x_law_hooks (a_shape : (List Int)) : Option (List (List Int)) :=
  (forS (σ := (List (List Int))) (fun s1 x2 =>
  (rngO 0 x2.2).bind fun r7 =>
  (compG (fun x9 =>
  (mapG (fun x13 => (decide (x9 < x13))) (fun x13 => (1 : Int)) (cutG a_shape (some (x2.1 + (1 : Int))) none)).bind fun v14 =>
  some (some ((x2.2 - x9) + ((List.length v14 : Nat) : Int)))) r7).bind fun v10 =>
  (appO s1 v10).bind fun v5 =>
  some v5) (enumF 0 a_shape) ([] : (List (List Int)))).bind fun s1 =>
  some s1
theorem sp_x_law_hooks (a_shape : (List Int)) (r : (List (List Int))) (h : p_x_law_hooks a_shape = some r) : m_x_law_hooks [.val false ((eT eI) a_shape)] = some (.val ((eT (eT eI)) r), [.val false ((eT eI) a_shape)]) := by
  refine ev_fn ?_
  unfold p_x_law_hooks at h
  unfold m_x_law_hooks f_x_law_hooks
  refine ok_fnP (e0 := [.val false ((eT eI) a_shape), .dead, .dead, .dead, .dead, .dead]) rfl ?_
  refine ok_seq ?_
  refine ok_set ?_
  refine ok_lst ?_
  refine ok_nil ?_
  refine ok_frzs (d := []) (e' := [_, _, _, _, _, _]) rfl ?_
  refine ok_okLen (by simp only [List.length_cons, List.length_nil]; decide) ?_
  refine ok_put (d := [_, _, _, _, _, _]) rfl ?_
  refine then_next ?_
  refine ok_seq ?_
  refine ok_for ?_
  refine okt_enum (f := eI) ?_
  refine okt_sqT (f := eI) ?_
  refine ok_var rfl ?_
  refine ok_frz (e' := [_, _, _, _, _, _]) rfl ?_
  refine ⟨a_shape, rfl, ?_⟩
  refine ⟨a_shape, rfl, ?_⟩
  refine okh_forS (σ := (List (List Int))) (fun (s1 : (List (List Int))) (e : En) => ∃ j3_at j4_length : Slot, e = [.val false ((eT eI) a_shape), .own false ((eL (eT eI)) s1), j3_at, j4_length, .dead, .dead] ∧ j3_at.pin = false ∧ j4_length.pin = false) (fun s1 x2 e s' h he => ?_) (xs := (enumF 0 a_shape)) (s0 := ([] : (List (List Int)))) h (⟨.dead, .dead, rfl, rfl, rfl⟩) (fun s1 e h he => ?_)
  ·
    obtain ⟨j3_at, j4_length, rfl, hp_j3_at, hp_j4_length⟩ := he
    refine ok_tgt (d := [.val false ((eT eI) a_shape), .own false ((eL (eT eI)) s1), .val false (eI x2.1), .val false (eI x2.2), .dead, .dead]) (by simp [gTp, hCons, hNil, gNm, putV, pinV, pinO, pinD, eP2, eP3, eP4, hp_j4_length, hp_j3_at] <;> rfl) ?_
    refine ok_expr ?_
    refine okh_append (g := (eT eI)) (xs0 := s1) rfl ?_
    refine ok_toE ?_
    refine ok_blt ?_
    refine ok_cons ?_
    refine ok_toE ?_
    refine okh_fComp (en := eI) eI ?_
    refine okh_R1 ?_
    refine ok_cons ?_
    refine ok_var rfl ?_
    refine ok_nil ?_
    refine ok_looks (d := [eI x2.2]) rfl ?_
    obtain ⟨r7, hr8, h⟩ := bS h
    refine ⟨x2.2, r7, rfl, hr8, ?_⟩
    obtain ⟨v10, hv11, h⟩ := bS h
    refine ⟨r7, _, [.val false ((eT eI) a_shape), .own false ((eL (eT eI)) s1), .val false (eI x2.1), .val false (eI x2.2), .dead, .dead], v10, rfl, rfl, hv11, rfl, fun x9 o12 h => ?_, ?_⟩
    ·
      refine ok_tgt (d := [_, _, _, _, _, _]) rfl ?_
      refine ok_gYes ?_
      refine ⟨fun _ => ?_, fun hc => nomatch hc⟩
      refine ok_toE ?_
      refine ok_bin ?_
      refine ok_toE ?_
      refine ok_bin ?_
      refine ok_var rfl ?_
      refine ok_var rfl ?_
      refine ok_look rfl ?_
      refine ok_look rfl ?_
      refine ok_subI ?_
      refine ⟨rfl, ?_⟩
      refine ok_toE ?_
      refine ok_blt ?_
      refine ok_cons ?_
      refine ok_toE ?_
      refine okt_fComp (en := eI) eI ?_
      refine okt_sqT (f := eI) ?_
      refine ok_toE ?_
      refine ok_fCut ?_
      refine ok_var rfl ?_
      refine ok_at ?_
      refine ok_toE ?_
      refine ok_bin ?_
      refine ok_var rfl ?_
      refine ok_cst ?_
      refine ok_look rfl ?_
      refine ok_look rfl ?_
      refine ok_addI ?_
      refine ⟨rfl, ?_⟩
      refine ok_look rfl ?_
      refine isI ?_
      refine ok_no ?_
      refine ok_look rfl ?_
      refine okt_cutT (f := eI) (xs := a_shape) (lo := (some (x2.1 + (1 : Int)))) (hi := none) ?_
      refine ⟨rfl, ?_⟩
      refine ok_frz (e' := [_, _, _, _, _, _]) rfl ?_
      refine ⟨(cutG a_shape (some (x2.1 + (1 : Int))) none), rfl, ?_⟩
      obtain ⟨v14, hv15, h⟩ := bS h
      refine ⟨(cutG a_shape (some (x2.1 + (1 : Int))) none), fun x13 => (decide (x9 < x13)), fun x13 => (1 : Int), [.val false ((eT eI) a_shape), .own false ((eL (eT eI)) s1), .val false (eI x2.1), .val false (eI x2.2), .dead, .val false (eI x9)], v14, rfl, rfl, hv15, rfl, fun x13 => ?_, ?_⟩
      ·
        refine ok_tgt (d := [_, _, _, _, _, _]) rfl ?_
        refine ok_testV ?_
        refine ok_bin ?_
        refine ok_var rfl ?_
        refine ok_var rfl ?_
        refine ok_look rfl ?_
        refine ok_look rfl ?_
        refine ok_gtI ?_
        refine isBr ?_
        refine ⟨rfl, fun hc => ?_, fun hc => rfl⟩
        refine ok_cst ?_
        refine ok_frz (e' := [_, _, _, _, _, _]) rfl ?_
        exact ⟨rfl, rfl⟩
      refine ⟨rfl, ?_⟩
      refine ok_nil ?_
      refine ok_looks (d := [(eL eI) v14]) rfl ?_
      refine okt_lenL (f := eI) (xs := v14) ?_
      refine ⟨rfl, ?_⟩
      refine ok_look rfl ?_
      refine ok_look rfl ?_
      refine ok_addI ?_
      refine ⟨rfl, ?_⟩
      refine ok_frz (e' := [_, _, _, _, _, _]) rfl ?_
      cases h
      exact ⟨⟨_, rfl, rfl⟩, rfl⟩
    refine ⟨rfl, ?_⟩
    refine ok_nil ?_
    refine ok_looks (d := [(eL eI) v10]) rfl ?_
    refine okt_tupleL (f := eI) (xs := v10) ?_
    refine ⟨rfl, ?_⟩
    refine ok_frz (e' := [_, _, _, _, _, _]) rfl ?_
    obtain ⟨v5, hv6, h⟩ := bS h
    refine ⟨v10, s1, v5, [_, _, _, _, _, _], ⟨rfl, rfl⟩, hv6, rfl, ?_⟩
    cases h
    exact turnS_next (⟨_, _, rfl, rfl, rfl⟩)
  obtain ⟨j3_at, j4_length, rfl, hp_j3_at, hp_j4_length⟩ := he
  refine then_next ?_
  refine ok_ret ?_
  refine ok_blt ?_
  refine ok_cons ?_
  refine ok_var rfl ?_
  refine ok_nil ?_
  refine ok_looks (d := [(eL (eT eI)) s1]) rfl ?_
  refine okt_tupleL (f := (eT eI)) (xs := s1) ?_
  cases h
  exact fnEnd_ret rfl ⟨rfl, rfl⟩
def p_x_law_factorial (a_number : Int) : Option Int :=
  (rngO (2 : Int) (a_number + (1 : Int))).bind fun r1 =>
  (forS (σ := Int) (fun s3 x4 =>
  (mulO s3 x4).bind fun v6 =>
  some v6) r1 (1 : Int)).bind fun s3 =>
  some s3
theorem sp_x_law_factorial (a_number : Int) (r : Int) (h : p_x_law_factorial a_number = some r) : m_x_law_factorial [.val false (eI a_number)] = some (.val (eI r), [.val false (eI a_number)]) := by
  refine ev_fn ?_
  unfold p_x_law_factorial at h
  unfold m_x_law_factorial f_x_law_factorial
  refine ok_fnP (e0 := [.val false (eI a_number), .dead, .dead]) rfl ?_
  refine ok_seq ?_
  refine ok_set ?_
  refine ok_toV ?_
  refine ok_cst ?_
  refine ok_frz (e' := [_, _, _]) rfl ?_
  refine ok_put (d := [_, _, _]) rfl ?_
  refine then_next ?_
  refine ok_seq ?_
  refine ok_for ?_
  refine okh_R2 ?_
  refine ok_cons ?_
  refine ok_cst ?_
  refine ok_cons ?_
  refine ok_toE ?_
  refine ok_bin ?_
  refine ok_var rfl ?_
  refine ok_cst ?_
  refine ok_look rfl ?_
  refine ok_look rfl ?_
  refine ok_addI ?_
  refine ⟨rfl, ?_⟩
  refine ok_nil ?_
  refine ok_looks (d := [eI (2 : Int), eI (a_number + (1 : Int))]) rfl ?_
  obtain ⟨r1, hr2, h⟩ := bS h
  refine ⟨(2 : Int), (a_number + (1 : Int)), r1, rfl, hr2, ?_⟩
  refine okh_forS (σ := Int) (fun (s3 : Int) (e : En) => ∃ j5_factor : Slot, e = [.val false (eI a_number), .val false (eI s3), j5_factor] ∧ j5_factor.pin = false) (fun s3 x4 e s' h he => ?_) (xs := r1) (s0 := (1 : Int)) h (⟨.dead, rfl, rfl⟩) (fun s3 e h he => ?_)
  ·
    obtain ⟨j5_factor, rfl, hp_j5_factor⟩ := he
    refine ok_tgt (d := [.val false (eI a_number), .val false (eI s3), .val false (eI x4)]) (by simp [gTp, hCons, hNil, gNm, putV, pinV, pinO, pinD, eP2, eP3, eP4, hp_j5_factor] <;> rfl) ?_
    refine ok_set ?_
    refine ok_bin ?_
    refine ok_var rfl ?_
    refine ok_var rfl ?_
    refine ok_look rfl ?_
    refine ok_look rfl ?_
    refine okh_mul (i := s3) (j := x4) h fun v6 h => ?_
    refine ok_put (d := [_, _, _]) rfl ?_
    cases h
    exact turnS_next (⟨_, rfl, rfl⟩)
  obtain ⟨j5_factor, rfl, hp_j5_factor⟩ := he
  refine then_next ?_
  refine ok_ret ?_
  refine ok_toV ?_
  refine ok_var rfl ?_
  refine ok_frz (e' := [_, _, _]) rfl ?_
  cases h
  exact fnEnd_ret rfl ⟨rfl, rfl⟩
def p_x_law_records (a_shape : (List Int)) : Option Int :=
  (p_x_law_hooks a_shape).bind fun v1 =>
  (forS (σ := Int) (fun s2 x3 =>
  (forS (σ := Int) (fun s6 x7 =>
  (mulO s6 x7).bind fun v9 =>
  some v9) x3 s2).bind fun s6 =>
  some s6) v1 (1 : Int)).bind fun s2 =>
  (p_x_law_factorial (List.sum a_shape)).bind fun v10 =>
  (divO v10 s2).bind fun v11 =>
  some v11
theorem sp_x_law_records (a_shape : (List Int)) (r : Int) (h : p_x_law_records a_shape = some r) : m_x_law_records [.val false ((eT eI) a_shape)] = some (.val (eI r), [.val false ((eT eI) a_shape)]) := by
  refine ev_fn ?_
  unfold p_x_law_records at h
  unfold m_x_law_records f_x_law_records
  refine ok_fnP (e0 := [.val false ((eT eI) a_shape), .dead, .dead, .dead]) rfl ?_
  refine ok_seq ?_
  refine ok_set ?_
  refine ok_toV ?_
  refine ok_cst ?_
  refine ok_frz (e' := [_, _, _, _]) rfl ?_
  refine ok_put (d := [_, _, _, _]) rfl ?_
  refine then_next ?_
  refine ok_seq ?_
  refine ok_for ?_
  refine okt_sqT (f := (eT eI)) ?_
  refine ok_toE ?_
  refine ok_call ?_
  refine ok_cons ?_
  refine ok_var rfl ?_
  refine ok_nil ?_
  refine ok_lent (d := [.val false ((eT eI) a_shape)]) rfl ?_
  refine okh_call h (fun v hv => sp_x_law_hooks a_shape v hv) fun v1 h => ?_
  refine ok_back (d := [_, _, _, _]) rfl ?_
  refine ⟨rfl, ?_⟩
  refine ok_frz (e' := [_, _, _, _]) rfl ?_
  refine ⟨v1, rfl, ?_⟩
  refine okh_forS (σ := Int) (fun (s2 : Int) (e : En) => ∃ j4_row j5_hook : Slot, e = [.val false ((eT eI) a_shape), .val false (eI s2), j4_row, j5_hook] ∧ j4_row.pin = false ∧ j5_hook.pin = false) (fun s2 x3 e s' h he => ?_) (xs := v1) (s0 := (1 : Int)) h (⟨.dead, .dead, rfl, rfl, rfl⟩) (fun s2 e h he => ?_)
  ·
    obtain ⟨j4_row, j5_hook, rfl, hp_j4_row, hp_j5_hook⟩ := he
    refine ok_tgt (d := [.val false ((eT eI) a_shape), .val false (eI s2), .val false ((eT eI) x3), j5_hook]) (by simp [gTp, hCons, hNil, gNm, putV, pinV, pinO, pinD, eP2, eP3, eP4, hp_j4_row] <;> rfl) ?_
    refine ok_for ?_
    refine okt_sqT (f := eI) ?_
    refine ok_var rfl ?_
    refine ok_frz (e' := [_, _, _, _]) rfl ?_
    refine ⟨x3, rfl, ?_⟩
    refine okh_forS (σ := Int) (fun (s6 : Int) (e : En) => ∃ j8_hook : Slot, e = [.val false ((eT eI) a_shape), .val false (eI s6), .val false ((eT eI) x3), j8_hook] ∧ j8_hook.pin = false) (fun s6 x7 e s' h he => ?_) (xs := x3) (s0 := s2) h (⟨j5_hook, rfl, hp_j5_hook⟩) (fun s6 e h he => ?_)
    ·
      obtain ⟨j8_hook, rfl, hp_j8_hook⟩ := he
      refine ok_tgt (d := [.val false ((eT eI) a_shape), .val false (eI s6), .val false ((eT eI) x3), .val false (eI x7)]) (by simp [gTp, hCons, hNil, gNm, putV, pinV, pinO, pinD, eP2, eP3, eP4, hp_j8_hook] <;> rfl) ?_
      refine ok_set ?_
      refine ok_bin ?_
      refine ok_var rfl ?_
      refine ok_var rfl ?_
      refine ok_look rfl ?_
      refine ok_look rfl ?_
      refine okh_mul (i := s6) (j := x7) h fun v9 h => ?_
      refine ok_put (d := [_, _, _, _]) rfl ?_
      cases h
      exact turnS_next (⟨_, rfl, rfl⟩)
    obtain ⟨j8_hook, rfl, hp_j8_hook⟩ := he
    cases h
    exact turnS_next (⟨_, _, rfl, rfl, hp_j8_hook⟩)
  obtain ⟨j4_row, j5_hook, rfl, hp_j4_row, hp_j5_hook⟩ := he
  refine then_next ?_
  refine ok_ret ?_
  refine ok_blt ?_
  refine ok_cons ?_
  refine ok_toE ?_
  refine ok_bin ?_
  refine ok_toE ?_
  refine ok_call ?_
  refine ok_cons ?_
  refine ok_toE ?_
  refine ok_blt ?_
  refine ok_cons ?_
  refine ok_var rfl ?_
  refine ok_nil ?_
  refine ok_looks (d := [(eT eI) a_shape]) rfl ?_
  refine okt_sumT (xs := a_shape) ?_
  refine ⟨rfl, ?_⟩
  refine ok_nil ?_
  refine ok_lent (d := [.val false (eI (List.sum a_shape))]) rfl ?_
  refine okh_call h (fun v hv => sp_x_law_factorial (List.sum a_shape) v hv) fun v10 h => ?_
  refine ok_back (d := [_, _, _, _]) rfl ?_
  refine ⟨rfl, ?_⟩
  refine ok_var rfl ?_
  refine ok_look rfl ?_
  refine ok_look rfl ?_
  refine okh_div (i := v10) (j := s2) h fun v11 h => ?_
  refine ⟨rfl, ?_⟩
  refine ok_nil ?_
  refine ok_looks (d := [eI v11]) rfl ?_
  refine ok_one (ok_intI ?_)
  cases h
  exact fnEnd_ret rfl ⟨rfl, rfl⟩
def p_x_law_one_1 (a_feed : (List D)) (a_things : (List Int)) : Option (Int × (List D)) :=
  (p_x_law_draw a_feed ((List.length a_things : Nat) : Int)).bind fun v1 =>
  (atI a_things v1.1).bind fun v2 =>
  some (v2, v1.2)
theorem sp_x_law_one_1 (a_feed : (List D)) (a_things : (List Int)) (r : (Int × (List D))) (h : p_x_law_one_1 a_feed a_things = some r) : m_x_law_one [.own true (eF a_feed), .val false ((eL eI) a_things)] = some (.val (eI r.1), [.own true (eF r.2), .val false ((eL eI) a_things)]) := by
  refine ev_fn ?_
  unfold p_x_law_one_1 at h
  unfold m_x_law_one f_x_law_one
  refine ok_fnP (e0 := [.own true (eF a_feed), .val false ((eL eI) a_things)]) rfl ?_
  refine ok_ret ?_
  refine ok_bin ?_
  refine ok_var rfl ?_
  refine ok_toE ?_
  refine ok_call ?_
  refine ok_cons ?_
  refine ok_var rfl ?_
  refine ok_cons ?_
  refine ok_toE ?_
  refine ok_blt ?_
  refine ok_cons ?_
  refine ok_var rfl ?_
  refine ok_nil ?_
  refine ok_looks (d := [(eL eI) a_things]) rfl ?_
  refine okt_lenL (f := eI) (xs := a_things) ?_
  refine ⟨rfl, ?_⟩
  refine ok_nil ?_
  refine ok_lent (d := [.own true (eF a_feed), .val false (eI ((List.length a_things : Nat) : Int))]) rfl ?_
  refine okh_call h (fun v hv => sp_x_law_draw a_feed ((List.length a_things : Nat) : Int) v hv) fun v1 h => ?_
  refine ok_back (d := [_, _]) rfl ?_
  refine ⟨rfl, ?_⟩
  refine ok_look rfl ?_
  refine ok_look rfl ?_
  refine okh_ixL (f := eI) (xs := a_things) (i := v1.1) h fun v2 h => ?_
  cases h
  exact fnEnd_ret rfl ⟨rfl, rfl⟩
def p_x_law_drawn (a_feed : (List D)) (a_many : Int) : Option ((List Int) × (List D)) :=
  (repO [(0 : Int)] (9 : Int)).bind fun v1 =>
  (rngO 0 a_many).bind fun r2 =>
  (forS (σ := (List D) × (List Int) × (List Int)) (fun s4 x5 =>
  (rngO 0 (9 : Int)).bind fun r9 =>
  (compG (fun x11 =>
  (if (decide (x11 = (0 : Int))) = true then
  some true
  else
  (atI s4.2.1 x11).bind fun v17 =>
  (atI s4.2.1 (x11 - (1 : Int))).bind fun v18 =>
  some (decide (v17 < v18))).bind fun v15 =>
  if v15 = true then
  some (some x11)
  else some none) r9).bind fun v12 =>
  (repO (cutG v12 (some (-(1 : Int))) none) (2 : Int)).bind fun v19 =>
  (addO v12 v19).bind fun v20 =>
  (p_x_law_one_1 s4.1 v20).bind fun v21 =>
  (atI s4.2.1 v21.1).bind fun v24 =>
  (setO s4.2.1 v21.1 (v24 + (1 : Int))).bind fun v22 =>
  (appO s4.2.2 (v21.1 + (1 : Int))).bind fun v25 =>
  some (v21.2, v22, v25)) r2 (a_feed, v1, ([] : (List Int)))).bind fun s4 =>
  some (s4.2.2, s4.1)
theorem sp_x_law_drawn (a_feed : (List D)) (a_many : Int) (r : ((List Int) × (List D))) (h : p_x_law_drawn a_feed a_many = some r) : m_x_law_drawn [.own true (eF a_feed), .val false (eI a_many)] = some (.val ((eT eI) r.1), [.own true (eF r.2), .val false (eI a_many)]) := by
  refine ev_fn ?_
  unfold p_x_law_drawn at h
  unfold m_x_law_drawn f_x_law_drawn
  refine ok_fnP (e0 := [.own true (eF a_feed), .val false (eI a_many), .dead, .dead, .dead, .dead, .dead]) rfl ?_
  refine ok_seq ?_
  refine ok_par ?_
  refine ok_bin ?_
  refine ok_toE ?_
  refine ok_lst ?_
  refine ok_cons ?_
  refine ok_cst ?_
  refine ok_nil ?_
  refine ok_frzs (d := [eI (0 : Int)]) (e' := [_, _, _, _, _, _, _]) rfl ?_
  refine ok_okLen (by simp only [List.length_cons, List.length_nil]; decide) ?_
  refine ⟨rfl, ?_⟩
  refine ok_cst ?_
  refine ok_look rfl ?_
  refine ok_look rfl ?_
  refine okh_repL (f := eI) (xs := [(0 : Int)]) (n := (9 : Int)) h fun v1 h => ?_
  refine ok_lst ?_
  refine ok_nil ?_
  refine ok_frzs (d := []) (e' := [_, _, _, _, _, _, _]) rfl ?_
  refine ok_okLen (by simp only [List.length_cons, List.length_nil]; decide) ?_
  refine ok_put (d := [_, _, _, _, _, _, _]) rfl ?_
  refine ok_put (d := [_, _, _, _, _, _, _]) rfl ?_
  refine then_next ?_
  refine ok_seq ?_
  refine ok_for ?_
  refine okh_R1 ?_
  refine ok_cons ?_
  refine ok_var rfl ?_
  refine ok_nil ?_
  refine ok_looks (d := [eI a_many]) rfl ?_
  obtain ⟨r2, hr3, h⟩ := bS h
  refine ⟨a_many, r2, rfl, hr3, ?_⟩
  refine okh_forS (σ := (List D) × (List Int) × (List Int)) (fun (s4 : (List D) × (List Int) × (List Int)) (e : En) => ∃ j6_turn j7_some j8_at : Slot, e = [.own true (eF s4.1), .val false (eI a_many), .own false ((eL eI) s4.2.1), .own false ((eL eI) s4.2.2), j6_turn, j7_some, j8_at] ∧ j6_turn.pin = false ∧ j7_some.pin = false ∧ j8_at.pin = false) (fun s4 x5 e s' h he => ?_) (xs := r2) (s0 := (a_feed, v1, ([] : (List Int)))) h (⟨.dead, .dead, .dead, rfl, rfl, rfl, rfl⟩) (fun s4 e h he => ?_)
  ·
    obtain ⟨j6_turn, j7_some, j8_at, rfl, hp_j6_turn, hp_j7_some, hp_j8_at⟩ := he
    refine ok_tgt (d := [.own true (eF s4.1), .val false (eI a_many), .own false ((eL eI) s4.2.1), .own false ((eL eI) s4.2.2), .val false (eI x5), j7_some, j8_at]) (by simp [gTp, hCons, hNil, gNm, putV, pinV, pinO, pinD, eP2, eP3, eP4, hp_j6_turn] <;> rfl) ?_
    refine ok_seq ?_
    refine ok_sFz ?_
    refine ok_set ?_
    refine okh_fComp (en := eI) eI ?_
    refine okh_R1 ?_
    refine ok_cons ?_
    refine ok_cst ?_
    refine ok_nil ?_
    refine ok_looks (d := [eI (9 : Int)]) rfl ?_
    obtain ⟨r9, hr10, h⟩ := bS h
    refine ⟨(9 : Int), r9, rfl, hr10, ?_⟩
    obtain ⟨v12, hv13, h⟩ := bS h
    refine ⟨r9, _, [.own true (eF s4.1), .val false (eI a_many), .own false ((eL eI) s4.2.1), .own false ((eL eI) s4.2.2), .val false (eI x5), j7_some, .dead], v12, rfl, by simp [freeB, hp_j8_at], hv13, rfl, fun x11 o14 h => ?_, ?_⟩
    ·
      refine ok_tgt (d := [_, _, _, _, _, _, _]) rfl ?_
      obtain ⟨v15, hv16, h⟩ := bS h
      refine ok_testJ v15 ?_ ?_
      ·
        replace h := hv16
        refine ok_gOr ?_
        refine ok_testV ?_
        refine ok_bin ?_
        refine ok_var rfl ?_
        refine ok_cst ?_
        refine ok_look rfl ?_
        refine ok_look rfl ?_
        refine okt_eq (f := eI) (a := x11) (b := (0 : Int)) ?_
        refine isBr ?_
        refine br_ite h (fun hc h => ?_) (fun hc h => ?_)
        ·
          cases h; exact ⟨rfl, rfl⟩
        ·
          refine ok_testV ?_
          refine ok_bin ?_
          refine ok_toE ?_
          refine ok_bin ?_
          refine ok_var rfl ?_
          refine ok_var rfl ?_
          refine ok_look rfl ?_
          refine ok_look rfl ?_
          refine okh_ixL (f := eI) (xs := s4.2.1) (i := x11) h fun v17 h => ?_
          refine ⟨rfl, ?_⟩
          refine ok_toE ?_
          refine ok_bin ?_
          refine ok_var rfl ?_
          refine ok_toE ?_
          refine ok_bin ?_
          refine ok_var rfl ?_
          refine ok_cst ?_
          refine ok_look rfl ?_
          refine ok_look rfl ?_
          refine ok_subI ?_
          refine ⟨rfl, ?_⟩
          refine ok_look rfl ?_
          refine ok_look rfl ?_
          refine okh_ixL (f := eI) (xs := s4.2.1) (i := (x11 - (1 : Int))) h fun v18 h => ?_
          refine ⟨rfl, ?_⟩
          refine ok_look rfl ?_
          refine ok_look rfl ?_
          refine ok_ltI ?_
          refine isBr ?_
          cases h; exact ⟨rfl, rfl⟩
      refine br_ite h (fun hc h => ?_) (fun hc h => ?_)
      ·
        refine ok_var rfl ?_
        refine ok_frz (e' := [_, _, _, _, _, _, _]) rfl ?_
        cases h
        exact ⟨⟨_, rfl, rfl⟩, rfl⟩
      ·
        cases h
        exact ⟨rfl, rfl⟩
    refine ok_put (d := [.own true (eF s4.1), .val false (eI a_many), .own false ((eL eI) s4.2.1), .own false ((eL eI) s4.2.2), .val false (eI x5), .own false ((eL eI) v12), j8_at]) (by simp [putV, setR, hp_j7_some] <;> rfl) ?_
    refine ⟨_, rfl, ?_⟩
    refine ok_frz (e' := [_, _, _, _, _, _, _]) rfl ?_
    refine then_next ?_
    refine ok_seq ?_
    refine ok_set ?_
    refine ok_call ?_
    refine ok_cons ?_
    refine ok_var rfl ?_
    refine ok_cons ?_
    refine ok_toE ?_
    refine ok_bin ?_
    refine ok_var rfl ?_
    refine ok_toE ?_
    refine ok_bin ?_
    refine ok_toE ?_
    refine ok_fCut ?_
    refine ok_var rfl ?_
    refine ok_at ?_
    refine ok_toE ?_
    refine ok_neg ?_
    refine ok_cst ?_
    refine ok_look rfl ?_
    refine isI ?_
    refine ⟨rfl, ?_⟩
    refine ok_look rfl ?_
    refine isI ?_
    refine ok_no ?_
    refine ok_look rfl ?_
    refine okt_cutL (f := eI) (xs := v12) (lo := (some (-(1 : Int)))) (hi := none) ?_
    refine ⟨rfl, ?_⟩
    refine ok_cst ?_
    refine ok_look rfl ?_
    refine ok_look rfl ?_
    refine okh_repL (f := eI) (xs := (cutG v12 (some (-(1 : Int))) none)) (n := (2 : Int)) h fun v19 h => ?_
    refine ⟨rfl, ?_⟩
    refine ok_look rfl ?_
    refine ok_look rfl ?_
    refine okh_addL (f := eI) (xs := v12) (ys := v19) h fun v20 h => ?_
    refine ⟨rfl, ?_⟩
    refine ok_nil ?_
    refine ok_lent (d := [.own true (eF s4.1), .val false ((eL eI) v20)]) rfl ?_
    refine okh_call h (fun v hv => sp_x_law_one_1 s4.1 v20 v hv) fun v21 h => ?_
    refine ok_back (d := [_, _, _, _, _, _, _]) rfl ?_
    refine ok_put (d := [.own true (eF v21.2), .val false (eI a_many), .own false ((eL eI) s4.2.1), .own false ((eL eI) s4.2.2), .val false (eI x5), .val false ((eL eI) v12), .val false (eI v21.1)]) (by simp [putV, setR, hp_j8_at] <;> rfl) ?_
    refine then_next ?_
    refine ok_seq ?_
    refine okh_setIx (g := eI) ?_
    refine ok_bin ?_
    refine ok_toE ?_
    refine ok_bin ?_
    refine ok_var rfl ?_
    refine ok_var rfl ?_
    refine ok_look rfl ?_
    refine ok_look rfl ?_
    refine okh_ixL (f := eI) (xs := s4.2.1) (i := v21.1) h fun v24 h => ?_
    refine ⟨rfl, ?_⟩
    refine ok_cst ?_
    refine ok_look rfl ?_
    refine ok_look rfl ?_
    refine ok_addI ?_
    refine ⟨(v24 + (1 : Int)), _, _, ⟨rfl, rfl⟩, ?_⟩
    refine ok_var rfl ?_
    obtain ⟨v22, hv23, h⟩ := bS h
    refine ⟨_, s4.2.1, v21.1, v22, [_, _, _, _, _, _, _], ⟨rfl, rfl⟩, hv23, rfl, ?_⟩
    refine then_next ?_
    refine ok_expr ?_
    refine okh_append (g := eI) (xs0 := s4.2.2) rfl ?_
    refine ok_toE ?_
    refine ok_bin ?_
    refine ok_var rfl ?_
    refine ok_cst ?_
    refine ok_look rfl ?_
    refine ok_look rfl ?_
    refine ok_addI ?_
    refine ⟨rfl, ?_⟩
    refine ok_frz (e' := [_, _, _, _, _, _, _]) rfl ?_
    obtain ⟨v25, hv26, h⟩ := bS h
    refine ⟨(v21.1 + (1 : Int)), s4.2.2, v25, [_, _, _, _, _, _, _], ⟨rfl, rfl⟩, hv26, rfl, ?_⟩
    cases h
    exact turnS_next (⟨_, _, _, rfl, rfl, rfl, rfl⟩)
  obtain ⟨j6_turn, j7_some, j8_at, rfl, hp_j6_turn, hp_j7_some, hp_j8_at⟩ := he
  refine then_next ?_
  refine ok_ret ?_
  refine ok_blt ?_
  refine ok_cons ?_
  refine ok_var rfl ?_
  refine ok_nil ?_
  refine ok_looks (d := [(eL eI) s4.2.2]) rfl ?_
  refine okt_tupleL (f := eI) (xs := s4.2.2) ?_
  cases h
  exact fnEnd_ret rfl ⟨rfl, rfl⟩
def p_raised (a_word : (List Int)) (a_i : Int) : Option (Option (List Int)) :=
  (p_need_raise a_word a_i).bind fun v1 =>
  (p_raised_word a_word a_i).bind fun v2 =>
  some v2
theorem sp_raised (a_word : (List Int)) (a_i : Int) (r : (Option (List Int))) (h : p_raised a_word a_i = some r) : m_raised [.val false ((eT eI) a_word), .val false (eI a_i)] = some (.val ((eO (eT eI)) r), [.val false ((eT eI) a_word), .val false (eI a_i)]) := by
  refine ev_fn ?_
  unfold p_raised at h
  unfold m_raised f_raised
  refine ok_fnP (e0 := [.val false ((eT eI) a_word), .val false (eI a_i)]) rfl ?_
  refine ok_seq ?_
  refine ok_expr ?_
  refine ok_call ?_
  refine ok_cons ?_
  refine ok_var rfl ?_
  refine ok_cons ?_
  refine ok_var rfl ?_
  refine ok_nil ?_
  refine ok_lent (d := [.val false ((eT eI) a_word), .val false (eI a_i)]) rfl ?_
  refine okh_call h (fun v hv => sp_need_raise a_word a_i v hv) fun v1 h => ?_
  refine ok_back (d := [_, _]) rfl ?_
  refine then_next ?_
  refine ok_ret ?_
  refine ok_call ?_
  refine ok_cons ?_
  refine ok_var rfl ?_
  refine ok_cons ?_
  refine ok_var rfl ?_
  refine ok_nil ?_
  refine ok_lent (d := [.val false ((eT eI) a_word), .val false (eI a_i)]) rfl ?_
  refine okh_call h (fun v hv => sp_raised_word a_word a_i v hv) fun v2 h => ?_
  refine ok_back (d := [_, _]) rfl ?_
  cases h
  exact fnEnd_ret rfl ⟨rfl, rfl⟩
def p_x_law_long_right (a_feed : (List D)) : Option (Bool × (List D)) :=
  (p_x_law_one_1 a_feed [(9 : Int), (20 : Int), (30 : Int)]).bind fun v1 =>
  (p_x_law_drawn v1.2 v1.1).bind fun v2 =>
  ((p_is_lattice v2.1).bind fun v5 =>
  if (!decide (v5 = true)) = true then
  some (true, v2.2)
  else
  (p_x_law_draw v2.2 (8 : Int)).bind fun v6 =>
  (p_raised (List.reverse v2.1) ((1 : Int) + v6.1)).bind fun v7 =>
  some ((v7).isSome, v6.2)).bind fun v3 =>
  if v3.1 = true then
  some (false, v3.2)
  else
  (p_x_law_draw v3.2 ((List.length v2.1 : Nat) : Int)).bind fun v8 =>
  (p_x_law_draw v8.2 ((List.length v2.1 : Nat) : Int)).bind fun v9 =>
  (forP (σ := (List D)) (ρ := (Bool × (List D))) (fun s10 x11 =>
  (p_x_law_draw s10 (9 : Int)).bind fun v14 =>
  (addO (cutG v2.1 none (some x11)) [((1 : Int) + v14.1)]).bind fun v15 =>
  (addO v15 (cutG v2.1 (some (x11 + (1 : Int))) none)).bind fun v16 =>
  (p_is_lattice v16).bind fun v17 =>
  (p_is_lattice v16).bind fun v18 =>
  (p_x_law_is_lattice v16).bind fun v19 =>
  (repO [v19] (2 : Int)).bind fun v20 =>
  (sameO [v17, v18] v20).bind fun v21 =>
  if (!v21) = true then
  some (.rt (false, v14.2))
  else
  (p_highest_of (List.reverse v16)).bind fun v22 =>
  (p_x_law_is_lattice v16).bind fun v23 =>
  if (!decide ((decide (v22.2 = ([] : (List Int)))) = v23)) = true then
  some (.rt (false, v14.2))
  else
  some (.nx v14.2)) [(0 : Int), (((List.length v2.1 : Nat) : Int) - (1 : Int)), v8.1, v9.1] v9.2).bind (retK fun s10 =>
  ((rngO (1 : Int) (10 : Int)).bind fun r26 =>
  (lenG r26).bind fun v28 =>
  (p_is_lattice v28).bind fun v30 =>
  if (decide (v30 = true)) = true then
  (addO [(2 : Int)] (cutG v2.1 none (some (20 : Int)))).bind fun v31 =>
  (p_is_lattice v31).bind fun v32 =>
  some (decide (v32 = false))
  else
  some false).bind fun v24 =>
  some (v24, s10))
theorem sp_x_law_long_right (a_feed : (List D)) (r : (Bool × (List D))) (h : p_x_law_long_right a_feed = some r) : m_x_law_long_right [.own true (eF a_feed)] = some (.val (eB r.1), [.own true (eF r.2)]) := by
  refine ev_fn ?_
  unfold p_x_law_long_right at h
  unfold m_x_law_long_right f_x_law_long_right
  refine ok_fnP (e0 := [.own true (eF a_feed), .dead, .dead, .dead]) rfl ?_
  refine ok_seq ?_
  refine ok_set ?_
  refine ok_call ?_
  refine ok_cons ?_
  refine ok_var rfl ?_
  refine ok_cons ?_
  refine ok_toE ?_
  refine ok_call ?_
  refine ok_cons ?_
  refine ok_var rfl ?_
  refine ok_cons ?_
  refine ok_toE ?_
  refine ok_lst ?_
  refine ok_cons ?_
  refine ok_cst ?_
  refine ok_cons ?_
  refine ok_cst ?_
  refine ok_cons ?_
  refine ok_cst ?_
  refine ok_nil ?_
  refine ok_frzs (d := [eI (9 : Int), eI (20 : Int), eI (30 : Int)]) (e' := [_, _, _, _]) rfl ?_
  refine ok_okLen (by simp only [List.length_cons, List.length_nil]; decide) ?_
  refine ⟨rfl, ?_⟩
  refine ok_nil ?_
  refine ok_lent (d := [.own true (eF a_feed), .val false ((eL eI) [(9 : Int), (20 : Int), (30 : Int)])]) rfl ?_
  refine okh_call h (fun v hv => sp_x_law_one_1 a_feed [(9 : Int), (20 : Int), (30 : Int)] v hv) fun v1 h => ?_
  refine ok_back (d := [_, _, _, _]) rfl ?_
  refine ⟨rfl, ?_⟩
  refine ok_nil ?_
  refine ok_lent (d := [.own true (eF v1.2), .val false (eI v1.1)]) rfl ?_
  refine okh_call h (fun v hv => sp_x_law_drawn v1.2 v1.1 v hv) fun v2 h => ?_
  refine ok_back (d := [_, _, _, _]) rfl ?_
  refine ok_put (d := [_, _, _, _]) rfl ?_
  refine then_next ?_
  refine ok_seq ?_
  refine ok_sIf ?_
  obtain ⟨v3, hv4, h⟩ := bS h
  refine ok_testJ2 v3.1 [.own true (eF v3.2), .val false ((eT eI) v2.1), .dead, .dead] ?_ ?_
  ·
    replace h := hv4
    refine ok_gOr ?_
    refine ok_testV ?_
    refine ok_bin ?_
    refine ok_toE ?_
    refine ok_call ?_
    refine ok_cons ?_
    refine ok_var rfl ?_
    refine ok_nil ?_
    refine ok_lent (d := [.val false ((eT eI) v2.1)]) rfl ?_
    refine okh_call h (fun v hv => sp_is_lattice v2.1 v hv) fun v5 h => ?_
    refine ok_back (d := [_, _, _, _]) rfl ?_
    refine ⟨rfl, ?_⟩
    refine ok_cst ?_
    refine ok_look rfl ?_
    refine ok_look rfl ?_
    refine okt_notB (a := v5) (b := true) ?_
    refine isBr ?_
    refine br_ite h (fun hc h => ?_) (fun hc h => ?_)
    ·
      cases h; exact ⟨rfl, rfl⟩
    ·
      refine ok_testV ?_
      refine ok_bin ?_
      refine ok_toE ?_
      refine ok_call ?_
      refine ok_cons ?_
      refine ok_toE ?_
      refine ok_un ?_
      refine ok_var rfl ?_
      refine ok_look rfl ?_
      refine okt_revT (f := eI) (xs := v2.1) ?_
      refine ⟨rfl, ?_⟩
      refine ok_cons ?_
      refine ok_toE ?_
      refine ok_bin ?_
      refine ok_cst ?_
      refine ok_toE ?_
      refine ok_call ?_
      refine ok_cons ?_
      refine ok_var rfl ?_
      refine ok_cons ?_
      refine ok_cst ?_
      refine ok_nil ?_
      refine ok_lent (d := [.own true (eF v2.2), .val false (eI (8 : Int))]) rfl ?_
      refine okh_call h (fun v hv => sp_x_law_draw v2.2 (8 : Int) v hv) fun v6 h => ?_
      refine ok_back (d := [_, _, _, _]) rfl ?_
      refine ⟨rfl, ?_⟩
      refine ok_look rfl ?_
      refine ok_look rfl ?_
      refine ok_addI ?_
      refine ⟨rfl, ?_⟩
      refine ok_nil ?_
      refine ok_lent (d := [.val false ((eT eI) (List.reverse v2.1)), .val false (eI ((1 : Int) + v6.1))]) rfl ?_
      refine okh_call h (fun v hv => sp_raised (List.reverse v2.1) ((1 : Int) + v6.1) v hv) fun v7 h => ?_
      refine ok_back (d := [_, _, _, _]) rfl ?_
      refine ⟨rfl, ?_⟩
      refine ok_cst ?_
      refine ok_look rfl ?_
      refine ok_look rfl ?_
      refine okt_notN (f := (eT eI)) (x := v7) ?_
      refine isBr ?_
      cases h; exact ⟨rfl, rfl⟩
  refine br_ite h (fun hc h => ?_) (fun hc h => ?_)
  ·
    refine ok_ret ?_
    refine ok_toV ?_
    refine ok_cst ?_
    refine ok_frz (e' := [_, _, _, _]) rfl ?_
    refine then_ret ?_
    cases h
    exact fnEnd_ret rfl ⟨rfl, rfl⟩
  ·
    refine ok_next ?_
    refine then_next ?_
    refine ok_seq ?_
    refine ok_for ?_
    refine okt_sqT (f := eI) ?_
    refine ok_toE ?_
    refine ok_tup ?_
    refine ok_cons ?_
    refine ok_cst ?_
    refine ok_cons ?_
    refine ok_toE ?_
    refine ok_bin ?_
    refine ok_toE ?_
    refine ok_blt ?_
    refine ok_cons ?_
    refine ok_var rfl ?_
    refine ok_nil ?_
    refine ok_looks (d := [(eT eI) v2.1]) rfl ?_
    refine okt_lenT (f := eI) (xs := v2.1) ?_
    refine ⟨rfl, ?_⟩
    refine ok_cst ?_
    refine ok_look rfl ?_
    refine ok_look rfl ?_
    refine ok_subI ?_
    refine ⟨rfl, ?_⟩
    refine ok_cons ?_
    refine ok_toE ?_
    refine ok_call ?_
    refine ok_cons ?_
    refine ok_var rfl ?_
    refine ok_cons ?_
    refine ok_toE ?_
    refine ok_blt ?_
    refine ok_cons ?_
    refine ok_var rfl ?_
    refine ok_nil ?_
    refine ok_looks (d := [(eT eI) v2.1]) rfl ?_
    refine okt_lenT (f := eI) (xs := v2.1) ?_
    refine ⟨rfl, ?_⟩
    refine ok_nil ?_
    refine ok_lent (d := [.own true (eF v3.2), .val false (eI ((List.length v2.1 : Nat) : Int))]) rfl ?_
    refine okh_call h (fun v hv => sp_x_law_draw v3.2 ((List.length v2.1 : Nat) : Int) v hv) fun v8 h => ?_
    refine ok_back (d := [_, _, _, _]) rfl ?_
    refine ⟨rfl, ?_⟩
    refine ok_cons ?_
    refine ok_toE ?_
    refine ok_call ?_
    refine ok_cons ?_
    refine ok_var rfl ?_
    refine ok_cons ?_
    refine ok_toE ?_
    refine ok_blt ?_
    refine ok_cons ?_
    refine ok_var rfl ?_
    refine ok_nil ?_
    refine ok_looks (d := [(eT eI) v2.1]) rfl ?_
    refine okt_lenT (f := eI) (xs := v2.1) ?_
    refine ⟨rfl, ?_⟩
    refine ok_nil ?_
    refine ok_lent (d := [.own true (eF v8.2), .val false (eI ((List.length v2.1 : Nat) : Int))]) rfl ?_
    refine okh_call h (fun v hv => sp_x_law_draw v8.2 ((List.length v2.1 : Nat) : Int) v hv) fun v9 h => ?_
    refine ok_back (d := [_, _, _, _]) rfl ?_
    refine ⟨rfl, ?_⟩
    refine ok_nil ?_
    refine ok_frzs (d := [eI (0 : Int), eI (((List.length v2.1 : Nat) : Int) - (1 : Int)), eI v8.1, eI v9.1]) (e' := [_, _, _, _]) rfl ?_
    refine ok_okLen (by simp only [List.length_cons, List.length_nil]; decide) ?_
    refine ⟨rfl, ?_⟩
    refine ok_frz (e' := [_, _, _, _]) rfl ?_
    refine ⟨[(0 : Int), (((List.length v2.1 : Nat) : Int) - (1 : Int)), v8.1, v9.1], rfl, ?_⟩
    refine okh_forP (σ := (List D)) (ρ := (Bool × (List D))) (fun (s10 : (List D)) (e : En) => ∃ j12_at j13_bent : Slot, e = [.own true (eF s10), .val false ((eT eI) v2.1), j12_at, j13_bent] ∧ j12_at.pin = false ∧ j13_bent.pin = false) (fun v z e => z = .val (eB v.1) ∧ fixO [.own true (eF a_feed)] e = [.own true (eF v.2)]) (xs := [(0 : Int), (((List.length v2.1 : Nat) : Int) - (1 : Int)), v8.1, v9.1]) (s0 := v9.2) h (⟨.dead, .dead, rfl, rfl, rfl⟩) (fun s10 x11 e t h he => ?_) (fun s10 e h he => ?_) (fun z e hz => ?_)
    ·
      obtain ⟨j12_at, j13_bent, rfl, hp_j12_at, hp_j13_bent⟩ := he
      refine ok_tgt (d := [.own true (eF s10), .val false ((eT eI) v2.1), .val false (eI x11), j13_bent]) (by simp [gTp, hCons, hNil, gNm, putV, pinV, pinO, pinD, eP2, eP3, eP4, hp_j12_at] <;> rfl) ?_
      refine ok_seq ?_
      refine ok_set ?_
      refine ok_bin ?_
      refine ok_toE ?_
      refine ok_bin ?_
      refine ok_toE ?_
      refine ok_fCut ?_
      refine ok_var rfl ?_
      refine ok_no ?_
      refine ok_at ?_
      refine ok_var rfl ?_
      refine ok_look rfl ?_
      refine isI ?_
      refine ok_look rfl ?_
      refine okt_cutT (f := eI) (xs := v2.1) (lo := none) (hi := (some x11)) ?_
      refine ⟨rfl, ?_⟩
      refine ok_toE ?_
      refine ok_tup ?_
      refine ok_cons ?_
      refine ok_toE ?_
      refine ok_bin ?_
      refine ok_cst ?_
      refine ok_toE ?_
      refine ok_call ?_
      refine ok_cons ?_
      refine ok_var rfl ?_
      refine ok_cons ?_
      refine ok_cst ?_
      refine ok_nil ?_
      refine ok_lent (d := [.own true (eF s10), .val false (eI (9 : Int))]) rfl ?_
      refine okh_call h (fun v hv => sp_x_law_draw s10 (9 : Int) v hv) fun v14 h => ?_
      refine ok_back (d := [_, _, _, _]) rfl ?_
      refine ⟨rfl, ?_⟩
      refine ok_look rfl ?_
      refine ok_look rfl ?_
      refine ok_addI ?_
      refine ⟨rfl, ?_⟩
      refine ok_nil ?_
      refine ok_frzs (d := [eI ((1 : Int) + v14.1)]) (e' := [_, _, _, _]) rfl ?_
      refine ok_okLen (by simp only [List.length_cons, List.length_nil]; decide) ?_
      refine ⟨rfl, ?_⟩
      refine ok_look rfl ?_
      refine ok_look rfl ?_
      refine okh_addT (f := eI) (xs := (cutG v2.1 none (some x11))) (ys := [((1 : Int) + v14.1)]) h fun v15 h => ?_
      refine ⟨rfl, ?_⟩
      refine ok_toE ?_
      refine ok_fCut ?_
      refine ok_var rfl ?_
      refine ok_at ?_
      refine ok_toE ?_
      refine ok_bin ?_
      refine ok_var rfl ?_
      refine ok_cst ?_
      refine ok_look rfl ?_
      refine ok_look rfl ?_
      refine ok_addI ?_
      refine ⟨rfl, ?_⟩
      refine ok_look rfl ?_
      refine isI ?_
      refine ok_no ?_
      refine ok_look rfl ?_
      refine okt_cutT (f := eI) (xs := v2.1) (lo := (some (x11 + (1 : Int)))) (hi := none) ?_
      refine ⟨rfl, ?_⟩
      refine ok_look rfl ?_
      refine ok_look rfl ?_
      refine okh_addT (f := eI) (xs := v15) (ys := (cutG v2.1 (some (x11 + (1 : Int))) none)) h fun v16 h => ?_
      refine ok_put (d := [.own true (eF v14.2), .val false ((eT eI) v2.1), .val false (eI x11), .val false ((eT eI) v16)]) (by simp [putV, setR, hp_j13_bent] <;> rfl) ?_
      refine then_next ?_
      refine ok_seq ?_
      refine ok_sIf ?_
      refine ok_gNot ?_
      refine ok_truth ?_
      refine ok_toE ?_
      refine ok_call ?_
      refine ok_cons ?_
      refine ok_toE ?_
      refine ok_lst ?_
      refine ok_cons ?_
      refine ok_toE ?_
      refine ok_call ?_
      refine ok_cons ?_
      refine ok_var rfl ?_
      refine ok_nil ?_
      refine ok_lent (d := [.val false ((eT eI) v16)]) rfl ?_
      refine okh_call h (fun v hv => sp_is_lattice v16 v hv) fun v17 h => ?_
      refine ok_back (d := [_, _, _, _]) rfl ?_
      refine ⟨rfl, ?_⟩
      refine ok_cons ?_
      refine ok_toE ?_
      refine ok_call ?_
      refine ok_cons ?_
      refine ok_var rfl ?_
      refine ok_nil ?_
      refine ok_lent (d := [.val false ((eT eI) v16)]) rfl ?_
      refine okh_call h (fun v hv => sp_is_lattice v16 v hv) fun v18 h => ?_
      refine ok_back (d := [_, _, _, _]) rfl ?_
      refine ⟨rfl, ?_⟩
      refine ok_nil ?_
      refine ok_frzs (d := [eB v17, eB v18]) (e' := [_, _, _, _]) rfl ?_
      refine ok_okLen (by simp only [List.length_cons, List.length_nil]; decide) ?_
      refine ⟨rfl, ?_⟩
      refine ok_cons ?_
      refine ok_toE ?_
      refine ok_bin ?_
      refine ok_toE ?_
      refine ok_lst ?_
      refine ok_cons ?_
      refine ok_toE ?_
      refine ok_call ?_
      refine ok_cons ?_
      refine ok_var rfl ?_
      refine ok_nil ?_
      refine ok_lent (d := [.val false ((eT eI) v16)]) rfl ?_
      refine okh_call h (fun v hv => sp_x_law_is_lattice v16 v hv) fun v19 h => ?_
      refine ok_back (d := [_, _, _, _]) rfl ?_
      refine ⟨rfl, ?_⟩
      refine ok_nil ?_
      refine ok_frzs (d := [eB v19]) (e' := [_, _, _, _]) rfl ?_
      refine ok_okLen (by simp only [List.length_cons, List.length_nil]; decide) ?_
      refine ⟨rfl, ?_⟩
      refine ok_cst ?_
      refine ok_look rfl ?_
      refine ok_look rfl ?_
      refine okh_repL (f := eB) (xs := [v19]) (n := (2 : Int)) h fun v20 h => ?_
      refine ⟨rfl, ?_⟩
      refine ok_nil ?_
      refine ok_lent (d := [.val false ((eL eB) [v17, v18]), .val false ((eL eB) v20)]) rfl ?_
      refine okh_call h (fun v hv => sp_x_law_same (eL eB) [v17, v18] v20 v hv) fun v21 h => ?_
      refine ok_back (d := [_, _, _, _]) rfl ?_
      refine ⟨rfl, ?_⟩
      refine ok_look rfl ?_
      refine ok_truthD rfl ?_
      refine br_ite h (fun hc h => ?_) (fun hc h => ?_)
      ·
        refine ok_ret ?_
        refine ok_toV ?_
        refine ok_cst ?_
        refine ok_frz (e' := [_, _, _, _]) rfl ?_
        refine then_ret ?_
        cases h
        exact turnP_ret ⟨rfl, rfl⟩
      ·
        refine ok_next ?_
        refine then_next ?_
        refine ok_sIf ?_
        refine ok_testV ?_
        refine ok_bin ?_
        refine ok_toE ?_
        refine ok_bin ?_
        refine ok_toE ?_
        refine ok_bin ?_
        refine ok_toE ?_
        refine ok_call ?_
        refine ok_cons ?_
        refine ok_toE ?_
        refine ok_un ?_
        refine ok_var rfl ?_
        refine ok_look rfl ?_
        refine okt_revT (f := eI) (xs := v16) ?_
        refine ⟨rfl, ?_⟩
        refine ok_nil ?_
        refine ok_lent (d := [.val false ((eT eI) (List.reverse v16))]) rfl ?_
        refine okh_call h (fun v hv => sp_highest_of (List.reverse v16) v hv) fun v22 h => ?_
        refine ok_back (d := [_, _, _, _]) rfl ?_
        refine ⟨rfl, ?_⟩
        refine ok_cst ?_
        refine ok_look rfl ?_
        refine ok_look rfl ?_
        refine ok_ixT (d := (eT eI) v22.2) rfl ?_
        refine ⟨rfl, ?_⟩
        refine ok_toE ?_
        refine ok_tup ?_
        refine ok_nil ?_
        refine ok_frzs (d := []) (e' := [_, _, _, _]) rfl ?_
        refine ok_okLen (by simp only [List.length_cons, List.length_nil]; decide) ?_
        refine ⟨rfl, ?_⟩
        refine ok_look rfl ?_
        refine ok_look rfl ?_
        refine okt_eq (f := (eT eI)) (a := v22.2) (b := ([] : (List Int))) ?_
        refine ⟨rfl, ?_⟩
        refine ok_toE ?_
        refine ok_call ?_
        refine ok_cons ?_
        refine ok_var rfl ?_
        refine ok_nil ?_
        refine ok_lent (d := [.val false ((eT eI) v16)]) rfl ?_
        refine okh_call h (fun v hv => sp_x_law_is_lattice v16 v hv) fun v23 h => ?_
        refine ok_back (d := [_, _, _, _]) rfl ?_
        refine ⟨rfl, ?_⟩
        refine ok_look rfl ?_
        refine ok_look rfl ?_
        refine okt_ne (f := eB) (a := (decide (v22.2 = ([] : (List Int))))) (b := v23) ?_
        refine isBr ?_
        refine br_ite h (fun hc h => ?_) (fun hc h => ?_)
        ·
          refine ok_ret ?_
          refine ok_toV ?_
          refine ok_cst ?_
          refine ok_frz (e' := [_, _, _, _]) rfl ?_
          cases h
          exact turnP_ret ⟨rfl, rfl⟩
        ·
          refine ok_next ?_
          cases h
          exact turnP_next (⟨_, _, rfl, rfl, rfl⟩)
    ·
      obtain ⟨j12_at, j13_bent, rfl, hp_j12_at, hp_j13_bent⟩ := he
      refine then_next ?_
      refine ok_ret ?_
      obtain ⟨v24, hv25, h⟩ := bS h
      refine ok_joinV2 (.bool v24) [.own true (eF s10), .val false ((eT eI) v2.1), j12_at, j13_bent] ?_ ?_
      ·
        replace h := hv25
        refine ok_and ?_
        refine ok_toE ?_
        refine ok_bin ?_
        refine ok_toE ?_
        refine ok_call ?_
        refine ok_cons ?_
        refine ok_toE ?_
        refine okh_tupR ?_
        refine okh_R2 ?_
        refine ok_cons ?_
        refine ok_cst ?_
        refine ok_cons ?_
        refine ok_cst ?_
        refine ok_nil ?_
        refine ok_looks (d := [eI (1 : Int), eI (10 : Int)]) rfl ?_
        obtain ⟨r26, hr27, h⟩ := bS h
        refine ⟨(1 : Int), (10 : Int), r26, rfl, hr27, ?_⟩
        obtain ⟨v28, hv29, h⟩ := bS h
        refine ⟨r26, v28, rfl, hv29, ?_⟩
        refine ⟨rfl, ?_⟩
        refine ok_nil ?_
        refine ok_lent (d := [.val false ((eT eI) v28)]) rfl ?_
        refine okh_call h (fun v hv => sp_is_lattice v28 v hv) fun v30 h => ?_
        refine ok_back (d := [_, _, _, _]) rfl ?_
        refine ⟨rfl, ?_⟩
        refine ok_cst ?_
        refine ok_look rfl ?_
        refine ok_look rfl ?_
        refine okt_isB (a := v30) (b := true) ?_
        refine ⟨rfl, ?_⟩
        refine ok_look rfl ?_
        refine isB ?_
        refine br_ite h (fun hc h => ?_) (fun hc h => ?_)
        ·
          refine ok_toE ?_
          refine ok_bin ?_
          refine ok_toE ?_
          refine ok_call ?_
          refine ok_cons ?_
          refine ok_toE ?_
          refine ok_bin ?_
          refine ok_toE ?_
          refine ok_tup ?_
          refine ok_cons ?_
          refine ok_cst ?_
          refine ok_nil ?_
          refine ok_frzs (d := [eI (2 : Int)]) (e' := [_, _, _, _]) rfl ?_
          refine ok_okLen (by simp only [List.length_cons, List.length_nil]; decide) ?_
          refine ⟨rfl, ?_⟩
          refine ok_toE ?_
          refine ok_fCut ?_
          refine ok_var rfl ?_
          refine ok_no ?_
          refine ok_at ?_
          refine ok_cst ?_
          refine ok_look rfl ?_
          refine isI ?_
          refine ok_look rfl ?_
          refine okt_cutT (f := eI) (xs := v2.1) (lo := none) (hi := (some (20 : Int))) ?_
          refine ⟨rfl, ?_⟩
          refine ok_look rfl ?_
          refine ok_look rfl ?_
          refine okh_addT (f := eI) (xs := [(2 : Int)]) (ys := (cutG v2.1 none (some (20 : Int)))) h fun v31 h => ?_
          refine ⟨rfl, ?_⟩
          refine ok_nil ?_
          refine ok_lent (d := [.val false ((eT eI) v31)]) rfl ?_
          refine okh_call h (fun v hv => sp_is_lattice v31 v hv) fun v32 h => ?_
          refine ok_back (d := [_, _, _, _]) rfl ?_
          refine ⟨rfl, ?_⟩
          refine ok_cst ?_
          refine ok_look rfl ?_
          refine ok_look rfl ?_
          refine okt_isB (a := v32) (b := false) ?_
          refine ⟨rfl, ?_⟩
          cases h; rfl
        ·
          cases h; rfl
      cases h
      exact fnEnd_ret rfl ⟨rfl, rfl⟩
    ·
      refine then_ret ?_
      exact hz
def p_law (a_script : (List Int)) : Option Bool :=
  (p_x_law_feed a_script (0 : Int)).bind fun v1 =>
  (p_x_law_one_0 v1 [([(1 : Int), (2 : Int), (3 : Int)], (6 : Int)), ([(1 : Int), (2 : Int), (3 : Int), (4 : Int)], (4 : Int)), ([(1 : Int), (2 : Int)], (8 : Int)), ([(2 : Int), (3 : Int)], (5 : Int)), ([(1 : Int), (3 : Int)], (5 : Int))]).bind fun v2 =>
  (p_x_law_every v2.1.1 v2.1.2).bind fun v3 =>
  (forP (σ := (List ((List Int) × Int))) (ρ := Bool) (fun s4 x5 =>
  (p_x_law_is_lattice x5).bind fun v11 =>
  (p_is_lattice x5).bind fun v12 =>
  (sameO v12 v11).bind fun v13 =>
  if (!v13) = true then
  some (.rt false)
  else
  if v11 = true then
  (p_content_of x5).bind fun v14 =>
  (dputO s4 v14 (((dget s4 v14).getD (0 : Int)) + (1 : Int))).bind fun v15 =>
  (compG (fun x17 =>
  if (decide ((0 : Int) < x17.2)) = true then
  (repTO [(x17.1 + (1 : Int))] x17.2).bind fun v21 =>
  some (some v21)
  else some none) (enumF 0 v14)).bind fun v18 =>
  (p_highest_of (List.reverse x5)).bind fun v22 =>
  (rngO (1 : Int) (9 : Int)).bind fun r23 =>
  (compG (fun x25 =>
  (p_room_up (List.reverse x5) x25).bind fun v29 =>
  some (some v29)) r23).bind fun v26 =>
  (p_tableau_of (List.reverse x5)).bind fun v30 =>
  (repO [(0 : Int)] (8 : Int)).bind fun v31 =>
  (sameO (v22, v26, v30) (((List.reverse x5), ([] : (List Int))), v31, v18)).bind fun v32 =>
  if (!v32) = true then
  some (.rt false)
  else
  some (.nx v15)
  else
  some (.nx s4)) v3 ([] : (List ((List Int) × Int)))).bind (retK fun s4 =>
  (forP (σ := Unit) (ρ := Bool) (fun s33 x34 =>
  (mapG (fun x37 => (decide ((0 : Int) < x37))) (fun x37 => x37) x34).bind fun v38 =>
  (if (!decide (x34 = (List.reverse (sortI x34)))) = true then
  some true
  else
  (dget s4 x34).bind fun v42 =>
  (p_x_law_records v38).bind fun v44 =>
  some (!decide (v42 = v44))).bind fun v40 =>
  if v40 = true then
  some (.rt false)
  else
  some (.nx ())) (List.map (fun p => p.1) s4) ()).bind (retK fun s33 =>
  (p_x_law_long_right v2.2).bind fun v45 =>
  some v45.1))
theorem sp_law (a_script : (List Int)) (r : Bool) (h : p_law a_script = some r) : m_law [.val false ((eL eI) a_script)] = some (.val (eB r), [.val false ((eL eI) a_script)]) := by
  refine ev_fn ?_
  unfold p_law at h
  unfold m_law f_law
  refine ok_fnP (e0 := [.val false ((eL eI) a_script), .dead, .dead, .dead, .dead, .dead, .dead, .dead, .dead, .dead, .dead, .dead, .dead, .dead]) rfl ?_
  refine ok_seq ?_
  refine ok_set ?_
  refine ok_call ?_
  refine ok_cons ?_
  refine ok_var rfl ?_
  refine ok_cons ?_
  refine ok_cst ?_
  refine ok_nil ?_
  refine ok_lent (d := [.val false ((eL eI) a_script), .val false (eI (0 : Int))]) rfl ?_
  refine okh_call h (fun v hv => sp_x_law_feed a_script (0 : Int) v hv) fun v1 h => ?_
  refine ok_back (d := [_, _, _, _, _, _, _, _, _, _, _, _, _, _]) rfl ?_
  refine ok_put (d := [_, _, _, _, _, _, _, _, _, _, _, _, _, _]) rfl ?_
  refine then_next ?_
  refine ok_seq ?_
  refine ok_asg ?_
  refine ok_call ?_
  refine ok_cons ?_
  refine ok_var rfl ?_
  refine ok_cons ?_
  refine ok_toE ?_
  refine ok_lst ?_
  refine ok_cons ?_
  refine ok_toE ?_
  refine ok_tup ?_
  refine ok_cons ?_
  refine ok_toE ?_
  refine ok_lst ?_
  refine ok_cons ?_
  refine ok_cst ?_
  refine ok_cons ?_
  refine ok_cst ?_
  refine ok_cons ?_
  refine ok_cst ?_
  refine ok_nil ?_
  refine ok_frzs (d := [eI (1 : Int), eI (2 : Int), eI (3 : Int)]) (e' := [_, _, _, _, _, _, _, _, _, _, _, _, _, _]) rfl ?_
  refine ok_okLen (by simp only [List.length_cons, List.length_nil]; decide) ?_
  refine ⟨rfl, ?_⟩
  refine ok_cons ?_
  refine ok_cst ?_
  refine ok_nil ?_
  refine ok_frzs (d := [(eL eI) [(1 : Int), (2 : Int), (3 : Int)], eI (6 : Int)]) (e' := [_, _, _, _, _, _, _, _, _, _, _, _, _, _]) rfl ?_
  refine ok_okLen (by simp only [List.length_cons, List.length_nil]; decide) ?_
  refine ⟨rfl, ?_⟩
  refine ok_cons ?_
  refine ok_toE ?_
  refine ok_tup ?_
  refine ok_cons ?_
  refine ok_toE ?_
  refine ok_lst ?_
  refine ok_cons ?_
  refine ok_cst ?_
  refine ok_cons ?_
  refine ok_cst ?_
  refine ok_cons ?_
  refine ok_cst ?_
  refine ok_cons ?_
  refine ok_cst ?_
  refine ok_nil ?_
  refine ok_frzs (d := [eI (1 : Int), eI (2 : Int), eI (3 : Int), eI (4 : Int)]) (e' := [_, _, _, _, _, _, _, _, _, _, _, _, _, _]) rfl ?_
  refine ok_okLen (by simp only [List.length_cons, List.length_nil]; decide) ?_
  refine ⟨rfl, ?_⟩
  refine ok_cons ?_
  refine ok_cst ?_
  refine ok_nil ?_
  refine ok_frzs (d := [(eL eI) [(1 : Int), (2 : Int), (3 : Int), (4 : Int)], eI (4 : Int)]) (e' := [_, _, _, _, _, _, _, _, _, _, _, _, _, _]) rfl ?_
  refine ok_okLen (by simp only [List.length_cons, List.length_nil]; decide) ?_
  refine ⟨rfl, ?_⟩
  refine ok_cons ?_
  refine ok_toE ?_
  refine ok_tup ?_
  refine ok_cons ?_
  refine ok_toE ?_
  refine ok_lst ?_
  refine ok_cons ?_
  refine ok_cst ?_
  refine ok_cons ?_
  refine ok_cst ?_
  refine ok_nil ?_
  refine ok_frzs (d := [eI (1 : Int), eI (2 : Int)]) (e' := [_, _, _, _, _, _, _, _, _, _, _, _, _, _]) rfl ?_
  refine ok_okLen (by simp only [List.length_cons, List.length_nil]; decide) ?_
  refine ⟨rfl, ?_⟩
  refine ok_cons ?_
  refine ok_cst ?_
  refine ok_nil ?_
  refine ok_frzs (d := [(eL eI) [(1 : Int), (2 : Int)], eI (8 : Int)]) (e' := [_, _, _, _, _, _, _, _, _, _, _, _, _, _]) rfl ?_
  refine ok_okLen (by simp only [List.length_cons, List.length_nil]; decide) ?_
  refine ⟨rfl, ?_⟩
  refine ok_cons ?_
  refine ok_toE ?_
  refine ok_tup ?_
  refine ok_cons ?_
  refine ok_toE ?_
  refine ok_lst ?_
  refine ok_cons ?_
  refine ok_cst ?_
  refine ok_cons ?_
  refine ok_cst ?_
  refine ok_nil ?_
  refine ok_frzs (d := [eI (2 : Int), eI (3 : Int)]) (e' := [_, _, _, _, _, _, _, _, _, _, _, _, _, _]) rfl ?_
  refine ok_okLen (by simp only [List.length_cons, List.length_nil]; decide) ?_
  refine ⟨rfl, ?_⟩
  refine ok_cons ?_
  refine ok_cst ?_
  refine ok_nil ?_
  refine ok_frzs (d := [(eL eI) [(2 : Int), (3 : Int)], eI (5 : Int)]) (e' := [_, _, _, _, _, _, _, _, _, _, _, _, _, _]) rfl ?_
  refine ok_okLen (by simp only [List.length_cons, List.length_nil]; decide) ?_
  refine ⟨rfl, ?_⟩
  refine ok_cons ?_
  refine ok_toE ?_
  refine ok_tup ?_
  refine ok_cons ?_
  refine ok_toE ?_
  refine ok_lst ?_
  refine ok_cons ?_
  refine ok_cst ?_
  refine ok_cons ?_
  refine ok_cst ?_
  refine ok_nil ?_
  refine ok_frzs (d := [eI (1 : Int), eI (3 : Int)]) (e' := [_, _, _, _, _, _, _, _, _, _, _, _, _, _]) rfl ?_
  refine ok_okLen (by simp only [List.length_cons, List.length_nil]; decide) ?_
  refine ⟨rfl, ?_⟩
  refine ok_cons ?_
  refine ok_cst ?_
  refine ok_nil ?_
  refine ok_frzs (d := [(eL eI) [(1 : Int), (3 : Int)], eI (5 : Int)]) (e' := [_, _, _, _, _, _, _, _, _, _, _, _, _, _]) rfl ?_
  refine ok_okLen (by simp only [List.length_cons, List.length_nil]; decide) ?_
  refine ⟨rfl, ?_⟩
  refine ok_nil ?_
  refine ok_frzs (d := [(eP2 (eL eI) eI) ([(1 : Int), (2 : Int), (3 : Int)], (6 : Int)), (eP2 (eL eI) eI) ([(1 : Int), (2 : Int), (3 : Int), (4 : Int)], (4 : Int)), (eP2 (eL eI) eI) ([(1 : Int), (2 : Int)], (8 : Int)), (eP2 (eL eI) eI) ([(2 : Int), (3 : Int)], (5 : Int)), (eP2 (eL eI) eI) ([(1 : Int), (3 : Int)], (5 : Int))]) (e' := [_, _, _, _, _, _, _, _, _, _, _, _, _, _]) rfl ?_
  refine ok_okLen (by simp only [List.length_cons, List.length_nil]; decide) ?_
  refine ⟨rfl, ?_⟩
  refine ok_nil ?_
  refine ok_lent (d := [.own true (eF v1), .val false ((eL (eP2 (eL eI) eI)) [([(1 : Int), (2 : Int), (3 : Int)], (6 : Int)), ([(1 : Int), (2 : Int), (3 : Int), (4 : Int)], (4 : Int)), ([(1 : Int), (2 : Int)], (8 : Int)), ([(2 : Int), (3 : Int)], (5 : Int)), ([(1 : Int), (3 : Int)], (5 : Int))])]) rfl ?_
  refine okh_call h (fun v hv => sp_x_law_one_0 v1 [([(1 : Int), (2 : Int), (3 : Int)], (6 : Int)), ([(1 : Int), (2 : Int), (3 : Int), (4 : Int)], (4 : Int)), ([(1 : Int), (2 : Int)], (8 : Int)), ([(2 : Int), (3 : Int)], (5 : Int)), ([(1 : Int), (3 : Int)], (5 : Int))] v hv) fun v2 h => ?_
  refine ok_back (d := [_, _, _, _, _, _, _, _, _, _, _, _, _, _]) rfl ?_
  refine isV ?_
  refine ok_tgt (d := [_, _, _, _, _, _, _, _, _, _, _, _, _, _]) rfl ?_
  refine then_next ?_
  refine ok_seq ?_
  refine ok_set ?_
  refine okt_newT (f := (eT eI)) (g := eI) ?_
  refine ok_put (d := [_, _, _, _, _, _, _, _, _, _, _, _, _, _]) rfl ?_
  refine then_next ?_
  refine ok_seq ?_
  refine ok_for ?_
  refine okt_sqL (f := (eT eI)) ?_
  refine ok_toE ?_
  refine ok_call ?_
  refine ok_cons ?_
  refine ok_var rfl ?_
  refine ok_cons ?_
  refine ok_var rfl ?_
  refine ok_nil ?_
  refine ok_lent (d := [.val false ((eL eI) v2.1.1), .val false (eI v2.1.2)]) rfl ?_
  refine okh_call h (fun v hv => sp_x_law_every v2.1.1 v2.1.2 v hv) fun v3 h => ?_
  refine ok_back (d := [_, _, _, _, _, _, _, _, _, _, _, _, _, _]) rfl ?_
  refine ⟨rfl, ?_⟩
  refine ok_frz (e' := [_, _, _, _, _, _, _, _, _, _, _, _, _, _]) rfl ?_
  refine ⟨v3, rfl, ?_⟩
  refine okh_forP (σ := (List ((List Int) × Int))) (ρ := Bool) (fun (s4 : (List ((List Int) × Int))) (e : En) => ∃ j6_word j7_due j8_content j9_back j10_rows : Slot, e = [.val false ((eL eI) a_script), .own false (eF v2.2), .val false ((eL eI) v2.1.1), .val false (eI v2.1.2), .own false ((eDT (eT eI) eI) s4), j6_word, j7_due, j8_content, j9_back, j10_rows, .dead, .dead, .dead, .dead] ∧ j6_word.pin = false ∧ j7_due.pin = false ∧ j8_content.pin = false ∧ j9_back.pin = false ∧ j10_rows.pin = false) (fun v z e => z = .val (eB v) ∧ fixO [.val false ((eL eI) a_script)] e = [.val false ((eL eI) a_script)]) (xs := v3) (s0 := ([] : (List ((List Int) × Int)))) h (⟨.dead, .dead, .dead, .dead, .dead, rfl, rfl, rfl, rfl, rfl, rfl⟩) (fun s4 x5 e t h he => ?_) (fun s4 e h he => ?_) (fun z e hz => ?_)
  ·
    obtain ⟨j6_word, j7_due, j8_content, j9_back, j10_rows, rfl, hp_j6_word, hp_j7_due, hp_j8_content, hp_j9_back, hp_j10_rows⟩ := he
    refine ok_tgt (d := [.val false ((eL eI) a_script), .own false (eF v2.2), .val false ((eL eI) v2.1.1), .val false (eI v2.1.2), .own false ((eDT (eT eI) eI) s4), .val false ((eT eI) x5), j7_due, j8_content, j9_back, j10_rows, .dead, .dead, .dead, .dead]) (by simp [gTp, hCons, hNil, gNm, putV, pinV, pinO, pinD, eP2, eP3, eP4, hp_j6_word] <;> rfl) ?_
    refine ok_seq ?_
    refine ok_set ?_
    refine ok_call ?_
    refine ok_cons ?_
    refine ok_var rfl ?_
    refine ok_nil ?_
    refine ok_lent (d := [.val false ((eT eI) x5)]) rfl ?_
    refine okh_call h (fun v hv => sp_x_law_is_lattice x5 v hv) fun v11 h => ?_
    refine ok_back (d := [_, _, _, _, _, _, _, _, _, _, _, _, _, _]) rfl ?_
    refine ok_put (d := [.val false ((eL eI) a_script), .own false (eF v2.2), .val false ((eL eI) v2.1.1), .val false (eI v2.1.2), .own false ((eDT (eT eI) eI) s4), .val false ((eT eI) x5), .val false (eB v11), j8_content, j9_back, j10_rows, .dead, .dead, .dead, .dead]) (by simp [putV, setR, hp_j7_due] <;> rfl) ?_
    refine then_next ?_
    refine ok_seq ?_
    refine ok_sIf ?_
    refine ok_gNot ?_
    refine ok_truth ?_
    refine ok_toE ?_
    refine ok_call ?_
    refine ok_cons ?_
    refine ok_toE ?_
    refine ok_call ?_
    refine ok_cons ?_
    refine ok_var rfl ?_
    refine ok_nil ?_
    refine ok_lent (d := [.val false ((eT eI) x5)]) rfl ?_
    refine okh_call h (fun v hv => sp_is_lattice x5 v hv) fun v12 h => ?_
    refine ok_back (d := [_, _, _, _, _, _, _, _, _, _, _, _, _, _]) rfl ?_
    refine ⟨rfl, ?_⟩
    refine ok_cons ?_
    refine ok_var rfl ?_
    refine ok_nil ?_
    refine ok_lent (d := [.val false (eB v12), .val false (eB v11)]) rfl ?_
    refine okh_call h (fun v hv => sp_x_law_same eB v12 v11 v hv) fun v13 h => ?_
    refine ok_back (d := [_, _, _, _, _, _, _, _, _, _, _, _, _, _]) rfl ?_
    refine ⟨rfl, ?_⟩
    refine ok_look rfl ?_
    refine ok_truthD rfl ?_
    refine br_ite h (fun hc h => ?_) (fun hc h => ?_)
    ·
      refine ok_ret ?_
      refine ok_toV ?_
      refine ok_cst ?_
      refine ok_frz (e' := [_, _, _, _, _, _, _, _, _, _, _, _, _, _]) rfl ?_
      refine then_ret ?_
      cases h
      exact turnP_ret ⟨rfl, rfl⟩
    ·
      refine ok_next ?_
      refine then_next ?_
      refine ok_sIf ?_
      refine ok_truth ?_
      refine ok_var rfl ?_
      refine ok_look rfl ?_
      refine ok_truthD rfl ?_
      refine br_ite h (fun hc h => ?_) (fun hc h => ?_)
      ·
        refine ok_seq ?_
        refine ok_set ?_
        refine ok_call ?_
        refine ok_cons ?_
        refine ok_var rfl ?_
        refine ok_nil ?_
        refine ok_lent (d := [.val false ((eT eI) x5)]) rfl ?_
        refine okh_call h (fun v hv => sp_content_of x5 v hv) fun v14 h => ?_
        refine ok_back (d := [_, _, _, _, _, _, _, _, _, _, _, _, _, _]) rfl ?_
        refine ok_put (d := [.val false ((eL eI) a_script), .own false (eF v2.2), .val false ((eL eI) v2.1.1), .val false (eI v2.1.2), .own false ((eDT (eT eI) eI) s4), .val false ((eT eI) x5), .val false (eB v11), .val false ((eT eI) v14), j9_back, j10_rows, .dead, .dead, .dead, .dead]) (by simp [putV, setR, hp_j8_content] <;> rfl) ?_
        refine then_next ?_
        refine ok_seq ?_
        refine okh_putT (f := (eT eI)) (g := eI) ?_
        refine ok_bin ?_
        refine ok_toE ?_
        refine okh_getTo (f := (eT eI)) (g := eI) (d0 := s4) rfl ?_
        refine ok_var rfl ?_
        refine ok_cst ?_
        refine ⟨v14, rfl, ?_⟩
        refine ok_frz (e' := [_, _, _, _, _, _, _, _, _, _, _, _, _, _]) rfl ?_
        refine ⟨_, s4, (0 : Int), rfl, rfl, ?_⟩
        refine ⟨rfl, ?_⟩
        refine ok_cst ?_
        refine ok_look rfl ?_
        refine ok_look rfl ?_
        refine ok_addI ?_
        refine ⟨(((dget s4 v14).getD (0 : Int)) + (1 : Int)), _, s4, ⟨rfl, rfl⟩, ?_⟩
        refine ok_var rfl ?_
        obtain ⟨v15, hv16, h⟩ := bS h
        refine ⟨_, s4, v14, v15, [_, _, _, _, _, _, _, _, _, _, _, _, _, _], ⟨rfl, rfl⟩, hv16, rfl, ?_⟩
        refine then_next ?_
        refine ok_seq ?_
        refine ok_set ?_
        refine ok_un ?_
        refine ok_var rfl ?_
        refine ok_look rfl ?_
        refine okt_revT (f := eI) (xs := x5) ?_
        refine ok_put (d := [.val false ((eL eI) a_script), .own false (eF v2.2), .val false ((eL eI) v2.1.1), .val false (eI v2.1.2), .own false ((eDT (eT eI) eI) v15), .val false ((eT eI) x5), .val false (eB v11), .val false ((eT eI) v14), .val false ((eT eI) (List.reverse x5)), j10_rows, .dead, .dead, .dead, .dead]) (by simp [putV, setR, hp_j9_back] <;> rfl) ?_
        refine then_next ?_
        refine ok_seq ?_
        refine ok_set ?_
        refine ok_blt ?_
        refine ok_cons ?_
        refine ok_toE ?_
        refine okh_fComp (en := (eP2 eI eI)) (eT eI) ?_
        refine okt_enum (f := eI) ?_
        refine okt_sqT (f := eI) ?_
        refine ok_var rfl ?_
        refine ok_frz (e' := [_, _, _, _, _, _, _, _, _, _, _, _, _, _]) rfl ?_
        refine ⟨v14, rfl, ?_⟩
        refine ⟨v14, rfl, ?_⟩
        obtain ⟨v18, hv19, h⟩ := bS h
        refine ⟨(enumF 0 v14), _, [.val false ((eL eI) a_script), .own false (eF v2.2), .val false ((eL eI) v2.1.1), .val false (eI v2.1.2), .own false ((eDT (eT eI) eI) v15), .val false ((eT eI) x5), .val false (eB v11), .val false ((eT eI) v14), .val false ((eT eI) (List.reverse x5)), j10_rows, .dead, .dead, .dead, .dead], v18, rfl, rfl, hv19, rfl, fun x17 o20 h => ?_, ?_⟩
        ·
          refine ok_tgt (d := [_, _, _, _, _, _, _, _, _, _, _, _, _, _]) rfl ?_
          refine ok_testV ?_
          refine ok_bin ?_
          refine ok_var rfl ?_
          refine ok_cst ?_
          refine ok_look rfl ?_
          refine ok_look rfl ?_
          refine ok_gtI ?_
          refine isBr ?_
          refine br_ite h (fun hc h => ?_) (fun hc h => ?_)
          ·
            refine ok_toE ?_
            refine ok_bin ?_
            refine ok_toE ?_
            refine ok_tup ?_
            refine ok_cons ?_
            refine ok_toE ?_
            refine ok_bin ?_
            refine ok_var rfl ?_
            refine ok_cst ?_
            refine ok_look rfl ?_
            refine ok_look rfl ?_
            refine ok_addI ?_
            refine ⟨rfl, ?_⟩
            refine ok_nil ?_
            refine ok_frzs (d := [eI (x17.1 + (1 : Int))]) (e' := [_, _, _, _, _, _, _, _, _, _, _, _, _, _]) rfl ?_
            refine ok_okLen (by simp only [List.length_cons, List.length_nil]; decide) ?_
            refine ⟨rfl, ?_⟩
            refine ok_var rfl ?_
            refine ok_look rfl ?_
            refine ok_look rfl ?_
            refine okh_repT (f := eI) (xs := [(x17.1 + (1 : Int))]) (n := x17.2) h fun v21 h => ?_
            refine ⟨rfl, ?_⟩
            refine ok_frz (e' := [_, _, _, _, _, _, _, _, _, _, _, _, _, _]) rfl ?_
            cases h
            exact ⟨⟨_, rfl, rfl⟩, rfl⟩
          ·
            cases h
            exact ⟨rfl, rfl⟩
        refine ⟨rfl, ?_⟩
        refine ok_nil ?_
        refine ok_looks (d := [(eL (eT eI)) v18]) rfl ?_
        refine okt_tupleL (f := (eT eI)) (xs := v18) ?_
        refine ok_put (d := [.val false ((eL eI) a_script), .own false (eF v2.2), .val false ((eL eI) v2.1.1), .val false (eI v2.1.2), .own false ((eDT (eT eI) eI) v15), .val false ((eT eI) x5), .val false (eB v11), .val false ((eT eI) v14), .val false ((eT eI) (List.reverse x5)), .val false ((eT (eT eI)) v18), .dead, .dead, .dead, .dead]) (by simp [putV, setR, hp_j10_rows] <;> rfl) ?_
        refine then_next ?_
        refine ok_sIf ?_
        refine ok_gNot ?_
        refine ok_truth ?_
        refine ok_toE ?_
        refine ok_call ?_
        refine ok_cons ?_
        refine ok_toE ?_
        refine ok_lst ?_
        refine ok_cons ?_
        refine ok_toE ?_
        refine ok_call ?_
        refine ok_cons ?_
        refine ok_var rfl ?_
        refine ok_nil ?_
        refine ok_lent (d := [.val false ((eT eI) (List.reverse x5))]) rfl ?_
        refine okh_call h (fun v hv => sp_highest_of (List.reverse x5) v hv) fun v22 h => ?_
        refine ok_back (d := [_, _, _, _, _, _, _, _, _, _, _, _, _, _]) rfl ?_
        refine ⟨rfl, ?_⟩
        refine ok_cons ?_
        refine ok_toE ?_
        refine okh_fComp (en := eI) eI ?_
        refine okh_R2 ?_
        refine ok_cons ?_
        refine ok_cst ?_
        refine ok_cons ?_
        refine ok_cst ?_
        refine ok_nil ?_
        refine ok_looks (d := [eI (1 : Int), eI (9 : Int)]) rfl ?_
        obtain ⟨r23, hr24, h⟩ := bS h
        refine ⟨(1 : Int), (9 : Int), r23, rfl, hr24, ?_⟩
        obtain ⟨v26, hv27, h⟩ := bS h
        refine ⟨r23, _, [.val false ((eL eI) a_script), .own false (eF v2.2), .val false ((eL eI) v2.1.1), .val false (eI v2.1.2), .own false ((eDT (eT eI) eI) v15), .val false ((eT eI) x5), .val false (eB v11), .val false ((eT eI) v14), .val false ((eT eI) (List.reverse x5)), .val false ((eT (eT eI)) v18), .dead, .dead, .dead, .dead], v26, rfl, rfl, hv27, rfl, fun x25 o28 h => ?_, ?_⟩
        ·
          refine ok_tgt (d := [_, _, _, _, _, _, _, _, _, _, _, _, _, _]) rfl ?_
          refine ok_gYes ?_
          refine ⟨fun _ => ?_, fun hc => nomatch hc⟩
          refine ok_toE ?_
          refine ok_call ?_
          refine ok_cons ?_
          refine ok_var rfl ?_
          refine ok_cons ?_
          refine ok_var rfl ?_
          refine ok_nil ?_
          refine ok_lent (d := [.val false ((eT eI) (List.reverse x5)), .val false (eI x25)]) rfl ?_
          refine okh_call h (fun v hv => sp_room_up (List.reverse x5) x25 v hv) fun v29 h => ?_
          refine ok_back (d := [_, _, _, _, _, _, _, _, _, _, _, _, _, _]) rfl ?_
          refine ⟨rfl, ?_⟩
          refine ok_frz (e' := [_, _, _, _, _, _, _, _, _, _, _, _, _, _]) rfl ?_
          cases h
          exact ⟨⟨_, rfl, rfl⟩, rfl⟩
        refine ⟨rfl, ?_⟩
        refine ok_cons ?_
        refine ok_toE ?_
        refine ok_call ?_
        refine ok_cons ?_
        refine ok_var rfl ?_
        refine ok_nil ?_
        refine ok_lent (d := [.val false ((eT eI) (List.reverse x5))]) rfl ?_
        refine okh_call h (fun v hv => sp_tableau_of (List.reverse x5) v hv) fun v30 h => ?_
        refine ok_back (d := [_, _, _, _, _, _, _, _, _, _, _, _, _, _]) rfl ?_
        refine ⟨rfl, ?_⟩
        refine ok_nil ?_
        refine ok_frzs (d := [(eP2 (eT eI) (eT eI)) v22, (eL eI) v26, (eT (eT eI)) v30]) (e' := [_, _, _, _, _, _, _, _, _, _, _, _, _, _]) rfl ?_
        refine ok_okLen (by simp only [List.length_cons, List.length_nil]; decide) ?_
        refine ⟨rfl, ?_⟩
        refine ok_cons ?_
        refine ok_toE ?_
        refine ok_lst ?_
        refine ok_cons ?_
        refine ok_toE ?_
        refine ok_tup ?_
        refine ok_cons ?_
        refine ok_var rfl ?_
        refine ok_cons ?_
        refine ok_toE ?_
        refine ok_tup ?_
        refine ok_nil ?_
        refine ok_frzs (d := []) (e' := [_, _, _, _, _, _, _, _, _, _, _, _, _, _]) rfl ?_
        refine ok_okLen (by simp only [List.length_cons, List.length_nil]; decide) ?_
        refine ⟨rfl, ?_⟩
        refine ok_nil ?_
        refine ok_frzs (d := [(eT eI) (List.reverse x5), (eT eI) ([] : (List Int))]) (e' := [_, _, _, _, _, _, _, _, _, _, _, _, _, _]) rfl ?_
        refine ok_okLen (by simp only [List.length_cons, List.length_nil]; decide) ?_
        refine ⟨rfl, ?_⟩
        refine ok_cons ?_
        refine ok_toE ?_
        refine ok_bin ?_
        refine ok_toE ?_
        refine ok_lst ?_
        refine ok_cons ?_
        refine ok_cst ?_
        refine ok_nil ?_
        refine ok_frzs (d := [eI (0 : Int)]) (e' := [_, _, _, _, _, _, _, _, _, _, _, _, _, _]) rfl ?_
        refine ok_okLen (by simp only [List.length_cons, List.length_nil]; decide) ?_
        refine ⟨rfl, ?_⟩
        refine ok_cst ?_
        refine ok_look rfl ?_
        refine ok_look rfl ?_
        refine okh_repL (f := eI) (xs := [(0 : Int)]) (n := (8 : Int)) h fun v31 h => ?_
        refine ⟨rfl, ?_⟩
        refine ok_cons ?_
        refine ok_var rfl ?_
        refine ok_nil ?_
        refine ok_frzs (d := [(eP2 (eT eI) (eT eI)) ((List.reverse x5), ([] : (List Int))), (eL eI) v31, (eT (eT eI)) v18]) (e' := [_, _, _, _, _, _, _, _, _, _, _, _, _, _]) rfl ?_
        refine ok_okLen (by simp only [List.length_cons, List.length_nil]; decide) ?_
        refine ⟨rfl, ?_⟩
        refine ok_nil ?_
        refine ok_lent (d := [.val false ((eH3 (eP2 (eT eI) (eT eI)) (eL eI) (eT (eT eI))) (v22, v26, v30)), .val false ((eH3 (eP2 (eT eI) (eT eI)) (eL eI) (eT (eT eI))) (((List.reverse x5), ([] : (List Int))), v31, v18))]) rfl ?_
        refine okh_call h (fun v hv => sp_x_law_same (eH3 (eP2 (eT eI) (eT eI)) (eL eI) (eT (eT eI))) (v22, v26, v30) (((List.reverse x5), ([] : (List Int))), v31, v18) v hv) fun v32 h => ?_
        refine ok_back (d := [_, _, _, _, _, _, _, _, _, _, _, _, _, _]) rfl ?_
        refine ⟨rfl, ?_⟩
        refine ok_look rfl ?_
        refine ok_truthD rfl ?_
        refine br_ite h (fun hc h => ?_) (fun hc h => ?_)
        ·
          refine ok_ret ?_
          refine ok_toV ?_
          refine ok_cst ?_
          refine ok_frz (e' := [_, _, _, _, _, _, _, _, _, _, _, _, _, _]) rfl ?_
          cases h
          exact turnP_ret ⟨rfl, rfl⟩
        ·
          refine ok_next ?_
          cases h
          exact turnP_next (⟨_, _, _, _, _, rfl, rfl, rfl, rfl, rfl, rfl⟩)
      ·
        refine ok_next ?_
        cases h
        exact turnP_next (⟨_, _, _, _, _, rfl, rfl, rfl, hp_j8_content, hp_j9_back, hp_j10_rows⟩)
  ·
    obtain ⟨j6_word, j7_due, j8_content, j9_back, j10_rows, rfl, hp_j6_word, hp_j7_due, hp_j8_content, hp_j9_back, hp_j10_rows⟩ := he
    refine then_next ?_
    refine ok_seq ?_
    refine ok_sLk [_, _, _, _, _, _, _, _, _, _, _, _, _, _] rfl rfl ?_
    refine ok_for ?_
    refine okt_keysT (f := (eT eI)) (g := eI) s4 rfl ?_
    refine okh_forP (σ := Unit) (ρ := Bool) (fun (s33 : Unit) (e : En) => ∃ j35_content j36_shape : Slot, e = [.val false ((eL eI) a_script), .own false (eF v2.2), .val false ((eL eI) v2.1.1), .val false (eI v2.1.2), .lck ((eDT (eT eI) eI) s4), j6_word, j7_due, j35_content, j9_back, j10_rows, .dead, .dead, .dead, j36_shape] ∧ j35_content.pin = false ∧ j36_shape.pin = false) (fun v z e => z = .val (eB v) ∧ ∃ e1, unlE 4 ([.val false ((eL eI) a_script), .own false (eF v2.2), .val false ((eL eI) v2.1.1), .val false (eI v2.1.2), .lck ((eDT (eT eI) eI) s4), j6_word, j7_due, j8_content, j9_back, j10_rows, .dead, .dead, .dead, .dead].map isLck) e = some e1 ∧ fixO [.val false ((eL eI) a_script)] e1 = [.val false ((eL eI) a_script)]) (xs := (List.map (fun p => p.1) s4)) (s0 := ()) h (⟨j8_content, .dead, rfl, hp_j8_content, rfl⟩) (fun s33 x34 e t h he => ?_) (fun s33 e h he => ?_) (fun z e hz => ?_)
    ·
      obtain ⟨j35_content, j36_shape, rfl, hp_j35_content, hp_j36_shape⟩ := he
      refine ok_tgt (d := [.val false ((eL eI) a_script), .own false (eF v2.2), .val false ((eL eI) v2.1.1), .val false (eI v2.1.2), .lck ((eDT (eT eI) eI) s4), j6_word, j7_due, .val false ((eT eI) x34), j9_back, j10_rows, .dead, .dead, .dead, j36_shape]) (by simp [gTp, hCons, hNil, gNm, putV, pinV, pinO, pinD, eP2, eP3, eP4, hp_j35_content] <;> rfl) ?_
      refine ok_seq ?_
      refine ok_set ?_
      refine ok_blt ?_
      refine ok_cons ?_
      refine ok_toE ?_
      refine okt_fComp (en := eI) eI ?_
      refine okt_sqT (f := eI) ?_
      refine ok_var rfl ?_
      refine ok_frz (e' := [_, _, _, _, _, _, _, _, _, _, _, _, _, _]) rfl ?_
      refine ⟨x34, rfl, ?_⟩
      obtain ⟨v38, hv39, h⟩ := bS h
      refine ⟨x34, fun x37 => (decide ((0 : Int) < x37)), fun x37 => x37, [.val false ((eL eI) a_script), .own false (eF v2.2), .val false ((eL eI) v2.1.1), .val false (eI v2.1.2), .lck ((eDT (eT eI) eI) s4), j6_word, j7_due, .val false ((eT eI) x34), j9_back, j10_rows, .dead, .dead, .dead, j36_shape], v38, rfl, rfl, hv39, rfl, fun x37 => ?_, ?_⟩
      ·
        refine ok_tgt (d := [_, _, _, _, _, _, _, _, _, _, _, _, _, _]) rfl ?_
        refine ok_testV ?_
        refine ok_bin ?_
        refine ok_var rfl ?_
        refine ok_cst ?_
        refine ok_look rfl ?_
        refine ok_look rfl ?_
        refine ok_gtI ?_
        refine isBr ?_
        refine ⟨rfl, fun hc => ?_, fun hc => rfl⟩
        refine ok_var rfl ?_
        refine ok_frz (e' := [_, _, _, _, _, _, _, _, _, _, _, _, _, _]) rfl ?_
        exact ⟨rfl, rfl⟩
      refine ⟨rfl, ?_⟩
      refine ok_nil ?_
      refine ok_looks (d := [(eL eI) v38]) rfl ?_
      refine okt_tupleL (f := eI) (xs := v38) ?_
      refine ok_put (d := [.val false ((eL eI) a_script), .own false (eF v2.2), .val false ((eL eI) v2.1.1), .val false (eI v2.1.2), .lck ((eDT (eT eI) eI) s4), j6_word, j7_due, .val false ((eT eI) x34), j9_back, j10_rows, .dead, .dead, .dead, .val false ((eT eI) v38)]) (by simp [putV, setR, hp_j36_shape] <;> rfl) ?_
      refine then_next ?_
      refine ok_sIf ?_
      obtain ⟨v40, hv41, h⟩ := bS h
      refine ok_testJ v40 ?_ ?_
      ·
        replace h := hv41
        refine ok_gOr ?_
        refine ok_testV ?_
        refine ok_bin ?_
        refine ok_toE ?_
        refine ok_blt ?_
        refine ok_cons ?_
        refine ok_var rfl ?_
        refine ok_nil ?_
        refine ok_looks (d := [(eT eI) x34]) rfl ?_
        refine okt_listT (f := eI) (xs := x34) ?_
        refine ⟨rfl, ?_⟩
        refine ok_toE ?_
        refine ok_un ?_
        refine ok_toE ?_
        refine ok_blt ?_
        refine ok_cons ?_
        refine ok_var rfl ?_
        refine ok_nil ?_
        refine ok_looks (d := [(eT eI) x34]) rfl ?_
        refine okt_sortIT (xs := x34) ?_
        refine ⟨rfl, ?_⟩
        refine ok_look rfl ?_
        refine okt_revL (f := eI) (xs := (sortI x34)) ?_
        refine ⟨rfl, ?_⟩
        refine ok_look rfl ?_
        refine ok_look rfl ?_
        refine okt_ne (f := (eL eI)) (a := x34) (b := (List.reverse (sortI x34))) ?_
        refine isBr ?_
        refine br_ite h (fun hc h => ?_) (fun hc h => ?_)
        ·
          cases h; exact ⟨rfl, rfl⟩
        ·
          refine ok_testV ?_
          refine ok_bin ?_
          refine ok_toE ?_
          refine okh_ixTl (f := (eT eI)) (g := eI) (d0 := s4) rfl ?_
          refine ok_var rfl ?_
          obtain ⟨v42, hv43, h⟩ := bS h
          refine ⟨x34, s4, v42, rfl, rfl, hv43, ?_⟩
          refine ⟨rfl, ?_⟩
          refine ok_toE ?_
          refine ok_call ?_
          refine ok_cons ?_
          refine ok_var rfl ?_
          refine ok_nil ?_
          refine ok_lent (d := [.val false ((eT eI) v38)]) rfl ?_
          refine okh_call h (fun v hv => sp_x_law_records v38 v hv) fun v44 h => ?_
          refine ok_back (d := [_, _, _, _, _, _, _, _, _, _, _, _, _, _]) rfl ?_
          refine ⟨rfl, ?_⟩
          refine ok_look rfl ?_
          refine ok_look rfl ?_
          refine okt_ne (f := eI) (a := v42) (b := v44) ?_
          refine isBr ?_
          cases h; exact ⟨rfl, rfl⟩
      refine br_ite h (fun hc h => ?_) (fun hc h => ?_)
      ·
        refine ok_ret ?_
        refine ok_toV ?_
        refine ok_cst ?_
        refine ok_frz (e' := [_, _, _, _, _, _, _, _, _, _, _, _, _, _]) rfl ?_
        cases h
        exact turnP_ret ⟨rfl, [_, _, _, _, _, _, _, _, _, _, _, _, _, _], unlE_of rfl (by simp only [List.map_cons, List.map_nil, isLck_d, isLck_v, isLck_o, isLck_l, isLck_pin hp_j6_word, isLck_pin hp_j7_due, isLck_pin hp_j9_back, isLck_pin hp_j10_rows, isLck_pin hp_j8_content]) rfl, rfl⟩
      ·
        refine ok_next ?_
        cases h
        exact turnP_next (⟨_, _, rfl, rfl, rfl⟩)
    ·
      obtain ⟨j35_content, j36_shape, rfl, hp_j35_content, hp_j36_shape⟩ := he
      refine unl_next2 (e' := [_, _, _, _, _, _, _, _, _, _, _, _, _, _]) rfl (by simp only [List.map_cons, List.map_nil, isLck_d, isLck_v, isLck_o, isLck_l, isLck_pin hp_j6_word, isLck_pin hp_j7_due, isLck_pin hp_j35_content, isLck_pin hp_j9_back, isLck_pin hp_j10_rows, isLck_pin hp_j36_shape, isLck_pin hp_j6_word, isLck_pin hp_j7_due, isLck_pin hp_j8_content, isLck_pin hp_j9_back, isLck_pin hp_j10_rows]) rfl ?_
      refine then_next ?_
      refine ok_ret ?_
      refine ok_call ?_
      refine ok_cons ?_
      refine ok_var rfl ?_
      refine ok_nil ?_
      refine ok_lent (d := [.own true (eF v2.2)]) rfl ?_
      refine okh_call h (fun v hv => sp_x_law_long_right v2.2 v hv) fun v45 h => ?_
      refine ok_back (d := [_, _, _, _, _, _, _, _, _, _, _, _, _, _]) rfl ?_
      cases h
      exact fnEnd_ret rfl ⟨rfl, rfl⟩
    ·
      obtain ⟨hz0, e1, hz1, hz2⟩ := hz
      refine unl_ret hz1 ?_
      refine then_ret ?_
      exact ⟨hz0, hz2⟩
  ·
    refine then_ret ?_
    exact hz
end Wk35

set_option Elab.async false
set_option linter.all false
set_option maxHeartbeats 2000000
/-! PL1: plain facts about the typed readings' operations. -/
namespace DL
open PySem PySem.Spec PyProof.Rows L2
theorem SZ_big {n : Nat} (h : n ≤ 100000) : n ≤ SZ := Nat.le_trans h (by decide)
theorem mem_rangeI : ∀ {n : Nat} {lo x : Int}, x ∈ rangeI lo n ↔ lo ≤ x ∧ x < lo + n
  | 0, lo, x => by simp [rangeI]
  | n + 1, lo, x => by
    rw [rangeI, List.mem_cons, mem_rangeI]
    omega
theorem rangeI_len : ∀ (n : Nat) (lo : Int), (rangeI lo n).length = n
  | 0, _ => rfl
  | n + 1, lo => by rw [rangeI, List.length_cons, rangeI_len]
theorem rangeI_succ : ∀ (n : Nat) (lo : Int), rangeI lo (n + 1) = rangeI lo n ++ [lo + n]
  | 0, lo => by simp [rangeI]
  | n + 1, lo => by
    rw [rangeI, rangeI_succ n (lo + 1), rangeI, List.cons_append]
    congr 3
    omega
theorem rangeI_pw : ∀ (n : Nat) (lo : Int), (rangeI lo n).Pairwise (· < ·)
  | 0, _ => .nil
  | n + 1, lo => by
    rw [rangeI]
    refine List.pairwise_cons.mpr ⟨fun z hz => ?_, rangeI_pw n _⟩
    have := (mem_rangeI.mp hz).1
    omega
theorem rangeI_get : ∀ (n : Nat) (lo : Int) (i : Nat), i < n → (rangeI lo n)[i]? = some (lo + i)
  | 0, _, _, h => by omega
  | n + 1, lo, 0, _ => by simp [rangeI]
  | n + 1, lo, i + 1, h => by
    rw [rangeI, List.getElem?_cons_succ, rangeI_get n _ i (by omega)]
    congr 1
    omega
theorem rngO_eq {a b : Int} (ha : -1000000 ≤ a ∧ a ≤ 1000000) (hb : -1000000 ≤ b ∧ b ≤ 1000000) : rngO a b = some (rangeI a (b - a).toNat) := by
  unfold rngO
  rw [if_pos (by omega)]
theorem rngO_nat {n : Nat} (h : n ≤ 1000000) : rngO 0 (n : Int) = some (rangeI 0 n) := by
  rw [rngO_eq (by omega) (by omega)]
  simp
theorem compO_filter {t : Int → Option (Option Int)} {c : Int → Bool} : ∀ {xs : List Int}, (∀ x ∈ xs, t x = some (if c x = true then some x else none)) → compO t xs = some (xs.filter c)
  | [], _ => rfl
  | x :: xs, h => by
    rw [compO, h x List.mem_cons_self, Option.bind_some, compO_filter fun y hy => h y (List.mem_cons_of_mem _ hy), Option.bind_some, List.filter_cons]
    by_cases q : c x = true <;> simp [q]
theorem compG_filter {t : Int → Option (Option Int)} {c : Int → Bool} {xs : List Int} (hl : xs.length ≤ 100000) (h : ∀ x ∈ xs, t x = some (if c x = true then some x else none)) : compG t xs = some (xs.filter c) := by
  unfold compG
  rw [if_pos (SZ_big hl), compO_filter h]
theorem compO_map {α β : Type} {t : α → Option (Option β)} {f : α → β} : ∀ {xs : List α}, (∀ x ∈ xs, t x = some (some (f x))) → compO t xs = some (xs.map f)
  | [], _ => rfl
  | x :: xs, h => by
    rw [compO, h x List.mem_cons_self, Option.bind_some, compO_map fun y hy => h y (List.mem_cons_of_mem _ hy), Option.bind_some, List.map_cons]
theorem compG_map {α β : Type} {t : α → Option (Option β)} {f : α → β} {xs : List α} (hl : xs.length ≤ 100000) (h : ∀ x ∈ xs, t x = some (some (f x))) : compG t xs = some (xs.map f) := by
  unfold compG
  rw [if_pos (SZ_big hl), compO_map h]
theorem mapG_eq {α β : Type} {c : α → Bool} {f : α → β} {xs : List α} (hl : xs.length ≤ 100000) : mapG c f xs = some ((xs.filter c).map f) := by
  unfold mapG
  rw [if_pos (SZ_big hl)]
theorem addO_eq {α : Type} {xs ys : List α} (hl : xs.length + ys.length ≤ 100000) : addO xs ys = some (xs ++ ys) := by
  unfold addO
  rw [if_pos (SZ_big hl)]
theorem appO_eq {α : Type} {xs : List α} {y : α} (hl : xs.length < 100000) : appO xs y = some (xs ++ [y]) := by
  unfold appO
  rw [if_pos (Nat.lt_of_lt_of_le hl (SZ_big (Nat.le_refl _)))]
/-- the item at a place, 0 behind the end -/
def gi (s : List Int) (i : Nat) : Int := (s[i]?).getD 0
theorem gi_cons0 (x : Int) (s : List Int) : gi (x :: s) 0 = x := rfl
theorem gi_consS (x : Int) (s : List Int) (i : Nat) : gi (x :: s) (i + 1) = gi s i := rfl
theorem gi_out {s : List Int} {i : Nat} (h : s.length ≤ i) : gi s i = 0 := by
  unfold gi
  rw [List.getElem?_eq_none h]
  rfl
theorem gi_in {s : List Int} {i : Nat} (h : i < s.length) : s[i]? = some (gi s i) := by
  unfold gi
  rw [List.getElem?_eq_getElem h]
  rfl
theorem gi_el {s : List Int} {i : Nat} (h : i < s.length) : s[i] = gi s i := by
  unfold gi
  rw [List.getElem?_eq_getElem h]
  rfl
theorem gi_mem {s : List Int} {x : Int} (h : x ∈ s) : ∃ i, i < s.length ∧ gi s i = x := by
  obtain ⟨i, hi, rfl⟩ := List.mem_iff_getElem.mp h
  exact ⟨i, hi, (gi_el hi).symm⟩
theorem mem_gi {s : List Int} {i : Nat} (h : i < s.length) : gi s i ∈ s := by
  rw [← gi_el h]
  exact List.getElem_mem h
theorem gi_app {s t : List Int} {i : Nat} : gi (s ++ t) i = if i < s.length then gi s i else gi t (i - s.length) := by
  unfold gi
  rw [List.getElem?_append]
  split <;> rfl
theorem gi_set {s : List Int} {k i : Nat} {a : Int} (h : k < s.length) : gi (s.set k a) i = if i = k then a else gi s i := by
  unfold gi
  rw [List.getElem?_set]
  by_cases c : k = i
  · subst c
    simp [h]
  · rw [if_neg c, if_neg fun z => c z.symm]
theorem gi_take {s : List Int} {k i : Nat} : gi (s.take k) i = if i < k then gi s i else 0 := by
  unfold gi
  rw [List.getElem?_take]
  split <;> rfl
theorem gi_ext {s t : List Int} (hl : s.length = t.length) (h : ∀ i, gi s i = gi t i) : s = t := by
  refine List.ext_getElem hl fun i h1 h2 => ?_
  rw [gi_el h1, gi_el h2, h]
theorem gi_map {n : Nat} {f : Int → Int} {i : Nat} : gi ((rangeI 0 n).map f) i = if i < n then f i else 0 := by
  unfold gi
  rw [List.getElem?_map]
  split
  · rename_i c
    rw [rangeI_get n 0 i c]
    simp
  · rename_i c
    rw [List.getElem?_eq_none (by rw [rangeI_len]; omega)]
    rfl
theorem atI_gi {s : List Int} {k : Int} {i : Nat} (e : k = i) (h : i < s.length) : atI s k = some (gi s i) := by
  subst e
  rw [atI_nat s (by omega), Int.toNat_natCast, gi_in h]
/-- falling -/
def Dn (s : List Int) : Prop := s.Pairwise fun a b => b ≤ a
theorem dn_sort (v : List Int) : v = (sortI v).reverse ↔ Dn v := by
  constructor
  · intro h
    rw [h]
    unfold Dn
    rw [List.pairwise_reverse]
    exact sortI_sorted v
  · intro h
    have e : v.reverse = sortI v := sortI_uniq (List.reverse_perm v) (by rw [List.pairwise_reverse]; exact h)
    rw [← e, List.reverse_reverse]
theorem dn_gi {v : List Int} (h : Dn v) {i j : Nat} (hij : i < j) (hj : j < v.length) : gi v j ≤ gi v i := by
  have := List.pairwise_iff_getElem.mp h i j (by omega) hj hij
  rw [gi_el, gi_el] at this
  exact this
theorem gi_mono {v : List Int} (h : ∀ i, gi v (i + 1) ≤ gi v i) (i : Nat) : ∀ j, gi v (i + j) ≤ gi v i
  | 0 => Int.le_refl _
  | j + 1 => Int.le_trans (h (i + j)) (gi_mono h i j)
theorem gi_dn {v : List Int} (h : ∀ i, gi v (i + 1) ≤ gi v i) : Dn v := by
  unfold Dn
  rw [List.pairwise_iff_getElem]
  intro i j hi hj hij
  rw [gi_el hi, gi_el hj]
  have := gi_mono h i (j - i)
  rw [show i + (j - i) = j by omega] at this
  exact this
theorem zip_dn : ∀ (x : Int) (xs : List Int), Dn (x :: xs) → ∀ p ∈ List.zip (x :: xs) xs, p.2 ≤ p.1
  | _, [], _ => by simp
  | x, y :: ys, h => by
    obtain ⟨h1, h2⟩ := List.pairwise_cons.mp h
    intro p hp
    rw [List.zip_cons_cons, List.mem_cons] at hp
    rcases hp with rfl | hp
    · exact h1 y List.mem_cons_self
    · exact zip_dn y ys h2 p hp
/-- a shape: falling, positive -/
structure Sh (s : List Int) : Prop where
  pos : ∀ i, i < s.length → 1 ≤ gi s i
  dn : ∀ i, gi s (i + 1) ≤ gi s i
theorem Sh.ge0 {s : List Int} (h : Sh s) (i : Nat) : 0 ≤ gi s i := by
  by_cases c : i < s.length
  · have := h.pos i c; omega
  · rw [gi_out (by omega)]; exact Int.le_refl _
theorem Sh.inL {s : List Int} (h : Sh s) {i : Nat} : i < s.length ↔ 0 < gi s i := by
  constructor
  · intro c; have := h.pos i c; omega
  · intro c
    apply Classical.byContradiction
    intro z
    rw [gi_out (by omega)] at c
    omega
theorem Sh.mono {s : List Int} (h : Sh s) {i j : Nat} (c : i ≤ j) : gi s j ≤ gi s i := by
  have := gi_mono h.dn i (j - i)
  rw [show i + (j - i) = j by omega] at this
  exact this
theorem Sh.tail {x : Int} {s : List Int} (h : Sh (x :: s)) : Sh s :=
  ⟨fun i c => by have := h.pos (i + 1) (by rw [List.length_cons]; omega); rwa [gi_consS] at this, fun i => by have := h.dn (i + 1); rwa [gi_consS, gi_consS] at this⟩
theorem Sh.ext {s t : List Int} (hs : Sh s) (ht : Sh t) (h : ∀ i, gi s i = gi t i) : s = t := by
  refine gi_ext ?_ h
  rcases Nat.lt_trichotomy s.length t.length with c | c | c
  · have h1 := ht.inL.mp c
    rw [← h] at h1
    have := hs.inL.mpr h1
    omega
  · exact c
  · have h1 := hs.inL.mp c
    rw [h] at h1
    have := ht.inL.mpr h1
    omega
theorem sum_ge : ∀ {s : List Int}, (∀ x ∈ s, 0 ≤ x) → ∀ x ∈ s, x ≤ s.sum
  | [], _, x, hx => by cases hx
  | y :: ys, h, x, hx => by
    have h0 : 0 ≤ ys.sum := by
      clear hx
      have : ∀ zs : List Int, (∀ x ∈ zs, 0 ≤ x) → 0 ≤ zs.sum := by
        intro zs
        induction zs with
        | nil => intro _; exact Int.le_refl _
        | cons z zs ih =>
          intro hz
          rw [List.sum_cons]
          have := ih fun x hx => hz x (List.mem_cons_of_mem _ hx)
          have := hz z List.mem_cons_self
          omega
      exact this ys fun x hx => h x (List.mem_cons_of_mem _ hx)
    rw [List.sum_cons]
    rcases List.mem_cons.mp hx with rfl | hx
    · omega
    · have := sum_ge (fun z hz => h z (List.mem_cons_of_mem _ hz)) x hx
      have := h y List.mem_cons_self
      omega
theorem Sh.mem {s : List Int} (h : Sh s) {x : Int} (hx : x ∈ s) : 1 ≤ x := by
  obtain ⟨i, hi, rfl⟩ := gi_mem hx
  exact h.pos i hi
/-- is one shape inside another -/
def insB (a b : List Int) : Bool := decide (a.length ≤ b.length) && (List.zip a b).all fun p => decide (p.1 ≤ p.2)
theorem insB_iff : ∀ {a b : List Int}, (∀ i, i < a.length → 1 ≤ gi a i) → (∀ i, 0 ≤ gi b i) → (insB a b = true ↔ ∀ i, gi a i ≤ gi b i)
  | [], b, _, hb => by
    constructor
    · intro _ i
      rw [gi_out (s := []) (Nat.zero_le _)]
      exact hb i
    · intro _
      unfold insB
      simp
  | x :: xs, [], ha, _ => by
    constructor
    · intro h
      unfold insB at h
      simp at h
    · intro h
      have h1 := ha 0 (by rw [List.length_cons]; omega)
      have h2 := h 0
      rw [gi_out (s := []) (Nat.zero_le _)] at h2
      omega
  | x :: xs, y :: ys, ha, hb => by
    have ih := insB_iff (a := xs) (b := ys) (fun i c => by have := ha (i + 1) (by rw [List.length_cons]; omega); rwa [gi_consS] at this) (fun i => by have := hb (i + 1); rwa [gi_consS] at this)
    have e : insB (x :: xs) (y :: ys) = (decide (x ≤ y) && insB xs ys) := by
      unfold insB
      rw [List.zip_cons_cons, List.all_cons, List.length_cons, List.length_cons]
      have : decide (xs.length + 1 ≤ ys.length + 1) = decide (xs.length ≤ ys.length) := by
        by_cases c : xs.length ≤ ys.length <;> simp [c]
      rw [this]
      cases decide (xs.length ≤ ys.length) <;> cases decide (x ≤ y) <;> rfl
    rw [e, Bool.and_eq_true, ih, decide_eq_true_eq]
    constructor
    · rintro ⟨h1, h2⟩ i
      cases i with
      | zero => exact h1
      | succ i => exact h2 i
    · intro h
      exact ⟨h 0, fun i => h (i + 1)⟩
/-- how many rows are longer than a length -/
def cnt (s : List Int) (x : Int) : Nat := (s.filter fun y => decide (x < y)).length
theorem cnt_lt : ∀ {s : List Int}, Sh s → ∀ {x : Int}, 0 ≤ x → ∀ {i : Nat}, i < cnt s x ↔ x < gi s i
  | [], _, x, hx, i => by
    rw [gi_out (s := []) (Nat.zero_le _)]
    unfold cnt
    simp
    omega
  | y :: ys, h, x, hx, i => by
    have ih := fun i => cnt_lt h.tail hx (i := i)
    have e : cnt (y :: ys) x = if x < y then cnt ys x + 1 else cnt ys x := by
      unfold cnt
      rw [List.filter_cons]
      by_cases c : x < y <;> simp [c]
    rw [e]
    by_cases c : x < y
    · rw [if_pos c]
      cases i with
      | zero => rw [gi_cons0]; omega
      | succ i => rw [gi_consS, ← ih]; omega
    · rw [if_neg c, ih i]
      have h1 : gi ys i ≤ y := h.mono (i := 0) (j := i + 1) (Nat.zero_le _)
      have h2 : gi (y :: ys) i ≤ y := h.mono (i := 0) (j := i) (Nat.zero_le _)
      omega
end DL

set_option Elab.async false
set_option linter.all false
set_option maxRecDepth 100000
set_option maxHeartbeats 4000000
namespace Wk35
open PySem PySem.Spec PyProof.Rows L2 DL
/-- a word as the package takes it -/
structure Wo (w : List Int) : Prop where
  len : w.length ≤ 30
  rng : ∀ x ∈ w, 1 ≤ x ∧ x ≤ 9
theorem need_ok {w : List Int} (h : Wo w) : p_need_word w = some () := by
  have hl := h.len
  have e1 : compG (fun x1 => (p_is_within x1 (1 : Int) (9 : Int)).bind fun v5 => some (some v5)) w = some (w.map fun _ => true) := by
    refine compG_map (by omega) fun x hx => ?_
    obtain ⟨h1, h2⟩ := h.rng x hx
    simp [p_is_within, p_is_integer, h1, h2]
  have c : ¬ (30 : Int) < (w.length : Int) := by omega
  unfold p_need_word p_is_word_form p_are_letters
  rw [if_neg (by simp [c]), e1]
  simp
/-- the law's loop -/
def latF : List Int → List Int → Bool
  | _, [] => true
  | s, x :: xs => if 1 < x ∧ gi (s.set x.toNat (gi s x.toNat + 1)) (x.toNat - 1) < gi (s.set x.toNat (gi s x.toNat + 1)) x.toNat then false else latF (s.set x.toNat (gi s x.toNat + 1)) xs
def latBody : List Int → Int → Option (Tn (List Int) Bool) := fun s2 x3 =>
  (atI s2 x3).bind fun v7 =>
  (setO s2 x3 (v7 + (1 : Int))).bind fun v5 =>
  (if (decide ((1 : Int) < x3)) = true then
  (atI v5 x3).bind fun v10 =>
  (atI v5 (x3 - (1 : Int))).bind fun v11 =>
  some (decide (v11 < v10))
  else
  some false).bind fun v8 =>
  if v8 = true then
  some (.rt false)
  else
  some (.nx v5)
theorem at0 (y : Int) (ys : List Int) : atI (y :: ys) 0 = some y := atI_gi (s := y :: ys) (k := 0) (i := 0) rfl (by simp only [List.length_cons]; omega)
theorem setO_eq {s : List Int} {k : Nat} {x : Int} (h : k < s.length) : setO s (k : Int) x = some (s.set k x) := by
  unfold setO ixN
  rw [if_pos (by omega), Int.toNat_natCast, if_pos (by omega)]
  rfl
theorem latBody_ok {s : List Int} {x : Int} (hs : s.length = 10) (hx : 1 ≤ x ∧ x ≤ 9) : latBody s x = some (if 1 < x ∧ gi (s.set x.toNat (gi s x.toNat + 1)) (x.toNat - 1) < gi (s.set x.toNat (gi s x.toNat + 1)) x.toNat then .rt false else .nx (s.set x.toNat (gi s x.toNat + 1))) := by
  obtain ⟨k, rfl⟩ := Int.eq_ofNat_of_zero_le (show 0 ≤ x by omega)
  have hk : k < s.length := by omega
  unfold latBody
  rw [atI_gi (i := k) rfl hk, Option.bind_some, setO_eq hk, Option.bind_some, Int.toNat_natCast]
  have hk2 : k < (s.set k (gi s k + 1)).length := by rw [List.length_set]; exact hk
  by_cases c : (1 : Int) < (k : Int)
  · rw [if_pos (decide_eq_true c), atI_gi (i := k) rfl hk2, Option.bind_some, atI_gi (i := k - 1) (by omega) (by omega), Option.bind_some, Option.bind_some]
    by_cases d : gi (s.set k (gi s k + 1)) (k - 1) < gi (s.set k (gi s k + 1)) k
    · rw [if_pos (decide_eq_true d), if_pos ⟨c, d⟩]
    · rw [if_neg (by rw [decide_eq_true_eq]; exact d), if_neg fun z => d z.2]
  · rw [if_neg (by rw [decide_eq_true_eq]; exact c), Option.bind_some, if_neg (by decide), if_neg fun z => c z.1]
theorem latLoop {rest : List Int → Option Bool} (hr : ∀ s, rest s = some true) : ∀ {w s : List Int}, s.length = 10 → (∀ x ∈ w, 1 ≤ x ∧ x ≤ 9) → (forP latBody w s).bind (retK rest) = some (latF s w)
  | [], s, _, _ => by
    show rest s = _
    rw [hr]
    rfl
  | x :: xs, s, hs, hw => by
    have hx := hw x List.mem_cons_self
    have ih := latLoop hr (w := xs) (s := s.set x.toNat (gi s x.toNat + 1)) (by rw [List.length_set]; exact hs) fun y hy => hw y (List.mem_cons_of_mem _ hy)
    rw [forP, latBody_ok hs hx, Option.bind_some]
    unfold latF
    by_cases c : 1 < x ∧ gi (s.set x.toNat (gi s x.toNat + 1)) (x.toNat - 1) < gi (s.set x.toNat (gi s x.toNat + 1)) x.toNat
    · rw [if_pos c, if_pos c]
      rfl
    · rw [if_neg c, if_neg c]
      exact ih
def s0 : List Int := [0, 0, 0, 0, 0, 0, 0, 0, 0, 0]
def lat (w : List Int) : Bool := latF s0 w
theorem xlat_ok {w : List Int} (h : Wo w) : p_x_law_is_lattice w = some (lat w) := latLoop (rest := fun _ => some true) (fun _ => rfl) (w := w) (s := s0) rfl h.rng
theorem lat_ok {w : List Int} (h : Wo w) : p_is_lattice w = some (lat w) := by
  unfold p_is_lattice
  rw [need_ok h, Option.bind_some]
  exact latLoop (rest := fun _ => some true) (fun _ => rfl) (w := w) (s := s0) rfl h.rng
/-! brackets -/
/-- how many are open behind a word that is read backwards -/
def dep (i : Int) : List Int → Nat
  | [] => 0
  | x :: xs => if x = i + 1 then dep i xs + 1 else if x = i then dep i xs - 1 else dep i xs
theorem latF_iff : ∀ {w s : List Int}, s.length = 10 → (∀ x ∈ w, 1 ≤ x ∧ x ≤ 9) → (∀ j : Nat, 1 ≤ j → j ≤ 8 → gi s (j + 1) ≤ gi s j) → (latF s w = true ↔ ∀ j : Nat, 1 ≤ j → j ≤ 8 → (dep j w : Int) ≤ gi s j - gi s (j + 1))
  | [], s, _, _, hd => by
    constructor
    · intro _ j h1 h2
      have := hd j h1 h2
      show ((0 : Nat) : Int) ≤ _
      omega
    · intro _; rfl
  | x :: xs, s, hs, hw, hd => by
    have hx := hw x List.mem_cons_self
    obtain ⟨k, rfl⟩ := Int.eq_ofNat_of_zero_le (show 0 ≤ x by omega)
    have hk : k < s.length := by omega
    have hw' : ∀ y ∈ xs, 1 ≤ y ∧ y ≤ 9 := fun y hy => hw y (List.mem_cons_of_mem _ hy)
    unfold latF
    rw [Int.toNat_natCast]
    have g : ∀ i, gi (s.set k (gi s k + 1)) i = if i = k then gi s k + 1 else gi s i := fun i => gi_set hk
    by_cases c : 1 < (k : Int) ∧ gi (s.set k (gi s k + 1)) (k - 1) < gi (s.set k (gi s k + 1)) k
    · rw [if_pos c]
      constructor
      · intro z; cases z
      · intro z
        have z1 := z (k - 1) (by omega) (by omega)
        unfold dep at z1
        rw [if_pos (by omega)] at z1
        obtain ⟨c1, c2⟩ := c
        rw [g, g, if_neg (by omega), if_pos rfl] at c2
        rw [show k - 1 + 1 = k by omega] at z1
        omega
    · rw [if_neg c]
      have hd' : ∀ j : Nat, 1 ≤ j → j ≤ 8 → gi (s.set k (gi s k + 1)) (j + 1) ≤ gi (s.set k (gi s k + 1)) j := by
        intro j h1 h2
        have h3 := hd j h1 h2
        by_cases e : j + 1 = k
        · have c' : ¬ gi (s.set k (gi s k + 1)) (k - 1) < gi (s.set k (gi s k + 1)) k := fun z => c ⟨by omega, z⟩
          rw [← e, Nat.add_sub_cancel] at c'
          rw [← e]
          omega
        · rw [g, g, if_neg e]
          split
          · rename_i e2; subst e2; omega
          · exact h3
      rw [latF_iff (by rw [List.length_set]; exact hs) hw' hd']
      constructor
      · intro z j h1 h2
        have z1 := z j h1 h2
        have h3 := hd j h1 h2
        rw [g, g] at z1
        unfold dep
        by_cases e : j + 1 = k
        · rw [if_pos e, if_neg (by omega)] at z1
          rw [if_pos (by omega)]
          rw [← e] at z1
          omega
        · rw [if_neg e] at z1
          rw [if_neg (by omega)]
          by_cases e2 : j = k
          · rw [if_pos e2] at z1
            rw [if_pos (by omega)]
            subst e2
            omega
          · rw [if_neg e2] at z1
            rw [if_neg (by omega)]
            exact z1
      · intro z j h1 h2
        have z1 := z j h1 h2
        have h3 := hd j h1 h2
        have h4 := hd' j h1 h2
        rw [g, g] at h4
        rw [g, g]
        unfold dep at z1
        by_cases e : j + 1 = k
        · rw [if_pos (by omega)] at z1
          rw [if_pos e, if_neg (by omega)]
          rw [← e]
          omega
        · rw [if_neg (by omega)] at z1
          rw [if_neg e]
          by_cases e2 : j = k
          · rw [if_pos (by omega)] at z1
            rw [if_pos e2]
            subst e2
            omega
          · rw [if_neg (by omega)] at z1
            rw [if_neg e2]
            exact z1
theorem lat_iff {w : List Int} (h : Wo w) : lat w = true ↔ ∀ j : Nat, 1 ≤ j → j ≤ 8 → dep j w = 0 := by
  unfold lat
  have g0 : ∀ i, gi s0 i = 0 := by
    intro i
    match i with
    | 0 | 1 | 2 | 3 | 4 | 5 | 6 | 7 | 8 | 9 => rfl
    | i + 10 => exact gi_out (show s0.length ≤ i + 10 by show 10 ≤ i + 10; omega)
  rw [latF_iff rfl h.rng (fun j _ _ => by rw [g0, g0]; exact Int.le_refl _)]
  constructor
  · intro z j h1 h2
    have := z j h1 h2
    rw [g0, g0] at this
    omega
  · intro z j h1 h2
    rw [z j h1 h2, g0, g0]
    exact Int.le_refl _
/-! left_places -/
def lpBody (a_i : Int) : (List Int) × (List Int) → Int × Int → Option ((List Int) × (List Int)) := fun s1 x2 =>
  (if (decide (x2.2 = (a_i + (1 : Int)))) = true then
  (appO s1.1 x2.1).bind fun v7 =>
  some (v7, s1.2)
  else
  (if ((decide (x2.2 = a_i)) && (!decide (s1.1 = ([] : (List Int))))) = true then
  (popO s1.1).bind fun v11 =>
  some (v11.2, s1.2)
  else
  (if (decide (x2.2 = a_i)) = true then
  (appO s1.2 x2.1).bind fun v15 =>
  some v15
  else
  some s1.2).bind fun j13 =>
  some (s1.1, j13)).bind fun j9 =>
  some (j9.1, j9.2)).bind fun j5 =>
  some (j5.1, j5.2)
/-- the places that are open stand for i + 1 in the word -/
structure LI (w : List Int) (i : Int) (n m d : Nat) (s : (List Int) × (List Int)) : Prop where
  op : s.1.length = d
  pl : ∀ p ∈ s.1, ∃ k : Nat, p = k ∧ k < n ∧ gi w k = i + 1
  l1 : s.1.length ≤ m
  l2 : s.2.length ≤ m
theorem lpBody_ok {w : List Int} {i : Int} {n m d : Nat} {s : (List Int) × (List Int)} (h : LI w i n m d s) (hm : m ≤ 1000) (hn : n < w.length) {x : Int} (hx : gi w n = x) :
    ∃ s', lpBody i s ((n : Int), x) = some s' ∧ LI w i (n + 1) (m + 1) (if x = i + 1 then d + 1 else if x = i then d - 1 else d) s' := by
  obtain ⟨h1, h2, h3, h4⟩ := h
  have mono : ∀ p ∈ s.1, ∃ k : Nat, p = k ∧ k < n + 1 ∧ gi w k = i + 1 := fun p hp => by
    obtain ⟨k, a, b, c⟩ := h2 p hp
    exact ⟨k, a, by omega, c⟩
  unfold lpBody
  dsimp only
  by_cases c : x = i + 1
  · rw [if_pos (decide_eq_true c), appO_eq (by omega)]
    refine ⟨_, rfl, ⟨?_, ?_, ?_, ?_⟩⟩
    · show (s.1 ++ [(n : Int)]).length = _
      rw [if_pos c, List.length_append, h1]
      rfl
    · intro p hp
      rcases List.mem_append.mp (show p ∈ s.1 ++ [(n : Int)] from hp) with hp | hp
      · exact mono p hp
      · rw [List.mem_singleton] at hp
        exact ⟨n, hp, by omega, by rw [hx, c]⟩
    · show (s.1 ++ [(n : Int)]).length ≤ _
      rw [List.length_append, List.length_cons, List.length_nil]
      omega
    · show s.2.length ≤ _
      omega
  · rw [if_neg (by rw [decide_eq_true_eq]; exact c), if_neg c]
    by_cases c2 : x = i
    · rw [if_pos c2]
      by_cases c3 : s.1 = []
      · rw [if_neg (by simp [c3]), if_pos (decide_eq_true c2), appO_eq (by omega)]
        refine ⟨_, rfl, ⟨?_, mono, by show s.1.length ≤ _; omega, ?_⟩⟩
        · show s.1.length = _
          have e0 : s.1.length = 0 := by rw [c3]; rfl
          omega
        · show (s.2 ++ [(n : Int)]).length ≤ _
          rw [List.length_append, List.length_cons, List.length_nil]
          omega
      · have hp0 : 0 < s.1.length := List.length_pos_iff.mpr c3
        rw [if_pos (by simp [c2, c3])]
        have e : popO s.1 = some (s.1[s.1.length - 1]'(by omega), s.1.dropLast) := by
          unfold popO
          rw [List.getElem?_eq_getElem (by omega)]
          rfl
        rw [e]
        refine ⟨_, rfl, ⟨?_, ?_, ?_, ?_⟩⟩
        · show s.1.dropLast.length = _
          rw [List.length_dropLast, h1]
        · exact fun p hp => mono p (List.dropLast_subset _ hp)
        · show s.1.dropLast.length ≤ _
          rw [List.length_dropLast]
          omega
        · show s.2.length ≤ _
          omega
    · rw [if_neg c2, if_neg (by simp [c2]), if_neg (by rw [decide_eq_true_eq]; exact c2)]
      exact ⟨_, rfl, ⟨h1, mono, by show s.1.length ≤ _; omega, by show s.2.length ≤ _; omega⟩⟩
/-- read from the front -/
def depF (i : Int) : Nat → List Int → Nat
  | d, [] => d
  | d, x :: xs => depF i (if x = i + 1 then d + 1 else if x = i then d - 1 else d) xs
theorem lpLoop {w : List Int} {i : Int} : ∀ {v : List Int} {n m d : Nat} {s : (List Int) × (List Int)}, LI w i n m d s → m + v.length ≤ 1000 → n + v.length = w.length → (∀ j, gi v j = gi w (n + j) ∨ v.length ≤ j) →
    ∃ s', forS (lpBody i) (enumF (n : Int) v) s = some s' ∧ LI w i w.length (m + v.length) (depF i d v) s'
  | [], n, m, d, s, h, _, hn, _ => by
    have : n = w.length := by simpa using hn
    subst this
    exact ⟨s, rfl, h⟩
  | x :: xs, n, m, d, s, h, hm, hn, hv => by
    rw [List.length_cons] at hm hn
    have hx : gi w n = x := by
      rcases hv 0 with z | z
      · rw [Nat.add_zero] at z
        exact z.symm
      · simp at z
    obtain ⟨s1, e1, h1⟩ := lpBody_ok h (by omega) (by omega) hx
    obtain ⟨s2, e2, h2⟩ := lpLoop (v := xs) h1 (by omega) (by omega) fun j => by
      rcases hv (j + 1) with z | z
      · left
        rw [gi_consS] at z
        rw [z]
        congr 1
        omega
      · right
        rw [List.length_cons] at z
        omega
    refine ⟨s2, ?_, ?_⟩
    · rw [enumF, forS, e1, Option.bind_some]
      exact e2
    · rw [List.length_cons, show m + (xs.length + 1) = m + 1 + xs.length by omega]
      exact h2
theorem lp_ok {w : List Int} (h : Wo w) (i : Int) : ∃ l o, p_left_places w i = some (l, o) ∧ o.length = depF i 0 w ∧ ∀ p ∈ o, ∃ k : Nat, p = k ∧ k < w.length ∧ gi w k = i + 1 := by
  have hl := h.len
  obtain ⟨s', e, h'⟩ := lpLoop (w := w) (i := i) (v := w) (n := 0) (m := 0) (d := 0) (s := ([], [])) ⟨rfl, (fun p hp => nomatch hp), Nat.le_refl _, Nat.le_refl _⟩ (by omega) (by omega) fun j => .inl (by rw [Nat.zero_add])
  refine ⟨s'.2, s'.1, ?_, h'.op, h'.pl⟩
  show (forS (lpBody i) (enumF 0 w) ([], [])).bind _ = _
  have e' : forS (lpBody i) (enumF 0 w) ([], []) = some s' := e
  rw [e']
  rfl
theorem depF_app (i : Int) (x : Int) : ∀ (v : List Int) (d : Nat), depF i d (v ++ [x]) = if x = i + 1 then depF i d v + 1 else if x = i then depF i d v - 1 else depF i d v
  | [], d => rfl
  | y :: ys, d => by
    rw [List.cons_append, depF, depF, depF_app i x ys]
theorem depF_rev (i : Int) : ∀ w : List Int, depF i 0 w.reverse = dep i w
  | [] => rfl
  | x :: xs => by
    rw [List.reverse_cons, depF_app, depF_rev i xs]
    rfl
theorem wo_rev {w : List Int} (h : Wo w) : Wo w.reverse := ⟨by rw [List.length_reverse]; exact h.len, fun x hx => h.rng x (List.mem_reverse.mp hx)⟩
/-! first_raising -/
theorem fr_ok {w : List Int} (h : Wo w) : ∃ o, p_first_raising w = some o ∧ (o = none → ∀ j : Nat, 1 ≤ j → j ≤ 8 → depF j 0 w = 0) ∧ (∀ i, o = some i → 1 ≤ i ∧ i ≤ 8 ∧ depF i 0 w ≠ 0) := by
  have e1 : compG (fun x3 => (p_left_places w x3).bind fun v7 => if (!decide (v7.2 = ([] : (List Int)))) = true then some (some x3) else some none) (rangeI 1 8) = some ((rangeI 1 8).filter fun x => decide (depF x 0 w ≠ 0)) := by
    refine compG_filter (by rw [rangeI_len]; omega) fun x hx => ?_
    obtain ⟨l, o, e, ho, _⟩ := lp_ok h x
    rw [e, Option.bind_some]
    by_cases c : depF x 0 w = 0
    · have : o = [] := List.eq_nil_of_length_eq_zero (by omega)
      simp [c, this]
    · have : o ≠ [] := fun z => c (by rw [← ho, z]; rfl)
      simp [c, this]
  have hr : rngO (1 : Int) (9 : Int) = some (rangeI 1 8) := rngO_eq (by decide) (by decide)
  have mem : ∀ x, x ∈ (rangeI 1 8).filter (fun x => decide (depF x 0 w ≠ 0)) ↔ (1 ≤ x ∧ x ≤ 8) ∧ depF x 0 w ≠ 0 := fun x => by
    rw [List.mem_filter, mem_rangeI, decide_eq_true_eq]
    constructor
    · rintro ⟨a, b⟩; exact ⟨by omega, b⟩
    · rintro ⟨a, b⟩; exact ⟨by omega, b⟩
  unfold p_first_raising
  rw [hr, Option.bind_some, e1, Option.bind_some]
  generalize (rangeI 1 8).filter (fun x => decide (depF x 0 w ≠ 0)) = fl at mem
  cases fl with
  | nil =>
    refine ⟨none, rfl, fun _ j h1 h2 => ?_, fun i z => nomatch z⟩
    apply Classical.byContradiction
    intro z
    have := (mem (j : Int)).mpr ⟨by omega, z⟩
    cases this
  | cons y ys =>
    refine ⟨some y, ?_, (fun z => nomatch z), fun i z => ?_⟩
    · rw [if_pos (by simp), at0]
      rfl
    · cases z
      have := (mem y).mp List.mem_cons_self
      exact ⟨this.1.1, this.1.2, this.2⟩
/-! raised -/
theorem sum_setI {s : List Int} {k : Nat} (hk : k < s.length) (a : Int) : (s.set k a).sum = s.sum - gi s k + a := by
  have split_at : ∀ a : Int, s.take k ++ [a] ++ s.drop (k + 1) = s.set k a := fun a => by
    rw [List.set_eq_take_append_cons_drop, if_pos hk, List.append_assoc]
    rfl
  have set_self : s.set k (gi s k) = s := by
    refine gi_ext (by simp) fun i => ?_
    rw [gi_set hk]
    split
    · rename_i c; rw [c]
    · rfl
  have e : s.sum = (s.take k ++ [gi s k] ++ s.drop (k + 1)).sum := by rw [split_at, set_self]
  rw [e, ← split_at]
  simp only [List.sum_append, List.sum_cons, List.sum_nil]
  omega
theorem wo_set {w : List Int} (h : Wo w) {k : Nat} {x : Int} (hx : 1 ≤ x ∧ x ≤ 9) : Wo (w.set k x) := by
  refine ⟨by rw [List.length_set]; exact h.len, fun y hy => ?_⟩
  rcases List.mem_or_eq_of_mem_set hy with z | z
  · exact h.rng y z
  · rw [z]; exact hx
theorem wl_ok {w : List Int} (h : Wo w) {k : Nat} (hk : k < w.length) (x : Int) : p_with_letter w k x = some (w.set k x) := by
  have hl := h.len
  have split_at : w.take k ++ [x] ++ w.drop (k + 1) = w.set k x := by
    rw [List.set_eq_take_append_cons_drop, if_pos hk, List.append_assoc]
    rfl
  unfold p_with_letter
  have e : ((k : Int) + 1).toNat = k + 1 := by omega
  rw [cut_to w (by omega), cut_from w (by omega), Int.toNat_natCast, e, addO_eq (by simp only [List.length_take, List.length_cons, List.length_nil]; omega), Option.bind_some,
    addO_eq (by simp only [List.length_append, List.length_take, List.length_drop, List.length_cons, List.length_nil]; omega), Option.bind_some, split_at]
theorem rw_none {w : List Int} (h : Wo w) {i : Int} (hd : depF i 0 w = 0) : p_raised_word w i = some none := by
  obtain ⟨l, o, e, ho, _⟩ := lp_ok h i
  have : o = [] := List.eq_nil_of_length_eq_zero (by omega)
  subst this
  unfold p_raised_word
  rw [e]
  rfl
theorem rw_some {w : List Int} (h : Wo w) {i : Int} (hi : 1 ≤ i ∧ i ≤ 8) (hd : depF i 0 w ≠ 0) : ∃ w', p_raised_word w i = some (some w') ∧ Wo w' ∧ w'.sum = w.sum - 1 ∧ w'.length = w.length := by
  obtain ⟨l, o, e, ho, hp⟩ := lp_ok h i
  cases o with
  | nil => exact absurd ho.symm hd
  | cons p ps =>
    obtain ⟨k, rfl, hk, hg⟩ := hp p List.mem_cons_self
    refine ⟨w.set k i, ?_, wo_set h (by omega), ?_, by rw [List.length_set]⟩
    · unfold p_raised_word
      rw [e, Option.bind_some, if_pos (by simp)]
      dsimp only
      rw [at0, Option.bind_some, wl_ok h hk]
      rfl
    · rw [sum_setI hk, hg]
      omega
def raCond : (List Int) × (List Int) × (Option Int) → Option Bool := fun s2 => some (s2.2.2).isSome
def raBody : (List Int) × (List Int) × (Option Int) → Option (Tn ((List Int) × (List Int) × (Option Int)) ((List Int) × (List Int))) := fun s2 =>
  (s2.2.2).bind fun v3 =>
  (p_raised_word s2.1 v3).bind fun v5 =>
  (v5).bind fun v6 =>
  ((some v3)).bind fun v10 =>
  (appO s2.2.1 v10).bind fun v8 =>
  (p_first_raising v6).bind fun v12 =>
  some (.nx (v6, v8, v12))
theorem wo_sum {w : List Int} (h : Wo w) : 0 ≤ w.sum := by
  have := sum_ge (s := 0 :: w) (fun z hz => by
    rcases List.mem_cons.mp hz with rfl | hz
    · exact Int.le_refl _
    · have := (h.rng z hz).1; omega) 0 List.mem_cons_self
  rw [List.sum_cons] at this
  omega
theorem raLoop : ∀ (N : Nat) {w steps : List Int} {o : Option Int}, Wo w → p_first_raising w = some o → w.sum < N → steps.length + N ≤ 10000 →
    ∃ w' steps', whileP raCond raBody N (w, steps, o) = some (.nx (w', steps', none)) ∧ steps.length ≤ steps'.length ∧ (o ≠ none → steps' ≠ []) ∧ (o = none → w' = w ∧ steps' = steps)
  | 0, w, steps, o, h, _, hs, _ => by
    have := wo_sum h
    omega
  | N + 1, w, steps, o, h, ho, hs, hst => by
    rw [whileP]
    cases o with
    | none => exact ⟨w, steps, rfl, Nat.le_refl _, (fun z => absurd rfl z), fun _ => ⟨rfl, rfl⟩⟩
    | some i =>
      obtain ⟨o', e1, _, h3⟩ := fr_ok h
      rw [ho] at e1
      cases e1
      obtain ⟨i1, i2, i3⟩ := h3 i rfl
      obtain ⟨w1, e2, hw1, hsum, _⟩ := rw_some h ⟨i1, i2⟩ i3
      obtain ⟨o1, e3, _, _⟩ := fr_ok hw1
      obtain ⟨w', steps', e4, l4, _, _⟩ := raLoop N (steps := steps ++ [i]) hw1 e3 (by omega) (by rw [List.length_append, List.length_cons, List.length_nil]; omega)
      have eb : raBody (w, steps, some i) = some (.nx (w1, steps ++ [i], o1)) := by
        unfold raBody
        dsimp only
        rw [Option.bind_some, e2, Option.bind_some, Option.bind_some, Option.bind_some, appO_eq (by omega), Option.bind_some, e3]
        rfl
      refine ⟨w', steps', ?_, ?_, ?_, fun z => nomatch z⟩
      · show (some true).bind _ = _
        rw [Option.bind_some, if_pos rfl, eb, Option.bind_some]
        exact e4
      · rw [List.length_append] at l4
        omega
      · intro _ z
        rw [z, List.length_append, List.length_cons] at l4
        simp at l4
theorem wo_sum_le {w : List Int} (h : Wo w) : w.sum ≤ 270 := by
  have : ∀ v : List Int, (∀ x ∈ v, 1 ≤ x ∧ x ≤ 9) → v.sum ≤ 9 * v.length := by
    intro v
    induction v with
    | nil => intro _; exact Int.le_refl _
    | cons x xs ih =>
      intro hv
      have h1 := ih fun y hy => hv y (List.mem_cons_of_mem _ hy)
      have h2 := hv x List.mem_cons_self
      rw [List.sum_cons, List.length_cons]
      omega
  have h1 := this w h.rng
  have h2 := h.len
  omega
theorem highest_ok {w : List Int} (h : Wo w) : ∃ w' steps, p_highest_of w.reverse = some (w', steps) ∧ decide (steps = []) = lat w := by
  have hr := wo_rev h
  obtain ⟨o, e1, h2, h3⟩ := fr_ok hr
  obtain ⟨w', steps', e4, _, h5, h6⟩ := raLoop 4000 (steps := []) hr e1 (by have := wo_sum_le hr; omega) (by decide)
  have e : p_highest_of w.reverse = some (w', steps') := by
    unfold p_highest_of p_raised_all
    rw [need_ok hr, Option.bind_some, e1]
    have e4' : whileP (fun s2 : (List Int) × (List Int) × (Option Int) => some (s2.2.2).isSome) (fun s2 : (List Int) × (List Int) × (Option Int) =>
      (s2.2.2).bind fun v3 =>
      (p_raised_word s2.1 v3).bind fun v5 =>
      (v5).bind fun v6 =>
      ((some v3)).bind fun v10 =>
      (appO s2.2.1 v10).bind fun v8 =>
      (p_first_raising v6).bind fun v12 =>
      some (Tn.nx (ρ := (List Int) × (List Int)) (v6, v8, v12))) 4000 (w.reverse, [], o) = some (.nx (w', steps', none)) := e4
    rw [Option.bind_some, e4']
    rfl
  refine ⟨w', steps', e, ?_⟩
  cases o with
  | none =>
    rw [(h6 rfl).2, (lat_iff h).mpr fun j a b => by rw [← depF_rev]; exact h2 rfl j a b]
    rfl
  | some i =>
    obtain ⟨i1, i2, i3⟩ := h3 i rfl
    rw [decide_eq_false (h5 (by simp))]
    cases q : lat w with
    | false => rfl
    | true =>
      have := (lat_iff h).mp q i.toNat (by omega) (by omega)
      rw [← depF_rev] at this
      rw [show ((i.toNat : Nat) : Int) = i by omega] at this
      exact absurd this i3
theorem raised_none {w : List Int} (h : Wo w) (hl : lat w = true) {i : Int} (hi : 1 ≤ i ∧ i ≤ 8) : p_raised w.reverse i = some none := by
  have hr := wo_rev h
  have hd : depF i 0 w.reverse = 0 := by
    have := (lat_iff h).mp hl i.toNat (by omega) (by omega)
    rw [← depF_rev] at this
    rw [show ((i.toNat : Nat) : Int) = i by omega] at this
    exact this
  unfold p_raised p_need_raise p_need_number
  rw [need_ok hr, rw_none hr hd]
  have h2 : i ≤ 8 := hi.2
  have h3 : ¬ 8 < i := by omega
  simp [p_is_within, p_is_integer, hi.1, h2, h3]
end Wk35

set_option Elab.async false
set_option linter.all false
set_option maxRecDepth 100000
set_option maxHeartbeats 4000000
namespace Wk35
open PySem PySem.Spec PyProof.Rows L2 DL
def body1 : (List ((List Int) × Int)) → List Int → Option (Tn (List ((List Int) × Int)) Bool) :=
(fun s4 x5 =>
  (p_x_law_is_lattice x5).bind fun v11 =>
  (p_is_lattice x5).bind fun v12 =>
  (sameO v12 v11).bind fun v13 =>
  if (!v13) = true then
  some (.rt false)
  else
  if v11 = true then
  (p_content_of x5).bind fun v14 =>
  (dputO s4 v14 (((dget s4 v14).getD (0 : Int)) + (1 : Int))).bind fun v15 =>
  (compG (fun x17 =>
  if (decide ((0 : Int) < x17.2)) = true then
  (repTO [(x17.1 + (1 : Int))] x17.2).bind fun v21 =>
  some (some v21)
  else some none) (enumF 0 v14)).bind fun v18 =>
  (p_highest_of (List.reverse x5)).bind fun v22 =>
  (rngO (1 : Int) (9 : Int)).bind fun r23 =>
  (compG (fun x25 =>
  (p_room_up (List.reverse x5) x25).bind fun v29 =>
  some (some v29)) r23).bind fun v26 =>
  (p_tableau_of (List.reverse x5)).bind fun v30 =>
  (repO [(0 : Int)] (8 : Int)).bind fun v31 =>
  (sameO (v22, v26, v30) (((List.reverse x5), ([] : (List Int))), v31, v18)).bind fun v32 =>
  if (!v32) = true then
  some (.rt false)
  else
  some (.nx v15)
  else
  some (.nx s4))
def body2 (s4 : List ((List Int) × Int)) : Unit → List Int → Option (Tn Unit Bool) :=
(fun s33 x34 =>
  (mapG (fun x37 => (decide ((0 : Int) < x37))) (fun x37 => x37) x34).bind fun v38 =>
  (if (!decide (x34 = (List.reverse (sortI x34)))) = true then
  some true
  else
  (dget s4 x34).bind fun v42 =>
  (p_x_law_records v38).bind fun v44 =>
  some (!decide (v42 = v44))).bind fun v40 =>
  if v40 = true then
  some (.rt false)
  else
  some (.nx ()))
def nxB {σ ρ : Type} : Option (Tn σ ρ) → Bool
  | some (.nx _) => true
  | _ => false
def fin (letters : List Int) (most : Int) : Bool := match p_x_law_every letters most with
  | some v3 => match forP body1 v3 [] with
    | some (.nx s4) => nxB (forP (body2 s4) (List.map (fun p => p.1) s4) ())
    | _ => false
  | _ => false
theorem nxB_of {σ ρ : Type} {x : Option (Tn σ ρ)} (h : nxB x = true) : ∃ s, x = some (.nx s) := by
  unfold nxB at h
  split at h
  · exact ⟨_, rfl⟩
  · cases h
theorem fin_of {letters : List Int} {most : Int} (h : fin letters most = true) : ∃ v3 s4, p_x_law_every letters most = some v3 ∧ forP body1 v3 [] = some (.nx s4) ∧ forP (body2 s4) (List.map (fun p => p.1) s4) () = some (.nx ()) := by
  unfold fin at h
  split at h
  · rename_i v3 e1
    split at h
    · rename_i s4 e2
      obtain ⟨s, e3⟩ := nxB_of h
      exact ⟨v3, s4, e1, e2, e3⟩
    · cases h
  · cases h
theorem f23 : fin [2, 3] 5 = true := by decide +kernel
theorem f13 : fin [1, 3] 5 = true := by decide +kernel
theorem f12 : fin [1, 2] 8 = true := by decide +kernel
theorem f1234 : fin [1, 2, 3, 4] 4 = true := by decide +kernel
theorem f123 : fin [1, 2, 3] 6 = true := by decide +kernel
end Wk35

set_option Elab.async false
set_option linter.all false
set_option maxRecDepth 100000
set_option maxHeartbeats 4000000
namespace Wk35
open PySem PySem.Spec PyProof.Rows L2 DL
theorem one_ok {α : Type} {things : List α} (h0 : 0 < things.length) (h1 : things.length < 1000000) {n : Nat} {f : List D} (hf : Feed n f) (hn : n ≤ 1000000) :
    ∃ g f', p_x_law_draw f ((things.length : Nat) : Int) = some (g, f') ∧ Feed (n + 1) f' ∧ ∃ t ∈ things, atI things g = some t := by
  obtain ⟨g, f', h2, h3, h4, h5⟩ := pd_spec (many := (things.length : Int)) hf (by omega) (by omega)
  refine ⟨g, f', h2, h5, ?_⟩
  obtain ⟨k, rfl⟩ := Int.eq_ofNat_of_zero_le h3
  have hk : k < things.length := by omega
  refine ⟨things[k], List.getElem_mem hk, ?_⟩
  rw [atI_nat things (by omega), Int.toNat_natCast, List.getElem?_eq_getElem hk]
theorem one0 {things : List ((List Int) × Int)} (h0 : 0 < things.length) (h1 : things.length < 1000000) {n : Nat} {f : List D} (hf : Feed n f) (hn : n ≤ 1000000) :
    ∃ t f', t ∈ things ∧ p_x_law_one_0 f things = some (t, f') ∧ Feed (n + 1) f' := by
  obtain ⟨g, f', h2, h3, t, h4, h5⟩ := one_ok h0 h1 hf hn
  refine ⟨t, f', h4, ?_, h3⟩
  unfold p_x_law_one_0
  rw [h2]
  simp only [Option.bind_some]
  rw [h5]
  rfl
theorem one1 {things : List Int} (h0 : 0 < things.length) (h1 : things.length < 1000000) {n : Nat} {f : List D} (hf : Feed n f) (hn : n ≤ 1000000) :
    ∃ t f', t ∈ things ∧ p_x_law_one_1 f things = some (t, f') ∧ Feed (n + 1) f' := by
  obtain ⟨g, f', h2, h3, t, h4, h5⟩ := one_ok h0 h1 hf hn
  refine ⟨t, f', h4, ?_, h3⟩
  unfold p_x_law_one_1
  rw [h2]
  simp only [Option.bind_some]
  rw [h5]
  rfl
/-! drawn lattice words -/
def cs : List Int → List Int → List Int
  | s, [] => s
  | s, x :: xs => cs (s.set x.toNat (gi s x.toNat + 1)) xs
theorem cs_len : ∀ (w s : List Int), (cs s w).length = s.length
  | [], _ => rfl
  | x :: xs, s => by rw [cs, cs_len xs, List.length_set]
theorem cs_app (x : Int) : ∀ (w s : List Int), cs s (w ++ [x]) = (cs s w).set x.toNat (gi (cs s w) x.toNat + 1)
  | [], _ => rfl
  | y :: ys, s => by rw [List.cons_append, cs, cs, cs_app x ys]
theorem latF_app (x : Int) : ∀ (w s : List Int), latF s w = true → ¬ (1 < x ∧ gi (cs s (w ++ [x])) (x.toNat - 1) < gi (cs s (w ++ [x])) x.toNat) → latF s (w ++ [x]) = true
  | [], s, _, h => by
    have h' : ¬ (1 < x ∧ gi (s.set x.toNat (gi s x.toNat + 1)) (x.toNat - 1) < gi (s.set x.toNat (gi s x.toNat + 1)) x.toNat) := h
    show (if 1 < x ∧ gi (s.set x.toNat (gi s x.toNat + 1)) (x.toNat - 1) < gi (s.set x.toNat (gi s x.toNat + 1)) x.toNat then false else latF (s.set x.toNat (gi s x.toNat + 1)) []) = true
    rw [if_neg h']
    rfl
  | y :: ys, s, h1, h2 => by
    unfold latF at h1
    split at h1
    · cases h1
    · rename_i c
      rw [List.cons_append]
      unfold latF
      rw [if_neg c]
      exact latF_app x ys _ h1 h2
structure DI (m n : Nat) (s : (List D) × (List Int) × (List Int)) : Prop where
  feed : Feed n s.1
  cl : s.2.1.length = 9
  rng : ∀ x ∈ s.2.2, 1 ≤ x ∧ x ≤ 9
  len : s.2.2.length = m
  lat : latF s0 s.2.2 = true
  cnt : ∀ a : Nat, a < 9 → gi s.2.1 a = gi (cs s0 s.2.2) (a + 1)
def drBody : (List D) × (List Int) × (List Int) → Int → Option ((List D) × (List Int) × (List Int)) := fun s4 x5 =>
  (rngO 0 (9 : Int)).bind fun r9 =>
  (compG (fun x11 =>
  (if (decide (x11 = (0 : Int))) = true then
  some true
  else
  (atI s4.2.1 x11).bind fun v17 =>
  (atI s4.2.1 (x11 - (1 : Int))).bind fun v18 =>
  some (decide (v17 < v18))).bind fun v15 =>
  if v15 = true then
  some (some x11)
  else some none) r9).bind fun v12 =>
  (repO (cutG v12 (some (-(1 : Int))) none) (2 : Int)).bind fun v19 =>
  (addO v12 v19).bind fun v20 =>
  (p_x_law_one_1 s4.1 v20).bind fun v21 =>
  (atI s4.2.1 v21.1).bind fun v24 =>
  (setO s4.2.1 v21.1 (v24 + (1 : Int))).bind fun v22 =>
  (appO s4.2.2 (v21.1 + (1 : Int))).bind fun v25 =>
  some (v21.2, v22, v25)
theorem drBody_ok {m n : Nat} {s : (List D) × (List Int) × (List Int)} (h : DI m n s) (hm : m < 30) (hn : n ≤ 1000) (x : Int) : ∃ s', drBody s x = some s' ∧ DI (m + 1) (n + 1) s' := by
  obtain ⟨f, c, w⟩ := s
  obtain ⟨h1, h2, h3, h4, h5, h6⟩ := h
  dsimp only at h1 h2 h3 h4 h5 h6
  have e1 : compG (fun x11 =>
      (if (decide (x11 = (0 : Int))) = true then
      some true
      else
      (atI c x11).bind fun v17 =>
      (atI c (x11 - (1 : Int))).bind fun v18 =>
      some (decide (v17 < v18))).bind fun v15 =>
      if v15 = true then
      some (some x11)
      else some none) (rangeI 0 9) = some ((rangeI 0 9).filter fun y => decide (y = 0 ∨ gi c y.toNat < gi c (y.toNat - 1))) := by
    refine compG_filter (by rw [rangeI_len]; omega) fun y hy => ?_
    obtain ⟨y1, y2⟩ := mem_rangeI.mp hy
    obtain ⟨k, rfl⟩ := Int.eq_ofNat_of_zero_le y1
    rw [Int.toNat_natCast]
    by_cases z : k = 0
    · subst z
      simp
    · rw [if_neg (by rw [decide_eq_true_eq]; omega), atI_gi (i := k) rfl (by omega), atI_gi (i := k - 1) (by omega) (by omega)]
      have : ¬ ((k : Int) = 0) := by omega
      by_cases c2 : gi c k < gi c (k - 1) <;> simp [c2, z, this]
  have hr : rngO 0 (9 : Int) = some (rangeI 0 9) := rngO_eq (by decide) (by decide)
  have mem : ∀ y, y ∈ (rangeI 0 9).filter (fun y => decide (y = 0 ∨ gi c y.toNat < gi c (y.toNat - 1))) → (0 ≤ y ∧ y < 9) ∧ (y = 0 ∨ gi c y.toNat < gi c (y.toNat - 1)) := fun y hy => by
    rw [List.mem_filter, mem_rangeI, decide_eq_true_eq] at hy
    exact ⟨by omega, hy.2⟩
  have z0 : (0 : Int) ∈ (rangeI 0 9).filter (fun y => decide (y = 0 ∨ gi c y.toNat < gi c (y.toNat - 1))) := by
    rw [List.mem_filter, mem_rangeI, decide_eq_true_eq]
    exact ⟨by omega, .inl rfl⟩
  have l9 := List.length_filter_le (fun y => decide (y = 0 ∨ gi c y.toNat < gi c (y.toNat - 1))) (rangeI 0 9)
  rw [rangeI_len] at l9
  unfold drBody
  rw [hr, Option.bind_some]
  dsimp only
  rw [e1, Option.bind_some]
  generalize (rangeI 0 9).filter (fun y => decide (y = 0 ∨ gi c y.toNat < gi c (y.toNat - 1))) = l at mem z0 l9
  have sub : ∀ y ∈ cutG l (some (-(1 : Int))) none, y ∈ l := fun y hy => List.mem_of_mem_drop (List.mem_of_mem_take hy)
  have cl : (cutG l (some (-(1 : Int))) none).length ≤ l.length := by
    unfold cutG
    rw [List.length_take, List.length_drop]
    omega
  have e2 : repO (cutG l (some (-(1 : Int))) none) (2 : Int) = some (cutG l (some (-(1 : Int))) none ++ cutG l (some (-(1 : Int))) none) := by
    unfold repO
    rw [if_pos ⟨by decide, SZ_big (by show _ * 2 ≤ _; omega)⟩]
    show some ((List.replicate 2 _).flatten) = _
    simp
  rw [e2, Option.bind_some, addO_eq (by rw [List.length_append]; omega), Option.bind_some]
  have hlen0 : 0 < (l ++ (cutG l (some (-(1 : Int))) none ++ cutG l (some (-(1 : Int))) none)).length := List.length_pos_of_mem (List.mem_append_left _ z0)
  have hlen1 : (l ++ (cutG l (some (-(1 : Int))) none ++ cutG l (some (-(1 : Int))) none)).length < 1000000 := by rw [List.length_append, List.length_append]; omega
  obtain ⟨at', f', hat, e3, hf'⟩ := one1 hlen0 hlen1 h1 (by omega)
  have hat' : at' ∈ l := by
    rcases List.mem_append.mp hat with z | z
    · exact z
    · rcases List.mem_append.mp z with z | z <;> exact sub _ z
  obtain ⟨⟨a1, a2⟩, a3⟩ := mem at' hat'
  obtain ⟨k, rfl⟩ := Int.eq_ofNat_of_zero_le a1
  have hk : k < c.length := by omega
  rw [Int.toNat_natCast] at a3
  have hcs : (cs s0 w).length = 10 := by rw [cs_len]; rfl
  have e10 : ((k : Int) + 1).toNat = k + 1 := by omega
  have gk : ∀ i, gi (cs s0 (w ++ [(k : Int) + 1])) i = if i = k + 1 then gi (cs s0 w) (k + 1) + 1 else gi (cs s0 w) i := fun i => by
    rw [cs_app, e10, gi_set (by omega)]
  rw [e3, Option.bind_some]
  dsimp only
  rw [atI_gi (i := k) rfl hk, Option.bind_some, setO_eq hk, Option.bind_some, appO_eq (by omega)]
  refine ⟨_, rfl, ⟨hf', ?_, ?_, ?_, ?_, ?_⟩⟩
  · show (c.set k _).length = 9
    rw [List.length_set]
    exact h2
  · intro y hy
    rcases List.mem_append.mp (show y ∈ w ++ [(k : Int) + 1] from hy) with z | z
    · exact h3 y z
    · rw [List.mem_singleton] at z
      omega
  · show (w ++ [(k : Int) + 1]).length = _
    rw [List.length_append, h4]
    rfl
  · refine latF_app _ w s0 h5 fun z => ?_
    obtain ⟨z1, z2⟩ := z
    rw [gk, gk, e10, if_pos rfl, if_neg (by omega)] at z2
    rcases a3 with a3 | a3
    · omega
    · rw [h6 k (by omega), h6 (k - 1) (by omega), show k - 1 + 1 = k by omega] at a3
      rw [Nat.add_sub_cancel] at z2
      omega
  · intro a ha
    show gi (c.set k (gi c k + 1)) a = gi (cs s0 (w ++ [(k : Int) + 1])) (a + 1)
    rw [gk, gi_set hk]
    by_cases z : a = k
    · subst z
      rw [if_pos rfl, if_pos rfl, h6 a ha]
    · rw [if_neg z, if_neg (by omega), h6 a ha]
theorem drLoop : ∀ {xs : List Int} {m n : Nat} {s : (List D) × (List Int) × (List Int)}, DI m n s → m + xs.length ≤ 30 → n + xs.length ≤ 1000 → ∃ s', forS drBody xs s = some s' ∧ DI (m + xs.length) (n + xs.length) s'
  | [], m, n, s, h, _, _ => ⟨s, rfl, h⟩
  | x :: xs, m, n, s, h, hm, hn => by
    rw [List.length_cons] at hm hn
    obtain ⟨s1, e1, h1⟩ := drBody_ok h (by omega) (by omega) x
    obtain ⟨s2, e2, h2⟩ := drLoop (xs := xs) h1 (by omega) (by omega)
    refine ⟨s2, by rw [forS, e1, Option.bind_some, e2], ?_⟩
    rw [List.length_cons, show m + (xs.length + 1) = m + 1 + xs.length by omega, show n + (xs.length + 1) = n + 1 + xs.length by omega]
    exact h2
theorem drawn_ok {n : Nat} {f : List D} (hf : Feed n f) (hn : n ≤ 100) {many : Nat} (hm : many ≤ 30) : ∃ w f', p_x_law_drawn f many = some (w, f') ∧ Wo w ∧ w.length = many ∧ lat w = true ∧ Feed (n + 30) f' := by
  have i0 : DI 0 n (f, [0, 0, 0, 0, 0, 0, 0, 0, 0], []) := by
    refine ⟨hf, rfl, (fun x hx => nomatch hx), rfl, rfl, fun a ha => ?_⟩
    match a, ha with
    | 0, _ | 1, _ | 2, _ | 3, _ | 4, _ | 5, _ | 6, _ | 7, _ | 8, _ => rfl
  have hr := rangeI_len many 0
  obtain ⟨s', e, h'⟩ := drLoop (xs := rangeI 0 many) i0 (by omega) (by omega)
  refine ⟨s'.2.2, s'.1, ?_, ⟨by rw [h'.len, hr]; omega, h'.rng⟩, by rw [h'.len, hr]; omega, h'.lat, h'.feed.mono (by omega)⟩
  have e9 : repO [(0 : Int)] (9 : Int) = some [0, 0, 0, 0, 0, 0, 0, 0, 0] := by decide +kernel
  have e0 : p_x_law_drawn f many = (repO [(0 : Int)] (9 : Int)).bind fun v1 => (rngO 0 (many : Int)).bind fun r2 => (forS drBody r2 (f, v1, [])).bind fun s4 => some (s4.2.2, s4.1) := rfl
  rw [e0, e9, Option.bind_some, rngO_nat (by omega), Option.bind_some, e]
  rfl
/-! long words -/
def lgBody (w : List Int) : List D → Int → Option (Tn (List D) (Bool × (List D))) := fun s10 x11 =>
  (p_x_law_draw s10 (9 : Int)).bind fun v14 =>
  (addO (cutG w none (some x11)) [((1 : Int) + v14.1)]).bind fun v15 =>
  (addO v15 (cutG w (some (x11 + (1 : Int))) none)).bind fun v16 =>
  (p_is_lattice v16).bind fun v17 =>
  (p_is_lattice v16).bind fun v18 =>
  (p_x_law_is_lattice v16).bind fun v19 =>
  (repO [v19] (2 : Int)).bind fun v20 =>
  (sameO [v17, v18] v20).bind fun v21 =>
  if (!v21) = true then
  some (.rt (false, v14.2))
  else
  (p_highest_of (List.reverse v16)).bind fun v22 =>
  (p_x_law_is_lattice v16).bind fun v23 =>
  if (!decide ((decide (v22.2 = ([] : (List Int)))) = v23)) = true then
  some (.rt (false, v14.2))
  else
  some (.nx v14.2)
theorem same_ok {α : Type} [DecidableEq α] {a b : α} (h : a = b) : sameO a b = some true := by
  unfold sameO
  rw [if_pos h]
theorem lgBody_ok {w : List Int} (h : Wo w) {n : Nat} {f : List D} (hf : Feed n f) (hn : n ≤ 10000) {x : Int} (hx : 0 ≤ x ∧ x < w.length) : ∃ f', lgBody w f x = some (.nx f') ∧ Feed (n + 1) f' := by
  obtain ⟨g, f', e1, g1, g2, hf'⟩ := pd_spec (many := 9) hf (by omega) (by decide)
  obtain ⟨k, rfl⟩ := Int.eq_ofNat_of_zero_le hx.1
  have hk : k < w.length := by omega
  have hb := wo_set h (k := k) (x := 1 + g) (by omega)
  have ew := wl_ok h hk (1 + g)
  unfold p_with_letter at ew
  refine ⟨f', ?_, hf'⟩
  unfold lgBody
  rw [e1, Option.bind_some]
  dsimp only
  have hl := h.len
  have split_at : w.take k ++ [1 + g] ++ w.drop (k + 1) = w.set k (1 + g) := by
    rw [List.set_eq_take_append_cons_drop, if_pos hk, List.append_assoc]
    rfl
  have e : ((k : Int) + 1).toNat = k + 1 := by omega
  rw [cut_to w (by omega), cut_from w (by omega), Int.toNat_natCast, e, addO_eq (by simp only [List.length_take, List.length_cons, List.length_nil]; omega), Option.bind_some,
    addO_eq (by simp only [List.length_append, List.length_take, List.length_drop, List.length_cons, List.length_nil]; omega), Option.bind_some, split_at]
  obtain ⟨w', steps, e5, e6⟩ := highest_ok hb
  have e7 : repO [lat (w.set k (1 + g))] (2 : Int) = some [lat (w.set k (1 + g)), lat (w.set k (1 + g))] := rfl
  rw [lat_ok hb, Option.bind_some, Option.bind_some, xlat_ok hb, Option.bind_some, e7, Option.bind_some, same_ok rfl, Option.bind_some, if_neg (by decide), e5, Option.bind_some, Option.bind_some]
  dsimp only
  rw [e6, if_neg (by simp)]
theorem lgLoop {w : List Int} (h : Wo w) : ∀ {xs : List Int} {n : Nat} {f : List D}, Feed n f → n + xs.length ≤ 10000 → (∀ x ∈ xs, 0 ≤ x ∧ x < w.length) → ∃ f', forP (lgBody w) xs f = some (.nx f') ∧ Feed (n + xs.length) f'
  | [], n, f, hf, _, _ => ⟨f, rfl, hf⟩
  | x :: xs, n, f, hf, hn, hx => by
    rw [List.length_cons] at hn
    obtain ⟨f1, e1, hf1⟩ := lgBody_ok h hf (by omega) (hx x List.mem_cons_self)
    obtain ⟨f2, e2, hf2⟩ := lgLoop h (xs := xs) hf1 (by omega) fun y hy => hx y (List.mem_cons_of_mem _ hy)
    refine ⟨f2, ?_, ?_⟩
    · rw [forP, e1]
      exact e2
    · rw [List.length_cons, show n + (xs.length + 1) = n + 1 + xs.length by omega]
      exact hf2
theorem long_ok {n : Nat} {f : List D} (hf : Feed n f) (hn : n ≤ 10) : ∃ f', p_x_law_long_right f = some (true, f') := by
  obtain ⟨many, f1, hm, e1, hf1⟩ := one1 (things := [(9 : Int), (20 : Int), (30 : Int)]) (by decide) (by decide) hf (by omega)
  have hm' : many = ((many.toNat : Nat) : Int) ∧ 9 ≤ many.toNat ∧ many.toNat ≤ 30 := by
    simp only [List.mem_cons, List.not_mem_nil, or_false] at hm
    omega
  obtain ⟨w, f2, e2, hw, hlen, hlat, hf2⟩ := drawn_ok hf1 (by omega) hm'.2.2
  rw [← hm'.1] at e2
  obtain ⟨g, f3, e3, g1, g2, hf3⟩ := pd_spec (many := 8) hf2 (by omega) (by decide)
  obtain ⟨a, f4, e4, a1, a2, hf4⟩ := pd_spec (many := ((w.length : Nat) : Int)) hf3 (by omega) (by omega)
  obtain ⟨b, f5, e5, b1, b2, hf5⟩ := pd_spec (many := ((w.length : Nat) : Int)) hf4 (by omega) (by omega)
  have hw2 : Wo (2 :: w.take 20) := ⟨by rw [List.length_cons, List.length_take]; omega, fun x hx => by
    rcases List.mem_cons.mp hx with rfl | hx
    · decide
    · exact hw.rng x (List.mem_of_mem_take hx)⟩
  have lat2 : lat (2 :: w.take 20) = false := rfl
  obtain ⟨f6, e6, hf6⟩ := lgLoop hw (xs := [(0 : Int), (((List.length w : Nat) : Int) - (1 : Int)), a, b]) hf5 (by show _ + 4 ≤ _; omega) (fun x hx => by
    simp only [List.mem_cons, List.not_mem_nil, or_false] at hx
    omega)
  have eA : ((p_is_lattice w).bind fun v5 =>
      if (!decide (v5 = true)) = true then
      some (true, f2)
      else
      (p_x_law_draw f2 (8 : Int)).bind fun v6 =>
      (p_raised (List.reverse w) ((1 : Int) + v6.1)).bind fun v7 =>
      some ((v7).isSome, v6.2)) = some (false, f3) := by
    rw [lat_ok hw, hlat, Option.bind_some, if_neg (by decide), e3, Option.bind_some]
    dsimp only
    rw [raised_none hw hlat (by omega)]
    rfl
  have eB : ((rngO (1 : Int) (10 : Int)).bind fun r26 =>
      (lenG r26).bind fun v28 =>
      (p_is_lattice v28).bind fun v30 =>
      if (decide (v30 = true)) = true then
      (addO [(2 : Int)] (cutG w none (some (20 : Int)))).bind fun v31 =>
      (p_is_lattice v31).bind fun v32 =>
      some (decide (v32 = false))
      else
      some false) = some true := by
    have r : ((rngO (1 : Int) (10 : Int)).bind fun r26 => lenG r26) = some [1, 2, 3, 4, 5, 6, 7, 8, 9] := by decide +kernel
    obtain ⟨r1, q1, q2⟩ := bS r
    have l9 : p_is_lattice [1, 2, 3, 4, 5, 6, 7, 8, 9] = some true := by decide +kernel
    have c20 : cutG w none (some (20 : Int)) = w.take 20 := cut_to w (by decide)
    rw [q1, Option.bind_some, q2, Option.bind_some, l9, Option.bind_some, if_pos (by decide), c20, addO_eq (by rw [List.length_take]; show 1 + _ ≤ _; omega), Option.bind_some]
    show (p_is_lattice (2 :: w.take 20)).bind _ = _
    rw [lat_ok hw2, lat2]
    rfl
  refine ⟨f6, ?_⟩
  have e : p_x_law_long_right f = (p_x_law_one_1 f [(9 : Int), (20 : Int), (30 : Int)]).bind fun v1 =>
      (p_x_law_drawn v1.2 v1.1).bind fun v2 =>
      ((p_is_lattice v2.1).bind fun v5 =>
      if (!decide (v5 = true)) = true then
      some (true, v2.2)
      else
      (p_x_law_draw v2.2 (8 : Int)).bind fun v6 =>
      (p_raised (List.reverse v2.1) ((1 : Int) + v6.1)).bind fun v7 =>
      some ((v7).isSome, v6.2)).bind fun v3 =>
      if v3.1 = true then
      some (false, v3.2)
      else
      (p_x_law_draw v3.2 ((List.length v2.1 : Nat) : Int)).bind fun v8 =>
      (p_x_law_draw v8.2 ((List.length v2.1 : Nat) : Int)).bind fun v9 =>
      (forP (lgBody v2.1) [(0 : Int), (((List.length v2.1 : Nat) : Int) - (1 : Int)), v8.1, v9.1] v9.2).bind (retK fun s10 =>
      ((rngO (1 : Int) (10 : Int)).bind fun r26 =>
      (lenG r26).bind fun v28 =>
      (p_is_lattice v28).bind fun v30 =>
      if (decide (v30 = true)) = true then
      (addO [(2 : Int)] (cutG v2.1 none (some (20 : Int)))).bind fun v31 =>
      (p_is_lattice v31).bind fun v32 =>
      some (decide (v32 = false))
      else
      some false).bind fun v24 =>
      some (v24, s10)) := rfl
  rw [e, e1, Option.bind_some]
  dsimp only
  rw [e2, Option.bind_some]
  dsimp only
  rw [eA, Option.bind_some, if_neg (by simp)]
  dsimp only
  rw [e4, Option.bind_some]
  dsimp only
  rw [e5, Option.bind_some]
  dsimp only
  rw [e6, Option.bind_some, retK, eB]
  rfl
theorem fin_all {t : (List Int) × Int} (h : t ∈ [([(1 : Int), (2 : Int), (3 : Int)], (6 : Int)), ([(1 : Int), (2 : Int), (3 : Int), (4 : Int)], (4 : Int)), ([(1 : Int), (2 : Int)], (8 : Int)), ([(2 : Int), (3 : Int)], (5 : Int)), ([(1 : Int), (3 : Int)], (5 : Int))]) : fin t.1 t.2 = true := by
  simp only [List.mem_cons, List.not_mem_nil, or_false] at h
  rcases h with rfl | rfl | rfl | rfl | rfl
  · exact f123
  · exact f1234
  · exact f12
  · exact f23
  · exact f13
theorem p_law_ok (ns : List Int) : p_law ns = some true := by
  obtain ⟨f, hf, e1⟩ := pf_spec ns 0 (by decide)
  obtain ⟨t, f1, ht, e2, hf1⟩ := one0 (things := [([(1 : Int), (2 : Int), (3 : Int)], (6 : Int)), ([(1 : Int), (2 : Int), (3 : Int), (4 : Int)], (4 : Int)), ([(1 : Int), (2 : Int)], (8 : Int)), ([(2 : Int), (3 : Int)], (5 : Int)), ([(1 : Int), (3 : Int)], (5 : Int))]) (by decide) (by decide) hf (by omega)
  obtain ⟨v3, s4, e3, e4, e5⟩ := fin_of (fin_all ht)
  obtain ⟨f2, e6⟩ := long_ok hf1 (by omega)
  have e : p_law ns = (p_x_law_feed ns (0 : Int)).bind fun v1 =>
      (p_x_law_one_0 v1 [([(1 : Int), (2 : Int), (3 : Int)], (6 : Int)), ([(1 : Int), (2 : Int), (3 : Int), (4 : Int)], (4 : Int)), ([(1 : Int), (2 : Int)], (8 : Int)), ([(2 : Int), (3 : Int)], (5 : Int)), ([(1 : Int), (3 : Int)], (5 : Int))]).bind fun v2 =>
      (p_x_law_every v2.1.1 v2.1.2).bind fun v3 =>
      (forP body1 v3 ([] : (List ((List Int) × Int)))).bind (retK fun s4 =>
      (forP (body2 s4) (List.map (fun p => p.1) s4) ()).bind (retK fun s33 =>
      (p_x_law_long_right v2.2).bind fun v45 =>
      some v45.1)) := rfl
  rw [e, e1, Option.bind_some, e2, Option.bind_some]
  dsimp only
  rw [e3, Option.bind_some, e4, Option.bind_some, retK, e5, Option.bind_some, retK, e6]
  rfl
theorem law_all : ∀ ns : List Int, ns.length ≤ 63 → ∃ outs, m_law [.val false (.list (ns.map PySem.PyData.int))] = some (.val (.bool true), outs) := fun ns _ => ⟨_, sp_law ns true (p_law_ok ns)⟩
end Wk35

set_option Elab.async false
set_option linter.all false
set_option maxRecDepth 100000
set_option maxHeartbeats 4000000
namespace Wk35
open PySem PySem.Spec PyProof.Rows L2 DL
def dd_is_integer : He.DefD := ⟨("is_integer", none), "is_integer", "is_integer", defArgs s_is_integer, defBody s_is_integer, defScope s_is_integer, [], []⟩
def dd_is_within : He.DefD := ⟨("is_within", none), "is_within", "is_within", defArgs s_is_within, defBody s_is_within, defScope s_is_within, [], []⟩
def dd_need_number : He.DefD := ⟨("need_number", none), "need_number", "need_number", defArgs s_need_number, defBody s_need_number, defScope s_need_number, [], []⟩
def dd_are_letters : He.DefD := ⟨("are_letters", none), "are_letters", "are_letters", defArgs s_are_letters, defBody s_are_letters, defScope s_are_letters, [], []⟩
def dd_is_word_form : He.DefD := ⟨("is_word_form", none), "is_word_form", "is_word_form", defArgs s_is_word_form, defBody s_is_word_form, defScope s_is_word_form, [], []⟩
def dd_need_word : He.DefD := ⟨("need_word", none), "need_word", "need_word", defArgs s_need_word, defBody s_need_word, defScope s_need_word, [], []⟩
def dd_place_above : He.DefD := ⟨("place_above", none), "place_above", "place_above", defArgs s_place_above, defBody s_place_above, defScope s_place_above, [], []⟩
def dd_put_in_row : He.DefD := ⟨("put_in_row", none), "put_in_row", "put_in_row", defArgs s_put_in_row, defBody s_put_in_row, defScope s_put_in_row, [], []⟩
def dd_pushed_rows : He.DefD := ⟨("pushed_rows", none), "pushed_rows", "pushed_rows", defArgs s_pushed_rows, defBody s_pushed_rows, defScope s_pushed_rows, [], []⟩
def dd_tableau_in : He.DefD := ⟨("tableau_in", none), "tableau_in", "tableau_in", defArgs s_tableau_in, defBody s_tableau_in, defScope s_tableau_in, [], []⟩
def dd_is_lattice : He.DefD := ⟨("is_lattice", none), "is_lattice", "is_lattice", defArgs s_is_lattice, defBody s_is_lattice, defScope s_is_lattice, [], []⟩
def dd_left_places : He.DefD := ⟨("left_places", none), "left_places", "left_places", defArgs s_left_places, defBody s_left_places, defScope s_left_places, [], []⟩
def dd_with_letter : He.DefD := ⟨("with_letter", none), "with_letter", "with_letter", defArgs s_with_letter, defBody s_with_letter, defScope s_with_letter, [], []⟩
def dd_raised_word : He.DefD := ⟨("raised_word", none), "raised_word", "raised_word", defArgs s_raised_word, defBody s_raised_word, defScope s_raised_word, [], []⟩
def dd_raised_all : He.DefD := ⟨("raised_all", none), "raised_all", "raised_all", defArgs s_raised_all, defBody s_raised_all, defScope s_raised_all, [], []⟩
def dd_first_raising : He.DefD := ⟨("first_raising", none), "first_raising", "first_raising", defArgs s_first_raising, defBody s_first_raising, defScope s_first_raising, [], []⟩
def dd_content_in : He.DefD := ⟨("content_in", none), "content_in", "content_in", defArgs s_content_in, defBody s_content_in, defScope s_content_in, [], []⟩
def dd_content_of : He.DefD := ⟨("content_of", none), "content_of", "content_of", defArgs s_content_of, defBody s_content_of, defScope s_content_of, [], []⟩
def dd_need_raise : He.DefD := ⟨("need_raise", none), "need_raise", "need_raise", defArgs s_need_raise, defBody s_need_raise, defScope s_need_raise, [], []⟩
def dd_raised : He.DefD := ⟨("raised", none), "raised", "raised", defArgs s_raised, defBody s_raised, defScope s_raised, [], []⟩
def dd_room_up : He.DefD := ⟨("room_up", none), "room_up", "room_up", defArgs s_room_up, defBody s_room_up, defScope s_room_up, [], []⟩
def dd_highest_of : He.DefD := ⟨("highest_of", none), "highest_of", "highest_of", defArgs s_highest_of, defBody s_highest_of, defScope s_highest_of, [], []⟩
def dd_tableau_of : He.DefD := ⟨("tableau_of", none), "tableau_of", "tableau_of", defArgs s_tableau_of, defBody s_tableau_of, defScope s_tableau_of, [], []⟩
def dd_x_law_feed : He.DefD := ⟨("_law_feed", none), "_law_feed", "_law_feed", defArgs s_x_law_feed, defBody s_x_law_feed, defScope s_x_law_feed, [], []⟩
def dd_x_law_draw : He.DefD := ⟨("_law_draw", none), "_law_draw", "_law_draw", defArgs s_x_law_draw, defBody s_x_law_draw, defScope s_x_law_draw, [], []⟩
def dd_x_law_one : He.DefD := ⟨("_law_one", none), "_law_one", "_law_one", defArgs s_x_law_one, defBody s_x_law_one, defScope s_x_law_one, [], []⟩
def dd_x_law_same : He.DefD := ⟨("_law_same", none), "_law_same", "_law_same", defArgs s_x_law_same, defBody s_x_law_same, defScope s_x_law_same, [], []⟩
def dd_x_law_every : He.DefD := ⟨("_law_every", none), "_law_every", "_law_every", defArgs s_x_law_every, defBody s_x_law_every, defScope s_x_law_every, [], []⟩
def dd_x_law_hooks : He.DefD := ⟨("_law_hooks", none), "_law_hooks", "_law_hooks", defArgs s_x_law_hooks, defBody s_x_law_hooks, defScope s_x_law_hooks, [], []⟩
def dd_x_law_factorial : He.DefD := ⟨("_law_factorial", none), "_law_factorial", "_law_factorial", defArgs s_x_law_factorial, defBody s_x_law_factorial, defScope s_x_law_factorial, [], []⟩
def dd_x_law_records : He.DefD := ⟨("_law_records", none), "_law_records", "_law_records", defArgs s_x_law_records, defBody s_x_law_records, defScope s_x_law_records, [], []⟩
def dd_x_law_is_lattice : He.DefD := ⟨("_law_is_lattice", none), "_law_is_lattice", "_law_is_lattice", defArgs s_x_law_is_lattice, defBody s_x_law_is_lattice, defScope s_x_law_is_lattice, [], []⟩
def dd_x_law_drawn : He.DefD := ⟨("_law_drawn", none), "_law_drawn", "_law_drawn", defArgs s_x_law_drawn, defBody s_x_law_drawn, defScope s_x_law_drawn, [], []⟩
def dd_x_law_long_right : He.DefD := ⟨("_law_long_right", none), "_law_long_right", "_law_long_right", defArgs s_x_law_long_right, defBody s_x_law_long_right, defScope s_x_law_long_right, [], []⟩
def dd_law : He.DefD := ⟨("law", none), "law", "law", defArgs s_law, defBody s_law, defScope s_law, [], []⟩
def fn : List He.DefD := [dd_is_integer, dd_is_within, dd_need_number, dd_are_letters, dd_is_word_form, dd_need_word, dd_place_above, dd_put_in_row, dd_pushed_rows, dd_tableau_in, dd_is_lattice, dd_left_places, dd_with_letter, dd_raised_word, dd_raised_all, dd_first_raising, dd_content_in, dd_content_of, dd_need_raise, dd_raised, dd_room_up, dd_highest_of, dd_tableau_of, dd_x_law_feed, dd_x_law_draw, dd_x_law_one, dd_x_law_same, dd_x_law_every, dd_x_law_hooks, dd_x_law_factorial, dd_x_law_records, dd_x_law_is_lattice, dd_x_law_drawn, dd_x_law_long_right, dd_law]
def fa : List He.Fa := ([.glo "is_integer", .glo "is_within", .glo "need_number", .glo "are_letters", .glo "is_word_form", .glo "need_word", .glo "place_above", .glo "put_in_row", .glo "pushed_rows", .glo "tableau_in", .glo "is_lattice", .glo "left_places", .glo "with_letter", .glo "raised_word", .glo "raised_all", .glo "first_raising", .glo "content_in", .glo "content_of", .glo "need_raise", .glo "raised", .glo "room_up", .glo "highest_of", .glo "tableau_of", .glo "_law_feed", .glo "_law_draw", .glo "_law_one", .glo "_law_same", .glo "_law_every", .glo "_law_hooks", .glo "_law_factorial"] : List He.Fa) ++ ([.glo "_law_records", .glo "_law_is_lattice", .glo "_law_drawn", .glo "_law_long_right", .glo "law", .free "all", .free "bool", .free "enumerate", .free "int", .free "isinstance", .free "len", .free "list", .free "max", .free "range", .free "sorted", .free "str", .free "sum", .free "tuple", .free "zip", .int "MOST_LETTER" 9, .int "MOST_SIZE" 30] : List He.Fa)
def loose : List PySem.Str := (["PushError", "BadWord", "BadNumber", "MOST_LETTER", "MOST_SIZE", "is_integer", "is_within", "need_number", "are_letters", "is_word_form", "need_word", "place_above", "put_in_row", "pushed_rows", "tableau_in", "is_lattice", "left_places", "with_letter", "raised_word", "raised_all", "first_raising", "content_in", "content_of", "need_raise", "raised", "room_up", "highest_of", "tableau_of", "_law_feed", "_law_draw"] : List PySem.Str) ++ (["_law_one", "_law_same", "_law_every", "_law_hooks", "_law_factorial", "_law_records", "_law_is_lattice", "_law_drawn", "_law_long_right"] : List PySem.Str)
abbrev Rw : PySem.W.OpenRow := PySem.W.OpenLaw.row PySem.Challenge.rw_rowspushed_k35_whole_all_words_as_lattic
abbrev hk : PySem.W.Hook := He.hookD 4 fa fn
def ob (s : PySem.W.SharedT) : He.AlD := He.obsDG 4 fa fn (HandSHeadRun.getT s)
theorem ob_eq (s : PySem.W.SharedT) : ob s = hk.obs s.abs := He.obsDG_eq (HandSHeadRun.getT_eq s)
set_option maxHeartbeats 0 in
theorem run (w : World) : HandSHeadRun.RunEq Rw (PySem.W.view Rw.prog [48]) hk ob 6000 loose w := by
  intro os
  kernel_rfl
noncomputable def tx {K : PySem.W.Frag} {h : Heap} {mg : Str → Option Value} (X : K.In h) (G : h.Ns mainGlobals mg) (c : He.SaysD fa fn K) : Tx K mg where
  a_is_integer := He.ga K "is_integer"
  fd_is_integer := Classical.choose (c.def_ 0 (d := dd_is_integer) rfl)
  F_is_integer := Classical.choose_spec (c.def_ 0 (d := dd_is_integer) rfl)
  g_is_integer := He.glo_ok X G (c.fact 0 (f := .glo "is_integer") (by rfl))
  a_is_within := He.ga K "is_within"
  fd_is_within := Classical.choose (c.def_ 1 (d := dd_is_within) rfl)
  F_is_within := Classical.choose_spec (c.def_ 1 (d := dd_is_within) rfl)
  g_is_within := He.glo_ok X G (c.fact 1 (f := .glo "is_within") (by rfl))
  a_need_number := He.ga K "need_number"
  fd_need_number := Classical.choose (c.def_ 2 (d := dd_need_number) rfl)
  F_need_number := Classical.choose_spec (c.def_ 2 (d := dd_need_number) rfl)
  g_need_number := He.glo_ok X G (c.fact 2 (f := .glo "need_number") (by rfl))
  a_are_letters := He.ga K "are_letters"
  fd_are_letters := Classical.choose (c.def_ 3 (d := dd_are_letters) rfl)
  F_are_letters := Classical.choose_spec (c.def_ 3 (d := dd_are_letters) rfl)
  g_are_letters := He.glo_ok X G (c.fact 3 (f := .glo "are_letters") (by rfl))
  a_is_word_form := He.ga K "is_word_form"
  fd_is_word_form := Classical.choose (c.def_ 4 (d := dd_is_word_form) rfl)
  F_is_word_form := Classical.choose_spec (c.def_ 4 (d := dd_is_word_form) rfl)
  g_is_word_form := He.glo_ok X G (c.fact 4 (f := .glo "is_word_form") (by rfl))
  a_need_word := He.ga K "need_word"
  fd_need_word := Classical.choose (c.def_ 5 (d := dd_need_word) rfl)
  F_need_word := Classical.choose_spec (c.def_ 5 (d := dd_need_word) rfl)
  g_need_word := He.glo_ok X G (c.fact 5 (f := .glo "need_word") (by rfl))
  a_place_above := He.ga K "place_above"
  fd_place_above := Classical.choose (c.def_ 6 (d := dd_place_above) rfl)
  F_place_above := Classical.choose_spec (c.def_ 6 (d := dd_place_above) rfl)
  g_place_above := He.glo_ok X G (c.fact 6 (f := .glo "place_above") (by rfl))
  a_put_in_row := He.ga K "put_in_row"
  fd_put_in_row := Classical.choose (c.def_ 7 (d := dd_put_in_row) rfl)
  F_put_in_row := Classical.choose_spec (c.def_ 7 (d := dd_put_in_row) rfl)
  g_put_in_row := He.glo_ok X G (c.fact 7 (f := .glo "put_in_row") (by rfl))
  a_pushed_rows := He.ga K "pushed_rows"
  fd_pushed_rows := Classical.choose (c.def_ 8 (d := dd_pushed_rows) rfl)
  F_pushed_rows := Classical.choose_spec (c.def_ 8 (d := dd_pushed_rows) rfl)
  g_pushed_rows := He.glo_ok X G (c.fact 8 (f := .glo "pushed_rows") (by rfl))
  a_tableau_in := He.ga K "tableau_in"
  fd_tableau_in := Classical.choose (c.def_ 9 (d := dd_tableau_in) rfl)
  F_tableau_in := Classical.choose_spec (c.def_ 9 (d := dd_tableau_in) rfl)
  g_tableau_in := He.glo_ok X G (c.fact 9 (f := .glo "tableau_in") (by rfl))
  a_is_lattice := He.ga K "is_lattice"
  fd_is_lattice := Classical.choose (c.def_ 10 (d := dd_is_lattice) rfl)
  F_is_lattice := Classical.choose_spec (c.def_ 10 (d := dd_is_lattice) rfl)
  g_is_lattice := He.glo_ok X G (c.fact 10 (f := .glo "is_lattice") (by rfl))
  a_left_places := He.ga K "left_places"
  fd_left_places := Classical.choose (c.def_ 11 (d := dd_left_places) rfl)
  F_left_places := Classical.choose_spec (c.def_ 11 (d := dd_left_places) rfl)
  g_left_places := He.glo_ok X G (c.fact 11 (f := .glo "left_places") (by rfl))
  a_with_letter := He.ga K "with_letter"
  fd_with_letter := Classical.choose (c.def_ 12 (d := dd_with_letter) rfl)
  F_with_letter := Classical.choose_spec (c.def_ 12 (d := dd_with_letter) rfl)
  g_with_letter := He.glo_ok X G (c.fact 12 (f := .glo "with_letter") (by rfl))
  a_raised_word := He.ga K "raised_word"
  fd_raised_word := Classical.choose (c.def_ 13 (d := dd_raised_word) rfl)
  F_raised_word := Classical.choose_spec (c.def_ 13 (d := dd_raised_word) rfl)
  g_raised_word := He.glo_ok X G (c.fact 13 (f := .glo "raised_word") (by rfl))
  a_raised_all := He.ga K "raised_all"
  fd_raised_all := Classical.choose (c.def_ 14 (d := dd_raised_all) rfl)
  F_raised_all := Classical.choose_spec (c.def_ 14 (d := dd_raised_all) rfl)
  g_raised_all := He.glo_ok X G (c.fact 14 (f := .glo "raised_all") (by rfl))
  a_first_raising := He.ga K "first_raising"
  fd_first_raising := Classical.choose (c.def_ 15 (d := dd_first_raising) rfl)
  F_first_raising := Classical.choose_spec (c.def_ 15 (d := dd_first_raising) rfl)
  g_first_raising := He.glo_ok X G (c.fact 15 (f := .glo "first_raising") (by rfl))
  a_content_in := He.ga K "content_in"
  fd_content_in := Classical.choose (c.def_ 16 (d := dd_content_in) rfl)
  F_content_in := Classical.choose_spec (c.def_ 16 (d := dd_content_in) rfl)
  g_content_in := He.glo_ok X G (c.fact 16 (f := .glo "content_in") (by rfl))
  a_content_of := He.ga K "content_of"
  fd_content_of := Classical.choose (c.def_ 17 (d := dd_content_of) rfl)
  F_content_of := Classical.choose_spec (c.def_ 17 (d := dd_content_of) rfl)
  g_content_of := He.glo_ok X G (c.fact 17 (f := .glo "content_of") (by rfl))
  a_need_raise := He.ga K "need_raise"
  fd_need_raise := Classical.choose (c.def_ 18 (d := dd_need_raise) rfl)
  F_need_raise := Classical.choose_spec (c.def_ 18 (d := dd_need_raise) rfl)
  g_need_raise := He.glo_ok X G (c.fact 18 (f := .glo "need_raise") (by rfl))
  a_raised := He.ga K "raised"
  fd_raised := Classical.choose (c.def_ 19 (d := dd_raised) rfl)
  F_raised := Classical.choose_spec (c.def_ 19 (d := dd_raised) rfl)
  g_raised := He.glo_ok X G (c.fact 19 (f := .glo "raised") (by rfl))
  a_room_up := He.ga K "room_up"
  fd_room_up := Classical.choose (c.def_ 20 (d := dd_room_up) rfl)
  F_room_up := Classical.choose_spec (c.def_ 20 (d := dd_room_up) rfl)
  g_room_up := He.glo_ok X G (c.fact 20 (f := .glo "room_up") (by rfl))
  a_highest_of := He.ga K "highest_of"
  fd_highest_of := Classical.choose (c.def_ 21 (d := dd_highest_of) rfl)
  F_highest_of := Classical.choose_spec (c.def_ 21 (d := dd_highest_of) rfl)
  g_highest_of := He.glo_ok X G (c.fact 21 (f := .glo "highest_of") (by rfl))
  a_tableau_of := He.ga K "tableau_of"
  fd_tableau_of := Classical.choose (c.def_ 22 (d := dd_tableau_of) rfl)
  F_tableau_of := Classical.choose_spec (c.def_ 22 (d := dd_tableau_of) rfl)
  g_tableau_of := He.glo_ok X G (c.fact 22 (f := .glo "tableau_of") (by rfl))
  a_x_law_feed := He.ga K "_law_feed"
  fd_x_law_feed := Classical.choose (c.def_ 23 (d := dd_x_law_feed) rfl)
  F_x_law_feed := Classical.choose_spec (c.def_ 23 (d := dd_x_law_feed) rfl)
  g_x_law_feed := He.glo_ok X G (c.fact 23 (f := .glo "_law_feed") (by rfl))
  a_x_law_draw := He.ga K "_law_draw"
  fd_x_law_draw := Classical.choose (c.def_ 24 (d := dd_x_law_draw) rfl)
  F_x_law_draw := Classical.choose_spec (c.def_ 24 (d := dd_x_law_draw) rfl)
  g_x_law_draw := He.glo_ok X G (c.fact 24 (f := .glo "_law_draw") (by rfl))
  a_x_law_one := He.ga K "_law_one"
  fd_x_law_one := Classical.choose (c.def_ 25 (d := dd_x_law_one) rfl)
  F_x_law_one := Classical.choose_spec (c.def_ 25 (d := dd_x_law_one) rfl)
  g_x_law_one := He.glo_ok X G (c.fact 25 (f := .glo "_law_one") (by rfl))
  a_x_law_same := He.ga K "_law_same"
  fd_x_law_same := Classical.choose (c.def_ 26 (d := dd_x_law_same) rfl)
  F_x_law_same := Classical.choose_spec (c.def_ 26 (d := dd_x_law_same) rfl)
  g_x_law_same := He.glo_ok X G (c.fact 26 (f := .glo "_law_same") (by rfl))
  a_x_law_every := He.ga K "_law_every"
  fd_x_law_every := Classical.choose (c.def_ 27 (d := dd_x_law_every) rfl)
  F_x_law_every := Classical.choose_spec (c.def_ 27 (d := dd_x_law_every) rfl)
  g_x_law_every := He.glo_ok X G (c.fact 27 (f := .glo "_law_every") (by rfl))
  a_x_law_hooks := He.ga K "_law_hooks"
  fd_x_law_hooks := Classical.choose (c.def_ 28 (d := dd_x_law_hooks) rfl)
  F_x_law_hooks := Classical.choose_spec (c.def_ 28 (d := dd_x_law_hooks) rfl)
  g_x_law_hooks := He.glo_ok X G (c.fact 28 (f := .glo "_law_hooks") (by rfl))
  a_x_law_factorial := He.ga K "_law_factorial"
  fd_x_law_factorial := Classical.choose (c.def_ 29 (d := dd_x_law_factorial) rfl)
  F_x_law_factorial := Classical.choose_spec (c.def_ 29 (d := dd_x_law_factorial) rfl)
  g_x_law_factorial := He.glo_ok X G (c.fact 29 (f := .glo "_law_factorial") (by rfl))
  a_x_law_records := He.ga K "_law_records"
  fd_x_law_records := Classical.choose (c.def_ 30 (d := dd_x_law_records) rfl)
  F_x_law_records := Classical.choose_spec (c.def_ 30 (d := dd_x_law_records) rfl)
  g_x_law_records := He.glo_ok X G (c.fact 30 (f := .glo "_law_records") (by rfl))
  a_x_law_is_lattice := He.ga K "_law_is_lattice"
  fd_x_law_is_lattice := Classical.choose (c.def_ 31 (d := dd_x_law_is_lattice) rfl)
  F_x_law_is_lattice := Classical.choose_spec (c.def_ 31 (d := dd_x_law_is_lattice) rfl)
  g_x_law_is_lattice := He.glo_ok X G (c.fact 31 (f := .glo "_law_is_lattice") (by rfl))
  a_x_law_drawn := He.ga K "_law_drawn"
  fd_x_law_drawn := Classical.choose (c.def_ 32 (d := dd_x_law_drawn) rfl)
  F_x_law_drawn := Classical.choose_spec (c.def_ 32 (d := dd_x_law_drawn) rfl)
  g_x_law_drawn := He.glo_ok X G (c.fact 32 (f := .glo "_law_drawn") (by rfl))
  a_x_law_long_right := He.ga K "_law_long_right"
  fd_x_law_long_right := Classical.choose (c.def_ 33 (d := dd_x_law_long_right) rfl)
  F_x_law_long_right := Classical.choose_spec (c.def_ 33 (d := dd_x_law_long_right) rfl)
  g_x_law_long_right := He.glo_ok X G (c.fact 33 (f := .glo "_law_long_right") (by rfl))
  a_law := He.ga K "law"
  fd_law := Classical.choose (c.def_ 34 (d := dd_law) rfl)
  F_law := Classical.choose_spec (c.def_ 34 (d := dd_law) rfl)
  g_law := He.glo_ok X G (c.fact 34 (f := .glo "law") (by rfl))
  n_all := He.free_ok X G (c.fact 35 (f := .free "all") (by rfl))
  n_bool := He.free_ok X G (c.fact 36 (f := .free "bool") (by rfl))
  n_enumerate := He.free_ok X G (c.fact 37 (f := .free "enumerate") (by rfl))
  n_int := He.free_ok X G (c.fact 38 (f := .free "int") (by rfl))
  n_isinstance := He.free_ok X G (c.fact 39 (f := .free "isinstance") (by rfl))
  n_len := He.free_ok X G (c.fact 40 (f := .free "len") (by rfl))
  n_list := He.free_ok X G (c.fact 41 (f := .free "list") (by rfl))
  n_max := He.free_ok X G (c.fact 42 (f := .free "max") (by rfl))
  n_range := He.free_ok X G (c.fact 43 (f := .free "range") (by rfl))
  n_sorted := He.free_ok X G (c.fact 44 (f := .free "sorted") (by rfl))
  n_str := He.free_ok X G (c.fact 45 (f := .free "str") (by rfl))
  n_sum := He.free_ok X G (c.fact 46 (f := .free "sum") (by rfl))
  n_tuple := He.free_ok X G (c.fact 47 (f := .free "tuple") (by rfl))
  n_zip := He.free_ok X G (c.fact 48 (f := .free "zip") (by rfl))
  t_MOST_LETTER := Classical.choose (He.int_ok X G (c.fact 49 (f := .int "MOST_LETTER" 9) (by rfl)))
  c_MOST_LETTER := Classical.choose_spec (He.int_ok X G (c.fact 49 (f := .int "MOST_LETTER" 9) (by rfl)))
  t_MOST_SIZE := Classical.choose (He.int_ok X G (c.fact 50 (f := .int "MOST_SIZE" 30) (by rfl)))
  c_MOST_SIZE := Classical.choose_spec (He.int_ok X G (c.fact 50 (f := .int "MOST_SIZE" 30) (by rfl)))
theorem facts {P : Program} {w : World} {K : PySem.W.Frag} {h : Heap} {mg : Str → Option Value} {f : Addr} (X : K.In h) (G : h.Ns mainGlobals mg) (hfa : mg ("law" : Str) = some (.ref f)) (c : He.SaysD fa fn K) :
    ∃ fd : FuncData, (∀ (s : Shared) (v : Value), BindsTo s fd ⟨[v], []⟩ [("script", v)]) ∧ ∀ base : Heap, K.In base → base.Ns mainGlobals mg → FnOk P w K mg base CX0 11 f fd ["script"] (spD K 1 m_law) := by
  have T := tx X G c
  have e := hfa.symm.trans T.g_law
  cases e
  have b := FunD.bindsA (ps := ["script"]) T.F_law fun _ _ _ _ _ _ us hl => match us, hl with | [_], _ => rfl
  exact ⟨T.fd_law, fun s v => b s [v] rfl, fun base _ _ => ok_law T⟩
end Wk35
open PySem PySem.W PySem.Calls PyProof.Rows
set_option maxRecDepth 100000 in
set_option maxHeartbeats 0 in
theorem PySem.Challenge.cw_rowspushed_k35_whole_all_words_as_lattic_holds : PySem.Challenge.rw_rowspushed_k35_whole_all_words_as_lattic.Holds := by
  w_on; o_law
  refine HandSHeadRun.head_any (r := Wk35.Rw) (q := view Wk35.Rw.prog [48]) (H := Wk35.hk) (ob := Wk35.ob) (M := 6000) (loose := Wk35.loose) (d := HandSHeadRun.topDef Wk35.Rw.prog 48) (kwd := []) Wk35.ob_eq
    (by kernel_rfl) (fun s => by kernel_rfl) Wk35.run (by kernel_rfl) (by kernel_rfl) (by kernel_rfl) (by rfl) (by first | assumption | decide +kernel) (by decide +kernel) ⟨rfl, rfl, rfl, rfl, rfl, by decide +kernel⟩ ?hw ?hc
  case hw => w_witness2
  case hc =>
    refine DL.walk_ofD (l := PySem.Challenge.rw_rowspushed_k35_whole_all_words_as_lattic) (n := 63) (k := 11) (x := "script") rfl (by decide) (by kernel_rfl) ⟨rfl, by decide, by decide⟩ ?F
    intro w mg fa h Y G hmg0
    obtain ⟨K, KX, c⟩ := Y
    have hmg : mg ("law" : PySem.Str) = some (.ref fa) := by
      have e : (HandSHeadRun.topDef Wk35.Rw.prog 48).name = ("law" : PySem.Str) := by kernel_rfl
      rw [← e]
      exact hmg0
    obtain ⟨fd, hb, hF⟩ := Wk35.facts (P := (PySem.Challenge.rw_rowspushed_k35_whole_all_words_as_lattic).prog) (w := w) KX G hmg c
    exact ⟨K, fd, Wk35.m_law, KX, hb, Wk35.law_all, hF⟩
