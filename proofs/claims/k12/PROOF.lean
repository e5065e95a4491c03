import PyProof.Rows.All
import Wide.All
import OpenK.AllK
import Wide.FinOn
import HandS.ForMost
import HandS.Gcd
import HandS.Wide
import HandS.Style
import HandS.IsInst
import HandS.Flow
import HandS.Deep
import HandS.TupLe
import HandS.TupAny
import HandS.IterVal
import HandS.Iter
import HandS.Zip
import HandS.SortInts
import HandS.Text
import KE.GoesMore
import PyProof.Draws
import KE.GoesEnumKw
import HandS.TryOnly
import KE.GoesEnum
import PySem.Challenge.RW_trusswork_k12_whole_hung_ropes
set_option Elab.async false
set_option linter.all false
set_option maxRecDepth 100000
set_option maxHeartbeats 2000000
/-! The data layer: what expressions and statements of a def come to, as plain functions over plain data. -/
namespace Dn
open PySem L2

/-! ### data -/
inductive D where
  | non | bl (b : Bool) | int (i : Int) | str (x : Str) | tup (xs : List D) | lst (xs : List D) | dct (ks vs : List D) | scr (ns : List Int)

/-- a key of a dict with plain keys -/
def keyOf : D → Option Key
  | .int i => some (.inl i)
  | .str x => some (.inr x)
  | _ => none
def keysOf : List D → Option (List Key)
  | [] => some []
  | d :: ds => (keyOf d).bind fun k => (keysOf ds).map (k :: ·)
def tkeyOf : D → Option (List Key)
  | .tup ds => keysOf ds
  | _ => none
def tkeysOf : List D → Option (List (List Key))
  | [] => some []
  | d :: ds => (tkeyOf d).bind fun k => (tkeysOf ds).map (k :: ·)

/-! ### what a value stands for, in the part S of the heap that stays -/
mutual
def Rp (K : PySem.W.Frag) (S : Hp) : D → V → Prop
  | .non, v => v = .non
  | .bl b, v => v = .bl b
  | .int i, v => v = .int i
  | .str x, v => v = .str x
  | .tup ds, v => ∃ a vs, v = .ref a ∧ SqT K S a vs ∧ RpL K S ds vs
  | .lst ds, v => ∃ a vs, v = .ref a ∧ S a = some (.lst vs) ∧ RpL K S ds vs
  | .dct ks ds, v => ∃ a, v = .ref a ∧ ((∃ kvs, S a = some (.dK kvs) ∧ keysOf ks = some (kvs.map (·.1)) ∧ RpL K S ds (kvs.map (·.2))) ∨ (∃ kvs, S a = some (.dT kvs) ∧ tkeysOf ks = some (kvs.map (·.1)) ∧ RpL K S ds (kvs.map (·.2))))
  | .scr ns, v => ∃ a, v = .ref a ∧ SqL K S a (ns.map V.int)
def RpL (K : PySem.W.Frag) (S : Hp) : List D → List V → Prop
  | [], vs => vs = []
  | d :: ds, vs => ∃ v r, vs = v :: r ∧ Rp K S d v ∧ RpL K S ds r
end

abbrev Sb (S H : Hp) : Prop := ∀ a o, S a = some o → H a = some o
theorem Sb.refl (S : Hp) : Sb S S := fun _ _ h => h
theorem Sb.trans {A B C : Hp} (h : Sb A B) (g : Sb B C) : Sb A C := fun a o e => g a o (h a o e)
theorem sb_upd {H : Hp} {p : Addr} {o : HO} (h : H p = none) : Sb H (upd H p o) := fun b u e => by
  rw [upd_ne (ne_of_none e h)]; exact e
theorem sb_rd {S H : Hp} {a : Addr} {u : HO} (e : Sb S H) (h : Rd S a u) : Rd H a u := by
  rcases h with h | ⟨o, h⟩
  · exact .inl (e a _ h)
  · exact .inr ⟨o, e a _ h⟩
theorem sb_l {K : PySem.W.Frag} {S H : Hp} {a : Addr} {xs : List V} (e : Sb S H) (h : SqL K S a xs) : SqL K H a xs := by
  rcases h with h | h
  · exact .inl (sb_rd e h)
  · exact .inr h
theorem sb_t {K : PySem.W.Frag} {S H : Hp} {a : Addr} {xs : List V} (e : Sb S H) (h : SqT K S a xs) : SqT K H a xs := by
  rcases h with h | h
  · exact .inl (sb_rd e h)
  · exact .inr h

mutual
theorem Rp.mono {K : PySem.W.Frag} {S S' : Hp} (e : Sb S S') : ∀ (d : D) (v : V), Rp K S d v → Rp K S' d v
  | .non, v, h => by simpa [Rp] using h
  | .bl b, v, h => by simpa [Rp] using h
  | .int i, v, h => by simpa [Rp] using h
  | .str x, v, h => by simpa [Rp] using h
  | .tup ds, v, h => by
    simp only [Rp] at h ⊢
    obtain ⟨a, vs, e1, h1, h2⟩ := h
    exact ⟨a, vs, e1, sb_t e h1, RpL.mono e ds vs h2⟩
  | .lst ds, v, h => by
    simp only [Rp] at h ⊢
    obtain ⟨a, vs, e1, h1, h2⟩ := h
    exact ⟨a, vs, e1, e _ _ h1, RpL.mono e ds vs h2⟩
  | .dct ks ds, v, h => by
    simp only [Rp] at h ⊢
    obtain ⟨a, e1, h⟩ := h
    rcases h with ⟨kvs, h1, h2, h3⟩ | ⟨kvs, h1, h2, h3⟩
    · exact ⟨a, e1, .inl ⟨kvs, e _ _ h1, h2, RpL.mono e ds _ h3⟩⟩
    · exact ⟨a, e1, .inr ⟨kvs, e _ _ h1, h2, RpL.mono e ds _ h3⟩⟩
  | .scr ns, v, h => by
    simp only [Rp] at h ⊢
    obtain ⟨a, e1, h1⟩ := h
    exact ⟨a, e1, sb_l e h1⟩
theorem RpL.mono {K : PySem.W.Frag} {S S' : Hp} (e : Sb S S') : ∀ (ds : List D) (vs : List V), RpL K S ds vs → RpL K S' ds vs
  | [], vs, h => by simpa [RpL] using h
  | d :: ds, vs, h => by
    simp only [RpL] at h ⊢
    obtain ⟨v, r, e1, h1, h2⟩ := h
    exact ⟨v, r, e1, Rp.mono e d v h1, RpL.mono e ds r h2⟩
end

section
variable {K : PySem.W.Frag} {S : Hp}
theorem RpL.nil : RpL K S [] [] := by simp [RpL]
theorem RpL.cons {d : D} {ds : List D} {v : V} {vs : List V} (h : Rp K S d v) (g : RpL K S ds vs) : RpL K S (d :: ds) (v :: vs) := by
  simp only [RpL]; exact ⟨v, vs, rfl, h, g⟩
theorem RpL.cons_inv {d : D} {ds : List D} {vs : List V} (h : RpL K S (d :: ds) vs) : ∃ v r, vs = v :: r ∧ Rp K S d v ∧ RpL K S ds r := by
  simpa only [RpL] using h
theorem RpL.nil_inv {vs : List V} (h : RpL K S [] vs) : vs = [] := by simpa only [RpL] using h
theorem RpL.len : ∀ {ds : List D} {vs : List V}, RpL K S ds vs → vs.length = ds.length
  | [], vs, h => by rw [h.nil_inv]; rfl
  | d :: ds, vs, h => by
    obtain ⟨v, r, rfl, _, h2⟩ := h.cons_inv
    simp only [List.length_cons, h2.len]
theorem RpL.get : ∀ {ds : List D} {vs : List V} {i : Nat} {d : D}, RpL K S ds vs → ds[i]? = some d → ∃ v, vs[i]? = some v ∧ Rp K S d v
  | [], _, _, _, _, e => by simp at e
  | d :: ds, vs, 0, d', h, e => by
    obtain ⟨v, r, rfl, h1, _⟩ := h.cons_inv
    simp at e; subst e
    exact ⟨v, rfl, h1⟩
  | d :: ds, vs, i + 1, d', h, e => by
    obtain ⟨v, r, rfl, _, h2⟩ := h.cons_inv
    obtain ⟨v', e1, h3⟩ := RpL.get (i := i) h2 (by simpa using e)
    exact ⟨v', by simpa using e1, h3⟩
theorem RpL.getV : ∀ {ds : List D} {vs : List V} {i : Nat} {v : V}, RpL K S ds vs → vs[i]? = some v → ∃ d, ds[i]? = some d ∧ Rp K S d v
  | [], _, _, _, h, e => by rw [h.nil_inv] at e; simp at e
  | d :: ds, vs, 0, v', h, e => by
    obtain ⟨v, r, rfl, h1, _⟩ := h.cons_inv
    simp at e; subst e
    exact ⟨d, rfl, h1⟩
  | d :: ds, vs, i + 1, v', h, e => by
    obtain ⟨v, r, rfl, _, h2⟩ := h.cons_inv
    obtain ⟨d', e1, h3⟩ := RpL.getV (i := i) h2 (by simpa using e)
    exact ⟨d', by simpa using e1, h3⟩
theorem RpL.append : ∀ {ds es : List D} {vs us : List V}, RpL K S ds vs → RpL K S es us → RpL K S (ds ++ es) (vs ++ us)
  | [], _, vs, _, h, g => by rw [h.nil_inv]; exact g
  | d :: ds, es, vs, us, h, g => by
    obtain ⟨v, r, rfl, h1, h2⟩ := h.cons_inv
    exact RpL.cons h1 (h2.append g)
theorem RpL.take : ∀ {ds : List D} {vs : List V} (n : Nat), RpL K S ds vs → RpL K S (ds.take n) (vs.take n)
  | _, _, 0, _ => by simp only [List.take_zero]; exact RpL.nil
  | [], vs, n + 1, h => by rw [h.nil_inv]; exact RpL.nil
  | d :: ds, vs, n + 1, h => by
    obtain ⟨v, r, rfl, h1, h2⟩ := h.cons_inv
    exact RpL.cons h1 (h2.take n)
theorem RpL.drop : ∀ {ds : List D} {vs : List V} (n : Nat), RpL K S ds vs → RpL K S (ds.drop n) (vs.drop n)
  | _, _, 0, h => by simpa using h
  | [], vs, n + 1, h => by rw [h.nil_inv]; exact RpL.nil
  | d :: ds, vs, n + 1, h => by
    obtain ⟨v, r, rfl, h1, h2⟩ := h.cons_inv
    exact h2.drop n
theorem RpL.set : ∀ {ds : List D} {vs : List V} (i : Nat) {d : D} {v : V}, RpL K S ds vs → Rp K S d v → RpL K S (ds.set i d) (vs.set i v)
  | [], vs, _, _, _, h, _ => by rw [h.nil_inv]; exact RpL.nil
  | d :: ds, vs, 0, _, _, h, g => by
    obtain ⟨v, r, rfl, h1, h2⟩ := h.cons_inv
    exact RpL.cons g h2
  | d :: ds, vs, i + 1, _, _, h, g => by
    obtain ⟨v, r, rfl, h1, h2⟩ := h.cons_inv
    exact RpL.cons h1 (h2.set i g)
theorem RpL.ints : ∀ (ns : List Int), RpL K S (ns.map D.int) (ns.map V.int)
  | [] => RpL.nil
  | n :: ns => RpL.cons (by simp [Rp]) (RpL.ints ns)
end

/-! ### slots, the pool -/
inductive Sl where
  | un | val (d : D) | own (xs : List D) | owd (ks vs : List D) | pool
/-- the pool of drawn numbers: the script, the place, the rest, the fills -/
structure Pl where
  scr : List Int
  i : Int
  n : Int
  k : Int
/-- the pool's object, the script's, the script's numbers -/
abbrev PP := Option (Addr × Addr × List Int)
def SlR (K : PySem.W.Frag) (pp : PP) (S : Hp) : Sl → Option (Option V) → Prop
  | .un, _ => True
  | .val d, ov => ∃ v, ov = some (some v) ∧ Rp K S d v
  | .own xs, ov => ∃ v, ov = some (some v) ∧ Rp K S (.lst xs) v
  | .owd ks vs, ov => ∃ v, ov = some (some v) ∧ Rp K S (.dct ks vs) v
  | .pool, ov => ∃ p sc, pp = some (p, sc) ∧ ov = some (some (.ref p))
theorem SlR.mono {K : PySem.W.Frag} {pp : PP} {S S' : Hp} (e : Sb S S') : ∀ {sl : Sl} {ov : Option (Option V)}, SlR K pp S sl ov → SlR K pp S' sl ov
  | .un, _, _ => trivial
  | .val d, _, ⟨v, e1, h⟩ => ⟨v, e1, h.mono e⟩
  | .own xs, _, ⟨v, e1, h⟩ => ⟨v, e1, h.mono e⟩
  | .owd ks vs, _, ⟨v, e1, h⟩ => ⟨v, e1, h.mono e⟩
  | .pool, _, h => h

abbrev Env := List Sl
/-- the state ahead of an expression -/
structure ER (K : PySem.W.Frag) (pp : PP) (S H : Hp) (σ : L2.St) (E : Env) (pl : Option Pl) : Prop where
  sub : Sb S H
  len : E.length = σ.length
  env : ∀ (i : Nat) (sl : Sl), E[i]? = some sl → SlR K pp S sl σ[i]?
  pin : ∀ p sc, pp = some (p, sc) → (∃ o, H p = some o) ∧ S p = none ∧ SqL K S sc.1 (sc.2.map V.int)
  pool : ∀ P, pl = some P → ∃ p sc, pp = some (p, sc) ∧ H p = some (.lst [.ref sc.1, .int P.i, .int P.n, .int P.k]) ∧ P.scr = sc.2
  npp : pl = none → pp = none
/-- behind an expression: what was stands, but the pool; what stays new is new -/
structure Ad (pp : PP) (S H S' H' : Hp) : Prop where
  s : Sb S S'
  h : ∀ a o, H a = some o → (∀ sc, pp ≠ some (a, sc)) → H' a = some o
  t : ∀ a o, H a = some o → ∃ o', H' a = some o'
  n : ∀ a o, S' a = some o → S a = some o ∨ H a = none
/-- new objects that stay, nothing else -/
structure Nw (S H S' H' : Hp) : Prop where
  sub : Sb S' H'
  s : Sb S S'
  h : Sb H H'
  n : ∀ a o, S' a = some o → S a = some o ∨ H a = none
section
variable {K : PySem.W.Frag} {pp : PP} {S S' S'' H H' H'' : Hp} {σ : L2.St} {E : Env} {pl : Option Pl}
theorem Ad.refl : Ad pp S H S H := ⟨Sb.refl _, fun _ _ h _ => h, fun a o h => ⟨o, h⟩, fun _ _ h => .inl h⟩
theorem none_of_t {H H' : Hp} (t : ∀ a o, H a = some o → ∃ o', H' a = some o') {a : Addr} (h : H' a = none) : H a = none := by
  cases e : H a with
  | none => rfl
  | some o => obtain ⟨o', e'⟩ := t a o e; rw [e'] at h; cases h
theorem Ad.trans (a : Ad pp S H S' H') (b : Ad pp S' H' S'' H'') : Ad pp S H S'' H'' :=
  ⟨a.s.trans b.s, fun x o e n => b.h x o (a.h x o e n) n, fun x o e => let ⟨o', e'⟩ := a.t x o e; b.t x o' e', fun x o e => by
    rcases b.n x o e with h | h
    · exact a.n x o h
    · exact .inr (none_of_t a.t h)⟩
theorem Nw.refl (h : Sb S H) : Nw S H S H := ⟨h, Sb.refl _, Sb.refl _, fun _ _ h => .inl h⟩
theorem Nw.t (a : Nw S H S' H') : ∀ x o, H x = some o → ∃ o', H' x = some o' := fun x o e => ⟨o, a.h x o e⟩
theorem Nw.trans (a : Nw S H S' H') (b : Nw S' H' S'' H'') : Nw S H S'' H'' :=
  ⟨b.sub, a.s.trans b.s, a.h.trans b.h, fun x o e => by
    rcases b.n x o e with h | h
    · exact a.n x o h
    · exact .inr (none_of_t a.t h)⟩
theorem Nw.ad (a : Nw S H S' H') : Ad pp S H S' H' := ⟨a.s, fun x o e _ => a.h x o e, a.t, a.n⟩
/-- a new object that stays -/
theorem Nw.new {p : Addr} {o : HO} (hs : Sb S H) (h : H p = none) : Nw S H (upd S p o) (upd H p o) := by
  refine ⟨fun a u e => ?_, sb_upd ?_, sb_upd h, fun a u e => ?_⟩
  · by_cases hp : a = p
    · subst hp; rw [upd_same] at e ⊢; exact e
    · rw [upd_ne hp] at e ⊢; exact hs a u e
  · cases e : S p with
    | none => rfl
    | some u => rw [hs p u e] at h; cases h
  · by_cases hp : a = p
    · subst hp; exact .inr h
    · rw [upd_ne hp] at e; exact .inl e
theorem Nw.freeze {p : Addr} {o : HO} (a : Nw S H S' H') (h : H p = none) (h' : H' p = some o) (h'' : S' p = none) : Nw S H (upd S' p o) H' := by
  refine ⟨fun b u e => ?_, a.s.trans (sb_upd h''), a.h, fun b u e => ?_⟩
  · by_cases hp : b = p
    · subst hp; rw [upd_same] at e; cases e; exact h'
    · rw [upd_ne hp] at e; exact a.sub b u e
  · by_cases hp : b = p
    · subst hp; exact .inr h
    · rw [upd_ne hp] at e; exact a.n b u e
theorem ER.nw (I : ER K pp S H σ E pl) (a : Nw S H S' H') : ER K pp S' H' σ E pl := by
  refine ⟨a.sub, I.len, fun i sl e => (I.env i sl e).mono a.s, fun p sc e => ?_, fun P e => ?_, I.npp⟩
  · obtain ⟨⟨o, h⟩, g, g'⟩ := I.pin p sc e
    refine ⟨⟨o, a.h p o h⟩, ?_, sb_l a.s g'⟩
    cases q : S' p with
    | none => rfl
    | some u =>
      rcases a.n p u q with z | z
      · rw [z] at g; cases g
      · rw [z] at h; cases h
  · obtain ⟨p, sc, e1, h1, h2⟩ := I.pool P e
    exact ⟨p, sc, e1, a.h _ _ h1, h2⟩
end
end Dn
set_option Elab.async false
set_option linter.all false
set_option maxRecDepth 100000
set_option maxHeartbeats 2000000
namespace Dn
open PySem L2

/-! ### plain data, equality -/
def fl : Nat → D → Bool
  | _, .non => true
  | _, .bl _ => true
  | _, .int _ => true
  | _, .str x => x.cps.all (· < 0x110000)
  | n + 1, .tup xs => xs.all (fl n)
  | n + 1, .lst xs => xs.all (fl n)
  | _, _ => false
mutual
def toPy : D → PyData
  | .non => .none
  | .bl b => .bool b
  | .int i => .int i
  | .str x => .str x
  | .tup xs => .tuple (toPyL xs)
  | .lst xs => .list (toPyL xs)
  | .dct _ _ => .none
  | .scr _ => .none
def toPyL : List D → List PyData
  | [] => []
  | d :: ds => toPy d :: toPyL ds
end
mutual
def eqd : D → D → Bool
  | .non, .non => true
  | .bl a, .bl b => a == b
  | .bl a, .int j => (if a then 1 else 0) == j
  | .int i, .bl b => i == (if b then 1 else 0)
  | .int i, .int j => i == j
  | .str x, .str y => x == y
  | .tup xs, .tup ys => eqdL xs ys
  | .lst xs, .lst ys => eqdL xs ys
  | _, _ => false
def eqdL : List D → List D → Bool
  | [], [] => true
  | x :: xs, y :: ys => eqd x y && eqdL xs ys
  | _, _ => false
end
theorem fl_tup {n : Nat} {xs : List D} : fl (n + 1) (.tup xs) = xs.all (fl n) := by simp only [fl]
theorem fl_lst {n : Nat} {xs : List D} : fl (n + 1) (.lst xs) = xs.all (fl n) := by simp only [fl]
theorem fl_dct {n : Nat} {ks vs : List D} : fl n (.dct ks vs) = false := by cases n <;> simp only [fl]
theorem fl_scr {n : Nat} {ns : List Int} : fl n (.scr ns) = false := by cases n <;> simp only [fl]
theorem fl_tup0 {xs : List D} : fl 0 (.tup xs) = false := by simp only [fl]
theorem fl_lst0 {xs : List D} : fl 0 (.lst xs) = false := by simp only [fl]
theorem fl_int {n : Nat} {i : Int} : fl n (.int i) = true := by cases n <;> simp only [fl]
theorem fl_non {n : Nat} : fl n .non = true := by cases n <;> simp only [fl]
theorem fl_bl {n : Nat} {b : Bool} : fl n (.bl b) = true := by cases n <;> simp only [fl]
theorem fl_str {n : Nat} {x : Str} : fl n (.str x) = x.cps.all (· < 0x110000) := by cases n <;> simp only [fl]

mutual
theorem eqd_py : ∀ (n : Nat) (a b : D), fl n a = true → fl n b = true → PyData.eqv (toPy a) (toPy b) = eqd a b
  | n, .non, b, _, h => by cases b <;> simp_all [toPy, eqd, PyData.eqv, fl_dct, fl_scr]
  | n, .bl _, b, _, h => by cases b <;> simp_all [toPy, eqd, PyData.eqv, fl_dct, fl_scr]
  | n, .int _, b, _, h => by cases b <;> simp_all [toPy, eqd, PyData.eqv, fl_dct, fl_scr]
  | n, .str _, b, _, h => by cases b <;> simp_all [toPy, eqd, PyData.eqv, fl_dct, fl_scr]
  | n, .tup xs, .tup ys, h, g => by
    cases n with
    | zero => simp [fl_tup0] at h
    | succ n =>
      simp only [toPy, eqd, PyData.eqv]
      exact eqdL_py n xs ys (by simpa only [fl_tup] using h) (by simpa only [fl_tup] using g)
  | n, .lst xs, .lst ys, h, g => by
    cases n with
    | zero => simp [fl_lst0] at h
    | succ n =>
      simp only [toPy, eqd, PyData.eqv]
      exact eqdL_py n xs ys (by simpa only [fl_lst] using h) (by simpa only [fl_lst] using g)
  | n, .tup xs, .non, _, _ => by simp [toPy, eqd, PyData.eqv]
  | n, .tup xs, .bl _, _, _ => by simp [toPy, eqd, PyData.eqv]
  | n, .tup xs, .int _, _, _ => by simp [toPy, eqd, PyData.eqv]
  | n, .tup xs, .str _, _, _ => by simp [toPy, eqd, PyData.eqv]
  | n, .tup xs, .lst _, _, _ => by simp [toPy, eqd, PyData.eqv]
  | n, .tup xs, .dct _ _, _, g => by simp [fl_dct] at g
  | n, .tup xs, .scr _, _, g => by simp [fl_scr] at g
  | n, .lst xs, .non, _, _ => by simp [toPy, eqd, PyData.eqv]
  | n, .lst xs, .bl _, _, _ => by simp [toPy, eqd, PyData.eqv]
  | n, .lst xs, .int _, _, _ => by simp [toPy, eqd, PyData.eqv]
  | n, .lst xs, .str _, _, _ => by simp [toPy, eqd, PyData.eqv]
  | n, .lst xs, .tup _, _, _ => by simp [toPy, eqd, PyData.eqv]
  | n, .lst xs, .dct _ _, _, g => by simp [fl_dct] at g
  | n, .lst xs, .scr _, _, g => by simp [fl_scr] at g
  | n, .dct _ _, _, h, _ => by simp [fl_dct] at h
  | n, .scr _, _, h, _ => by simp [fl_scr] at h
theorem eqdL_py : ∀ (n : Nat) (a b : List D), a.all (fl n) = true → b.all (fl n) = true → PyData.eqvAll (toPyL a) (toPyL b) = eqdL a b
  | n, [], [], _, _ => by simp [toPyL, eqdL, PyData.eqvAll]
  | n, [], _ :: _, _, _ => by simp [toPyL, eqdL, PyData.eqvAll]
  | n, _ :: _, [], _, _ => by simp [toPyL, eqdL, PyData.eqvAll]
  | n, x :: xs, y :: ys, h, g => by
    simp only [List.all_cons, Bool.and_eq_true] at h g
    simp only [toPyL, eqdL, PyData.eqvAll, eqd_py n x y h.1 g.1, eqdL_py n xs ys h.2 g.2]
end
mutual
theorem lay_py : ∀ (n : Nat) (a : D), fl n a = true → PyData.canLay0 (toPy a) = true ∧ PyData.depth (toPy a) ≤ n
  | n, .non, _ => by simp [toPy, PyData.canLay0, PyData.depth]
  | n, .bl _, _ => by simp [toPy, PyData.canLay0, PyData.depth]
  | n, .int _, _ => by simp [toPy, PyData.canLay0, PyData.depth]
  | n, .str x, h => by
    rw [fl_str] at h
    simp only [toPy, PyData.canLay0, PyData.depth]
    exact ⟨h, Nat.zero_le _⟩
  | 0, .tup _, h => by simp [fl_tup0] at h
  | 0, .lst _, h => by simp [fl_lst0] at h
  | n + 1, .tup xs, h => by
    have g := layL_py n xs (by simpa only [fl_tup] using h)
    simp only [toPy, PyData.canLay0, PyData.depth]
    exact ⟨g.1, by omega⟩
  | n + 1, .lst xs, h => by
    have g := layL_py n xs (by simpa only [fl_lst] using h)
    simp only [toPy, PyData.canLay0, PyData.depth]
    exact ⟨g.1, by omega⟩
  | n, .dct _ _, h => by simp [fl_dct] at h
  | n, .scr _, h => by simp [fl_scr] at h
theorem layL_py : ∀ (n : Nat) (a : List D), a.all (fl n) = true → PyData.canLayAll0 (toPyL a) = true ∧ PyData.depthAll (toPyL a) ≤ n
  | n, [], _ => by simp [toPyL, PyData.canLayAll0, PyData.depthAll]
  | n, x :: xs, h => by
    simp only [List.all_cons, Bool.and_eq_true] at h
    have g1 := lay_py n x h.1
    have g2 := layL_py n xs h.2
    simp only [toPyL, PyData.canLayAll0, PyData.depthAll, g1.1, g2.1]
    exact ⟨rfl, by omega⟩
end
theorem shaped_py {n : Nat} {a : D} (h : fl n a = true) (hn : n ≤ 60) : SeqAt.shaped (toPy a) = true := by
  have g := lay_py n a h
  unfold SeqAt.shaped
  rw [g.1, decide_eq_true (by omega)]; rfl
mutual
theorem dp_py {K : PySem.W.Frag} {S H : Hp} (e : Sb S H) : ∀ (n : Nat) (d : D) (v : V), fl n d = true → Rp K S d v → Dp K H v (toPy d)
  | n, .non, v, _, h => by simp only [Rp] at h; subst h; simp only [toPy]; exact .non
  | n, .bl b, v, _, h => by simp only [Rp] at h; subst h; simp only [toPy]; exact .bl b
  | n, .int i, v, _, h => by simp only [Rp] at h; subst h; simp only [toPy]; exact .int i
  | n, .str i, v, _, h => by simp only [Rp] at h; subst h; simp only [toPy]; exact .str i
  | 0, .tup _, _, h, _ => by simp [fl_tup0] at h
  | 0, .lst _, _, h, _ => by simp [fl_lst0] at h
  | n + 1, .tup xs, v, h, g => by
    simp only [Rp] at g
    obtain ⟨a, vs, rfl, h1, h2⟩ := g
    simp only [toPy]
    exact .tup (sb_t e h1) (dpL_py e n xs vs (by simpa only [fl_tup] using h) h2)
  | n + 1, .lst xs, v, h, g => by
    simp only [Rp] at g
    obtain ⟨a, vs, rfl, h1, h2⟩ := g
    simp only [toPy]
    exact .lst (.inl (.inl (e _ _ h1))) (dpL_py e n xs vs (by simpa only [fl_lst] using h) h2)
  | n, .dct _ _, _, h, _ => by simp [fl_dct] at h
  | n, .scr _, _, h, _ => by simp [fl_scr] at h
theorem dpL_py {K : PySem.W.Frag} {S H : Hp} (e : Sb S H) : ∀ (n : Nat) (ds : List D) (vs : List V), ds.all (fl n) = true → RpL K S ds vs → DpAll K H vs (toPyL ds)
  | n, [], vs, _, h => by rw [h.nil_inv]; simp only [toPyL]; exact .nil
  | n, d :: ds, vs, h, g => by
    obtain ⟨v, r, rfl, h1, h2⟩ := g.cons_inv
    simp only [List.all_cons, Bool.and_eq_true] at h
    simp only [toPyL]
    exact .cons (dp_py e n d v h.1 h1) (dpL_py e n ds r h.2 h2)
end

/-! ### expressions: what they come to -/
abbrev EM := Env → Option Pl → Option (D × Option Pl)
abbrev BM := Env → Option Pl → Option (Bool × Option Pl)
abbrev AM := Env → Option Pl → Option (List D × Option Pl)
def ES (K : PySem.W.Frag) (t : TE) (m : EM) : Prop := ∀ pp S H σ E pl d pl' (Q : VK), ER K pp S H σ E pl → m E pl = some (d, pl') → (∀ v S' H', ER K pp S' H' σ E pl' → Ad pp S H S' H' → Rp K S' d v → Q v H') → t σ H Q
def BS (K : PySem.W.Frag) (t : TT) (m : BM) : Prop := ∀ pp S H σ E pl d pl' (Q : Bool → Hp → Prop), ER K pp S H σ E pl → m E pl = some (d, pl') → (∀ S' H', ER K pp S' H' σ E pl' → Ad pp S H S' H' → Q d H') → t σ H Q
def AS (K : PySem.W.Frag) (t : TA) (m : AM) : Prop := ∀ pp S H σ E pl d pl' (Q : List V → Hp → Prop), ER K pp S H σ E pl → m E pl = some (d, pl') → (∀ vs S' H', ER K pp S' H' σ E pl' → Ad pp S H S' H' → RpL K S' d vs → Q vs H') → t σ H Q
/-- a list made here, that nothing else knows -/
def LS (K : PySem.W.Frag) (t : TE) (m : AM) : Prop := ∀ pp S H σ E pl d pl' (Q : VK), ER K pp S H σ E pl → m E pl = some (d, pl') → (∀ p vs S' H', ER K pp S' H' σ E pl' → Ad pp S H S' H' → H p = none → S' p = none → H' p = some (.lst vs) → RpL K S' d vs → Q (.ref p) H') → t σ H Q

def EF (X : Cx) (e : Expr) (m : EM) : Prop := ∃ t, PE X e t ∧ ES X.K t m
def BF (X : Cx) (e : Expr) (m : BM) : Prop := ∃ t, PT X e t ∧ BS X.K t m
def WF (X : Cx) (e : Expr) (m : BM) : Prop := ∃ t, PW X e t ∧ BS X.K t m
def AF (X : Cx) (es : List Expr) (m : AM) : Prop := ∃ t, PA X es t ∧ AS X.K t m
def LF (X : Cx) (e : Expr) (m : AM) : Prop := ∃ t, PE X e t ∧ LS X.K t m

def oks {α : Type} (d : α) : Env → Option Pl → Option (α × Option Pl) := fun _ pl => some (d, pl)
def seqM {α β : Type} (m : Env → Option Pl → Option (α × Option Pl)) (f : α → Env → Option Pl → Option (β × Option Pl)) : Env → Option Pl → Option (β × Option Pl) :=
  fun E pl => match m E pl with
    | some (a, p) => f a E p
    | none => none
def lftM {α : Type} (o : Option α) : Env → Option Pl → Option (α × Option Pl) := fun _ pl => o.map fun d => (d, pl)
theorem seqM_some {α β : Type} {m : Env → Option Pl → Option (α × Option Pl)} {f : α → Env → Option Pl → Option (β × Option Pl)} {E : Env} {pl p' : Option Pl} {b : β} (h : seqM m f E pl = some (b, p')) : ∃ a p, m E pl = some (a, p) ∧ f a E p = some (b, p') := by
  unfold seqM at h
  cases e : m E pl with
  | none => rw [e] at h; cases h
  | some x =>
    obtain ⟨a, p⟩ := x
    rw [e] at h
    exact ⟨a, p, rfl, h⟩
theorem lftM_some {α : Type} {o : Option α} {E : Env} {pl p' : Option Pl} {a : α} (h : lftM o E pl = some (a, p')) : o = some a ∧ p' = pl := by
  unfold lftM at h
  cases o with
  | none => cases h
  | some x => cases h; exact ⟨rfl, rfl⟩
theorem oks_some {α : Type} {d a : α} {E : Env} {pl p' : Option Pl} (h : oks d E pl = some (a, p')) : d = a ∧ p' = pl := by
  unfold oks at h; cases h; exact ⟨rfl, rfl⟩

def mC (d : D) : EM := oks d
def mV (i : Nat) : EM := fun E pl => match E[i]? with
  | some (.val d) => some (d, pl)
  | some (.own xs) => some (.lst xs, pl)
  | some (.owd ks vs) => some (.dct ks vs, pl)
  | _ => none
def mOp (g : D → D → Option D) (ma mb : EM) : EM := seqM ma fun x => seqM mb fun y => lftM (g x y)
def mUn (g : D → Option D) (ma : EM) : EM := seqM ma fun x => lftM (g x)
def aNil : AM := oks []
def aCons (ma : EM) (mr : AM) : AM := seqM ma fun x => seqM mr fun xs => oks (x :: xs)

section
variable {X : Cx}
theorem ES.c {K : PySem.W.Frag} {v : V} {d : D} (h : ∀ S, Rp K S d v) : ES K (tC v) (mC d) := fun pp S H σ E pl d' pl' Q I e q => by
  obtain ⟨rfl, rfl⟩ := oks_some e
  exact q v S H I Ad.refl (h S)
theorem ef_int {i j pos} : EF X (.Constant (.int i) j pos) (mC (.int i)) := ⟨_, pe_int, ES.c fun _ => by simp only [Rp]⟩
theorem ef_bl {b j pos} : EF X (.Constant (.bool b) j pos) (mC (.bl b)) := ⟨_, pe_bl, ES.c fun _ => by simp only [Rp]⟩
theorem ef_non {j pos} : EF X (.Constant .none j pos) (mC .non) := ⟨_, pe_non, ES.c fun _ => by simp only [Rp]⟩
theorem ef_str {x j pos} : EF X (.Constant (.str x) j pos) (mC (.str x)) := ⟨_, pe_str, ES.c fun _ => by simp only [Rp]⟩
theorem ES.v {K : PySem.W.Frag} (i : Nat) : ES K (tVar i) (mV i) := fun pp S H σ E pl d pl' Q I e q => by
  unfold mV at e
  cases h : E[i]? with
  | none => rw [h] at e; cases e
  | some sl =>
    rw [h] at e
    have g := I.env i sl h
    cases sl with
    | un => cases e
    | pool => cases e
    | val d' => cases e; obtain ⟨v, e1, r⟩ := g; exact ⟨v, e1, q v S H I Ad.refl r⟩
    | own xs => cases e; obtain ⟨v, e1, r⟩ := g; exact ⟨v, e1, q v S H I Ad.refl r⟩
    | owd ks vs => cases e; obtain ⟨v, e1, r⟩ := g; exact ⟨v, e1, q v S H I Ad.refl r⟩
theorem ev (i : Nat) {x : Str} {pos : Pos} (hN : X.N[i]? = some x := by rfl) (hv : Vis X.env.scope x := by first | exact Or.inl rfl | exact Or.inr (Or.inl rfl) | exact Or.inr (Or.inr rfl)) (hd : (x == ("__debug__" : Str)) = false := by decide)
    (hcd : (x == ("__classdict__" : Str)) = false := by decide) : EF X (.Name x pos) (mV i) := ⟨_, pe_var hN hv hd hcd, ES.v i⟩
theorem ef_or {e : Expr} {m1 m2 : EM} (h1 : EF X e m1) (h2 : EF X e m2) : EF X e (fun E pl => (m1 E pl).or (m2 E pl)) := by
  obtain ⟨t1, p1, s1⟩ := h1
  obtain ⟨t2, p2, s2⟩ := h2
  refine ⟨fun σ H Q => t1 σ H Q ∨ t2 σ H Q, ⟨fun pins s σ H Q I h => h.elim (p1.run pins s σ H Q I) (p2.run pins s σ H Q I)⟩, fun pp S H σ E pl d pl' Q I e q => ?_⟩
  dsimp only at e
  cases z : m1 E pl with
  | some r =>
    rw [z] at e
    exact .inl (s1 pp S H σ E pl d pl' Q I (z.trans e) q)
  | none =>
    rw [z] at e
    exact .inr (s2 pp S H σ E pl d pl' Q I e q)

/-! operators by values -/
def RD2 (K : PySem.W.Frag) (r : R2) (g : D → D → Option D) : Prop := ∀ S H a b d v u (Q : VK), Sb S H → Rp K S a v → Rp K S b u → g a b = some d → (∀ w S' H', Nw S H S' H' → Rp K S' d w → Q w H') → r v u H Q
def RD1 (K : PySem.W.Frag) (r : V → Hp → VK → Prop) (g : D → Option D) : Prop := ∀ S H a d v (Q : VK), Sb S H → Rp K S a v → g a = some d → (∀ w S' H', Nw S H S' H' → Rp K S' d w → Q w H') → r v H Q
def RDN (K : PySem.W.Frag) (r : List V → Hp → VK → Prop) (g : List D → Option D) : Prop := ∀ S H a d v (Q : VK), Sb S H → RpL K S a v → g a = some d → (∀ w S' H', Nw S H S' H' → Rp K S' d w → Q w H') → r v H Q
/-- .. that give a new list -/
def RDL (K : PySem.W.Frag) (r : List V → Hp → VK → Prop) (g : List D → Option (List D)) : Prop := ∀ S H a d v (Q : VK), Sb S H → RpL K S a v → g a = some d → (∀ p vs S' H', Nw S H S' H' → H p = none → S' p = none → H' p = some (.lst vs) → RpL K S' d vs → Q (.ref p) H') → r v H Q
theorem ES.op {K : PySem.W.Frag} {r : R2} {g : D → D → Option D} {ta tb : TE} {ma mb : EM} (hr : RD2 K r g) (ha : ES K ta ma) (hb : ES K tb mb) : ES K (tOp r ta tb) (mOp g ma mb) := fun pp S H σ E pl d pl' Q I e q => by
  obtain ⟨x, p1, e1, e⟩ := seqM_some e
  obtain ⟨y, p2, e2, e⟩ := seqM_some e
  obtain ⟨e3, rfl⟩ := lftM_some e
  refine ha pp S H σ E pl x p1 _ I e1 fun v S1 H1 I1 a1 r1 => ?_
  refine hb pp S1 H1 σ E p1 y _ _ I1 e2 fun u S2 H2 I2 a2 r2 => ?_
  refine hr S2 H2 x y d v u Q I2.sub (r1.mono a2.s) r2 e3 fun w S3 H3 a3 r3 => ?_
  exact q w S3 H3 (I2.nw a3) (a1.trans (a2.trans a3.ad)) r3
theorem ES.un {K : PySem.W.Frag} {r : V → Hp → VK → Prop} {g : D → Option D} {ta : TE} {ma : EM} (hr : RD1 K r g) (ha : ES K ta ma) : ES K (tUn r ta) (mUn g ma) := fun pp S H σ E pl d pl' Q I e q => by
  obtain ⟨x, p1, e1, e⟩ := seqM_some e
  obtain ⟨e3, rfl⟩ := lftM_some e
  refine ha pp S H σ E pl x _ _ I e1 fun v S1 H1 I1 a1 r1 => ?_
  exact hr S1 H1 x d v Q I1.sub r1 e3 fun w S3 H3 a3 r3 => q w S3 H3 (I1.nw a3) (a1.trans a3.ad) r3
theorem AS.nil {K : PySem.W.Frag} : AS K tNil aNil := fun pp S H σ E pl d pl' Q I e q => by
  obtain ⟨rfl, rfl⟩ := oks_some e
  exact q [] S H I Ad.refl RpL.nil
theorem AS.cons {K : PySem.W.Frag} {ta : TE} {tr : TA} {ma : EM} {mr : AM} (ha : ES K ta ma) (hr : AS K tr mr) : AS K (tCons ta tr) (aCons ma mr) := fun pp S H σ E pl d pl' Q I e q => by
  obtain ⟨x, p1, e1, e⟩ := seqM_some e
  obtain ⟨xs, p2, e2, e⟩ := seqM_some e
  obtain ⟨rfl, rfl⟩ := oks_some e
  refine ha pp S H σ E pl x p1 _ I e1 fun v S1 H1 I1 a1 r1 => ?_
  refine hr pp S1 H1 σ E p1 xs _ _ I1 e2 fun vs S2 H2 I2 a2 r2 => ?_
  exact q (v :: vs) S2 H2 I2 (a1.trans a2) (RpL.cons (r1.mono a2.s) r2)
theorem af_nil : AF X [] aNil := ⟨_, pa_nil, AS.nil⟩
/-! no star -/
def nst : Expr → Bool
  | .Starred _ _ => false
  | _ => true
def nsts : List Expr → Bool
  | [] => true
  | e :: es => nst e && nsts es
theorem star_nst {e : Expr} {es : List Expr} {env : PySem.Env} (h : nst e = true) : starEach (e :: es) env = (false, eval e env) :: starEach es env := by
  cases e <;> first | rfl | cases h
theorem back_nst {pos : Pos} {env : PySem.Env} : ∀ {es : List Expr}, nsts es = true → (backTo pos (starEach es env)).any (·.1) = false
  | [], _ => rfl
  | e :: es, h => by
    simp only [nsts, Bool.and_eq_true] at h
    rw [star_nst h.1]
    show (false || (backTo pos (starEach es env)).any (·.1)) = false
    rw [back_nst h.2]; rfl
theorem af_cons {e : Expr} {es : List Expr} {ma : EM} {mr : AM} (ha : EF X e ma) (hr : AF X es mr) (hs : nst e = true := by rfl) : AF X (e :: es) (aCons ma mr) := by
  obtain ⟨t1, p1, s1⟩ := ha
  obtain ⟨t2, p2, s2⟩ := hr
  exact ⟨_, pa_cons p1 p2 (star_nst hs), AS.cons s1 s2⟩
def OpD (X : Cx) (f : Value → Value → Sem Value) (g : D → D → Option D) : Prop := ∃ r, OpR X f r ∧ RD2 X.K r g
def UnD (X : Cx) (f : Value → Sem Value) (g : D → Option D) : Prop := ∃ r, UnR X f r ∧ RD1 X.K r g
def CallD (X : Cx) (f : Value) (g : List D → Option D) : Prop := ∃ r, CallR X f r ∧ RDN X.K r g
theorem OpD.or {f : Value → Value → Sem Value} {g1 g2 : D → D → Option D} (h1 : OpD X f g1) (h2 : OpD X f g2) : OpD X f (fun a b => (g1 a b).or (g2 a b)) := by
  obtain ⟨r1, p1, s1⟩ := h1
  obtain ⟨r2, p2, s2⟩ := h2
  refine ⟨_, p1.or p2, fun S H a b d v u Q hs ra rb e q => ?_⟩
  dsimp only at e
  cases z : g1 a b with
  | some x => rw [z] at e; exact .inl (s1 S H a b d v u Q hs ra rb (z.trans e) q)
  | none => rw [z] at e; exact .inr (s2 S H a b d v u Q hs ra rb e q)
theorem OpD.imp {f : Value → Value → Sem Value} {g1 g2 : D → D → Option D} (h1 : OpD X f g1) (h : ∀ a b d, g2 a b = some d → g1 a b = some d) : OpD X f g2 := by
  obtain ⟨r1, p1, s1⟩ := h1
  exact ⟨r1, p1, fun S H a b d v u Q hs ra rb e q => s1 S H a b d v u Q hs ra rb (h a b d e) q⟩
theorem CallD.or {f : Value} {g1 g2 : List D → Option D} (h1 : CallD X f g1) (h2 : CallD X f g2) : CallD X f (fun a => (g1 a).or (g2 a)) := by
  obtain ⟨r1, p1, s1⟩ := h1
  obtain ⟨r2, p2, s2⟩ := h2
  refine ⟨_, p1.or p2, fun S H a d v Q hs ra e q => ?_⟩
  dsimp only at e
  cases z : g1 a with
  | some x => rw [z] at e; exact .inl (s1 S H a d v Q hs ra (z.trans e) q)
  | none => rw [z] at e; exact .inr (s2 S H a d v Q hs ra e q)
theorem CallD.imp {f : Value} {g1 g2 : List D → Option D} (h1 : CallD X f g1) (h : ∀ a d, g2 a = some d → g1 a = some d) : CallD X f g2 := by
  obtain ⟨r1, p1, s1⟩ := h1
  exact ⟨r1, p1, fun S H a d v Q hs ra e q => s1 S H a d v Q hs ra (h a d e) q⟩
theorem ef_op {op : Operator} {g : D → D → Option D} {a b : Expr} {ma mb : EM} {pos : Pos} (ho : OpD X (binaryOp op) g) (ha : EF X a ma) (hb : EF X b mb) : EF X (.BinOp a op b pos) (mOp g ma mb) := by
  obtain ⟨r, p, s⟩ := ho
  obtain ⟨t1, p1, s1⟩ := ha
  obtain ⟨t2, p2, s2⟩ := hb
  exact ⟨_, pe_op p p1 p2, ES.op s s1 s2⟩
theorem ef_un {op : UnaryOp} {g : D → Option D} {a : Expr} {ma : EM} {pos : Pos} (ho : UnD X (unaryOp op) g) (ha : EF X a ma) : EF X (.UnaryOp op a pos) (mUn g ma) := by
  obtain ⟨r, p, s⟩ := ho
  obtain ⟨t1, p1, s1⟩ := ha
  exact ⟨_, pe_un p p1, ES.un s s1⟩
theorem ef_cmp {op : CmpOp} {g : D → D → Option D} {a b : Expr} {ma mb : EM} {pos : Pos} (ho : OpD X (compareOp op) g) (ha : EF X a ma) (hb : EF X b mb) (hm : behindInMarks op b = false := by first | exact nomark _ | rfl) : EF X (.Compare a [op] [b] pos) (mOp g ma mb) := by
  obtain ⟨r, p, s⟩ := ho
  obtain ⟨t1, p1, s1⟩ := ha
  obtain ⟨t2, p2, s2⟩ := hb
  exact ⟨_, pe_cmpR p p1 p2 hm, ES.op s s1 s2⟩

/-! what operators give -/
def sized (n : Nat) : Bool := decide (n ≤ 1000000)
theorem sized_le {n : Nat} (h : sized n = true) : n ≤ sizeLine := Nat.le_trans (of_decide_eq_true h) (by decide)
theorem sized_lt {n : Nat} (h : sized n = true) : n < sizeLine := Nat.lt_of_le_of_lt (of_decide_eq_true h) (by decide)
def dAddI : D → D → Option D | .int a, .int b => some (.int (a + b)) | _, _ => none
def dSub : D → D → Option D | .int a, .int b => some (.int (a - b)) | _, _ => none
/-- below 2 ^ 400000 -/
def wideB (i : Int) : Bool := decide (i.natAbs.log2 < 490000)
def dMulI : D → D → Option D
  | .int a, .int b => if (wideB a && wideB b) || decide (a.natAbs < 2 ^ 63) || decide (b.natAbs < 2 ^ 63) then some (.int (a * b)) else none
  | _, _ => none
def dFdiv : D → D → Option D
  | .int a, .int b => if decide (0 < b) && decide (b.natAbs.log2 < 9000) then some (.int (a / b)) else none
  | _, _ => none
def dMod : D → D → Option D | .int a, .int b => if 0 < b then some (.int (a % b)) else none | _, _ => none
def dPow : D → D → Option D | .int a, .int b => if decide (0 ≤ b) && decide (b.natAbs ≤ 100000) && decide (a.natAbs < 2 ^ 63) then some (.int (a ^ b.toNat)) else none | _, _ => none
def dNeg : D → Option D | .int a => some (.int (-a)) | _ => none
theorem rp_int {K : PySem.W.Frag} {S : Hp} {i : Int} {v : V} : Rp K S (.int i) v ↔ v = .int i := by simp only [Rp]
theorem rp_bl {K : PySem.W.Frag} {S : Hp} {i : Bool} {v : V} : Rp K S (.bl i) v ↔ v = .bl i := by simp only [Rp]
theorem rp_str {K : PySem.W.Frag} {S : Hp} {i : Str} {v : V} : Rp K S (.str i) v ↔ v = .str i := by simp only [Rp]
theorem rp_non {K : PySem.W.Frag} {S : Hp} {v : V} : Rp K S .non v ↔ v = .non := by simp only [Rp]
theorem rp_tup {K : PySem.W.Frag} {S : Hp} {ds : List D} {v : V} : Rp K S (.tup ds) v ↔ ∃ a vs, v = .ref a ∧ SqT K S a vs ∧ RpL K S ds vs := by simp only [Rp]
theorem rp_lst {K : PySem.W.Frag} {S : Hp} {ds : List D} {v : V} : Rp K S (.lst ds) v ↔ ∃ a vs, v = .ref a ∧ S a = some (.lst vs) ∧ RpL K S ds vs := by simp only [Rp]
theorem rp_scr {K : PySem.W.Frag} {S : Hp} {ns : List Int} {v : V} : Rp K S (.scr ns) v ↔ ∃ a, v = .ref a ∧ SqL K S a (ns.map V.int) := by simp only [Rp]
theorem rd_int {K : PySem.W.Frag} {f : Int → Int → D} {fv : Int → Int → V} {C : Int → Int → Prop} (g : D → D → Option D)
    (hg : ∀ a b d, g a b = some d → ∃ i j, a = .int i ∧ b = .int j ∧ C i j ∧ d = f i j) (hf : ∀ S i j, Rp K S (f i j) (fv i j)) : RD2 K (rI C fv) g := fun S H a b d v u Q hs ra rb e q => by
  obtain ⟨i, j, rfl, rfl, hc, rfl⟩ := hg a b d e
  rw [rp_int] at ra rb
  exact ⟨i, j, ra, rb, hc, q _ S H (Nw.refl hs) (hf S i j)⟩
theorem rd_int0 {K : PySem.W.Frag} {f : Int → Int → D} {fv : Int → Int → V} (g : D → D → Option D)
    (hg : ∀ a b d, g a b = some d → ∃ i j, a = .int i ∧ b = .int j ∧ d = f i j) (hf : ∀ S i j, Rp K S (f i j) (fv i j)) : RD2 K (rI0 fv) g := fun S H a b d v u Q hs ra rb e q => by
  obtain ⟨i, j, rfl, rfl, rfl⟩ := hg a b d e
  rw [rp_int] at ra rb
  exact ⟨i, j, ra, rb, q _ S H (Nw.refl hs) (hf S i j)⟩
theorem od_addI : OpD X (binaryOp .Add) dAddI := ⟨_, op_add, rd_int0 (f := fun i j => .int (i + j)) dAddI (fun a b d e => by
  unfold dAddI at e; split at e <;> cases e; exact ⟨_, _, rfl, rfl, rfl⟩) fun _ _ _ => rp_int.mpr rfl⟩
theorem od_sub : OpD X (binaryOp .Sub) dSub := ⟨_, op_sub, rd_int0 (f := fun i j => .int (i - j)) dSub (fun a b d e => by
  unfold dSub at e; split at e <;> cases e; exact ⟨_, _, rfl, rfl, rfl⟩) fun _ _ _ => rp_int.mpr rfl⟩
theorem od_mod : OpD X (binaryOp .Mod) dMod := ⟨_, op_mod, rd_int (f := fun i j => .int (i % j)) dMod (fun a b d e => by
  unfold dMod at e; split at e <;> try cases e
  split at e <;> cases e
  exact ⟨_, _, rfl, rfl, by assumption, rfl⟩) fun _ _ _ => rp_int.mpr rfl⟩
theorem od_fdiv : OpD X (binaryOp .FloorDiv) dFdiv := ⟨_, op_fdivW, rd_int (f := fun i j => .int (i / j)) dFdiv (fun a b d e => by
  unfold dFdiv at e; split at e <;> try cases e
  split at e <;> cases e
  rename_i h
  simp only [Bool.and_eq_true, decide_eq_true_eq] at h
  exact ⟨_, _, rfl, rfl, h, rfl⟩) fun _ _ _ => rp_int.mpr rfl⟩
theorem od_pow : OpD X (binaryOp .Pow) dPow := ⟨_, op_pow, rd_int (f := fun i j => .int (i ^ j.toNat)) dPow (fun a b d e => by
  unfold dPow at e; split at e <;> try cases e
  split at e <;> cases e
  rename_i h
  simp only [Bool.and_eq_true, decide_eq_true_eq] at h
  exact ⟨_, _, rfl, rfl, ⟨h.1.1, by omega, by omega⟩, rfl⟩) fun _ _ _ => rp_int.mpr rfl⟩
def dMul1 : D → D → Option D
  | .int a, .int b => if decide (a.natAbs < 2 ^ 63) || decide (b.natAbs < 2 ^ 63) then some (.int (a * b)) else none
  | _, _ => none
def dMul2 : D → D → Option D
  | .int a, .int b => if (wideB a && wideB b) then some (.int (a * b)) else none
  | _, _ => none
theorem od_mul1 : OpD X (binaryOp .Mult) dMul1 := ⟨_, op_mul, rd_int (f := fun i j => .int (i * j)) dMul1 (fun a b d e => by
  unfold dMul1 at e
  split at e <;> try cases e
  split at e <;> cases e
  rename_i h
  simp only [Bool.or_eq_true, decide_eq_true_eq] at h
  refine ⟨_, _, rfl, rfl, ?_, rfl⟩
  rcases h with h | h
  · exact .inl ⟨by omega, by omega⟩
  · exact .inr ⟨by omega, by omega⟩) fun _ _ _ => rp_int.mpr rfl⟩
theorem od_mul2 : OpD X (binaryOp .Mult) dMul2 := ⟨_, op_mulW, rd_int (f := fun i j => .int (i * j)) dMul2 (fun a b d e => by
  unfold dMul2 at e
  split at e <;> try cases e
  split at e <;> cases e
  rename_i h
  unfold wideB at h
  simp only [Bool.and_eq_true, decide_eq_true_eq] at h
  exact ⟨_, _, rfl, rfl, (show _ + _ < 1000000 by omega), rfl⟩) fun _ _ _ => rp_int.mpr rfl⟩
theorem od_mulI : OpD X (binaryOp .Mult) dMulI := (od_mul1.or od_mul2).imp fun a b d e => by
  unfold dMulI at e
  split at e <;> try cases e
  split at e <;> cases e
  rename_i a b h
  dsimp only [dMul1, dMul2]
  by_cases h1 : (decide (a.natAbs < 2 ^ 63) || decide (b.natAbs < 2 ^ 63)) = true
  · rw [if_pos h1]; rfl
  · rw [if_neg h1, if_pos]
    · rfl
    · rw [Bool.or_assoc, Bool.or_eq_true] at h
      exact h.resolve_right h1
theorem ud_neg : UnD X (unaryOp .USub) dNeg := ⟨_, un_neg, fun S H a d v Q hs ra e q => by
  unfold dNeg at e; split at e <;> cases e
  rw [rp_int] at ra
  exact ⟨_, ra, q _ S H (Nw.refl hs) (rp_int.mpr rfl)⟩⟩
def dLtI : D → D → Option D | .int a, .int b => some (.bl (decide (a < b))) | _, _ => none
def dLeI : D → D → Option D | .int a, .int b => some (.bl (decide (a ≤ b))) | _, _ => none
def dGtI : D → D → Option D | .int a, .int b => some (.bl (decide (b < a))) | _, _ => none
def dGeI : D → D → Option D | .int a, .int b => some (.bl (decide (b ≤ a))) | _, _ => none
theorem od_lt : OpD X (compareOp .Lt) dLtI := ⟨_, op_lt, rd_int0 (f := fun i j => .bl (decide (i < j))) dLtI (fun a b d e => by
  unfold dLtI at e; split at e <;> cases e; exact ⟨_, _, rfl, rfl, rfl⟩) fun _ _ _ => rp_bl.mpr rfl⟩
theorem od_le : OpD X (compareOp .LtE) dLeI := ⟨_, op_le, rd_int0 (f := fun i j => .bl (decide (i ≤ j))) dLeI (fun a b d e => by
  unfold dLeI at e; split at e <;> cases e; exact ⟨_, _, rfl, rfl, rfl⟩) fun _ _ _ => rp_bl.mpr rfl⟩
theorem od_gt : OpD X (compareOp .Gt) dGtI := ⟨_, op_gt, rd_int0 (f := fun i j => .bl (decide (j < i))) dGtI (fun a b d e => by
  unfold dGtI at e; split at e <;> cases e; exact ⟨_, _, rfl, rfl, rfl⟩) fun _ _ _ => rp_bl.mpr rfl⟩
theorem od_ge : OpD X (compareOp .GtE) dGeI := ⟨_, op_ge, rd_int0 (f := fun i j => .bl (decide (j ≤ i))) dGeI (fun a b d e => by
  unfold dGeI at e; split at e <;> cases e; exact ⟨_, _, rfl, rfl, rfl⟩) fun _ _ _ => rp_bl.mpr rfl⟩
def dEq : D → D → Option D := fun a b => if fl 20 a && fl 20 b then some (.bl (eqd a b)) else none
def dNe : D → D → Option D := fun a b => if fl 20 a && fl 20 b then some (.bl (!eqd a b)) else none
def dIn : D → D → Option D := fun a b => match b with
  | .lst xs => if fl 20 a && xs.all (fl 20) then some (.bl (xs.any fun z => eqd z a)) else none
  | _ => none
def dNotIn : D → D → Option D := fun a b => match b with
  | .lst xs => if fl 20 a && xs.all (fl 20) then some (.bl (!xs.any fun z => eqd z a)) else none
  | _ => none
theorem od_eq (hu : X.A.units + 64 < cLine) : OpD X (compareOp .Eq) dEq := ⟨_, op_eqD hu, fun S H a b d v u Q hs ra rb e q => by
  unfold dEq at e; split at e <;> cases e
  rename_i h
  rw [Bool.and_eq_true] at h
  refine ⟨_, _, dp_py hs 20 a v h.1 ra, dp_py hs 20 b u h.2 rb, shaped_py h.1 (by decide), shaped_py h.2 (by decide), ?_⟩
  rw [eqd_py 20 a b h.1 h.2]
  exact q _ S H (Nw.refl hs) (rp_bl.mpr rfl)⟩
theorem od_ne (hu : X.A.units + 64 < cLine) : OpD X (compareOp .NotEq) dNe := ⟨_, op_neD hu, fun S H a b d v u Q hs ra rb e q => by
  unfold dNe at e; split at e <;> cases e
  rename_i h
  rw [Bool.and_eq_true] at h
  refine ⟨_, _, dp_py hs 20 a v h.1 ra, dp_py hs 20 b u h.2 rb, shaped_py h.1 (by decide), shaped_py h.2 (by decide), ?_⟩
  rw [eqd_py 20 a b h.1 h.2]
  exact q _ S H (Nw.refl hs) (rp_bl.mpr rfl)⟩
theorem any_py {n : Nat} {a : D} (h : fl n a = true) : ∀ {xs : List D}, xs.all (fl n) = true → (toPyL xs).any (fun z => PyData.eqv z (toPy a)) = xs.any fun z => eqd z a
  | [], _ => by simp [toPyL]
  | x :: xs, g => by
    simp only [List.all_cons, Bool.and_eq_true] at g
    simp only [toPyL, List.any_cons, eqd_py n x a g.1 h, any_py h g.2]
theorem od_in (hu : X.A.units + 65 < cLine) : OpD X (compareOp .In) dIn := ⟨_, op_inD hu, fun S H a b d v u Q hs ra rb e q => by
  unfold dIn at e; split at e <;> try cases e
  split at e <;> cases e
  rename_i xs h
  rw [Bool.and_eq_true] at h
  have g2 : fl 21 (.lst xs) = true := by rw [fl_lst]; exact h.2
  have dl := dp_py hs 21 _ u g2 rb
  have sl := shaped_py g2 (by decide)
  simp only [toPy] at dl sl
  refine ⟨toPy a, toPyL xs, dp_py hs 20 a v h.1 ra, dl, shaped_py h.1 (by decide), sl, ?_⟩
  rw [any_py h.1 h.2]
  exact q _ S H (Nw.refl hs) (rp_bl.mpr rfl)⟩
theorem od_notIn (hu : X.A.units + 65 < cLine) : OpD X (compareOp .NotIn) dNotIn := ⟨_, op_notInD hu, fun S H a b d v u Q hs ra rb e q => by
  unfold dNotIn at e; split at e <;> try cases e
  split at e <;> cases e
  rename_i xs h
  rw [Bool.and_eq_true] at h
  have g2 : fl 21 (.lst xs) = true := by rw [fl_lst]; exact h.2
  have dl := dp_py hs 21 _ u g2 rb
  have sl := shaped_py g2 (by decide)
  simp only [toPy] at dl sl
  refine ⟨toPy a, toPyL xs, dp_py hs 20 a v h.1 ra, dl, shaped_py h.1 (by decide), sl, ?_⟩
  rw [any_py h.1 h.2]
  exact q _ S H (Nw.refl hs) (rp_bl.mpr rfl)⟩
/-- is None, is True, is False -/
def rIsC (c : V) (neg : Bool) : R2 := fun x y H Q => y = c ∧ Q (.bl (if neg then !decide (x = c) else decide (x = c))) H
theorem op_isC {b : Bool} : OpR X (compareOp .Is) (rIsC (.bl b) false) := by
  intro pins s σ H x y v u Q I rx ry h
  obtain ⟨rfl, q⟩ := h
  cases (show u = Value.bool b from ry)
  have key : ∀ {v : Value}, plainIs v (.bool b) = true → (v == Value.bool b) = decide (x = .bl b) → wpAny (model X.prog X.w) X.A (compareOp .Is v (.bool b)) (EP X pins σ Q) X.xe s := fun h1 h2 =>
    wpAny_is_plain h1 (fin_bl I q h2.symm)
  cases x with
  | non => cases rx; exact key rfl (by rw [decide_eq_false (by intro z; cases z)]; rfl)
  | bl c =>
    cases rx
    refine key rfl ?_
    by_cases e : c = b
    · subst e; rw [decide_eq_true rfl]; exact beq_self_eq_true _
    · rw [decide_eq_false (by intro z; cases z; exact e rfl)]; exact beq_eq_false_iff_ne.mpr (by intro z; cases z; exact e rfl)
  | int i => obtain ⟨t, rfl⟩ := rx; exact key rfl (by rw [decide_eq_false (by intro z; cases z)]; rfl)
  | str x => obtain ⟨t, rfl⟩ := rx; exact key rfl (by rw [decide_eq_false (by intro z; cases z)]; rfl)
  | byt x => obtain ⟨t, rfl⟩ := rx; exact key rfl (by rw [decide_eq_false (by intro z; cases z)]; rfl)
  | flt x => obtain ⟨t, rfl⟩ := rx; exact key rfl (by rw [decide_eq_false (by intro z; cases z)]; rfl)
  | ref a => cases rx; exact key rfl (by rw [decide_eq_false (by intro z; cases z)]; rfl)
  | ty n => cases rx; exact key rfl (by rw [decide_eq_false (by intro z; cases z)]; rfl)
theorem op_isNotC {b : Bool} : OpR X (compareOp .IsNot) (rIsC (.bl b) true) := by
  intro pins s σ H x y v u Q I rx ry h
  obtain ⟨rfl, q⟩ := h
  cases (show u = Value.bool b from ry)
  have key : ∀ {v : Value}, plainIs v (.bool b) = true → (v == Value.bool b) = decide (x = .bl b) → wpAny (model X.prog X.w) X.A (compareOp .IsNot v (.bool b)) (EP X pins σ Q) X.xe s := fun h1 h2 =>
    wpAny_isNot_plain h1 (fin_bl I q (by rw [h2]; rfl))
  cases x with
  | non => cases rx; exact key rfl (by rw [decide_eq_false (by intro z; cases z)]; rfl)
  | bl c =>
    cases rx
    refine key rfl ?_
    by_cases e : c = b
    · subst e; rw [decide_eq_true rfl]; exact beq_self_eq_true _
    · rw [decide_eq_false (by intro z; cases z; exact e rfl)]; exact beq_eq_false_iff_ne.mpr (by intro z; cases z; exact e rfl)
  | int i => obtain ⟨t, rfl⟩ := rx; exact key rfl (by rw [decide_eq_false (by intro z; cases z)]; rfl)
  | str x => obtain ⟨t, rfl⟩ := rx; exact key rfl (by rw [decide_eq_false (by intro z; cases z)]; rfl)
  | byt x => obtain ⟨t, rfl⟩ := rx; exact key rfl (by rw [decide_eq_false (by intro z; cases z)]; rfl)
  | flt x => obtain ⟨t, rfl⟩ := rx; exact key rfl (by rw [decide_eq_false (by intro z; cases z)]; rfl)
  | ref a => cases rx; exact key rfl (by rw [decide_eq_false (by intro z; cases z)]; rfl)
  | ty n => cases rx; exact key rfl (by rw [decide_eq_false (by intro z; cases z)]; rfl)
def isN : D → Bool | .non => true | _ => false
def isB (b : Bool) : D → Bool | .bl c => c == b | _ => false
theorem isN_v {K : PySem.W.Frag} {S : Hp} {d : D} {v : V} (h : Rp K S d v) : decide (v = .non) = isN d := by
  cases d <;> simp only [Rp] at h
  · subst h; rfl
  · subst h; rfl
  · subst h; rfl
  · subst h; rfl
  all_goals
    first
      | obtain ⟨a, vs, rfl, _⟩ := h; rfl
      | obtain ⟨a, rfl, _⟩ := h; rfl
theorem isB_v {K : PySem.W.Frag} {S : Hp} {b : Bool} {d : D} {v : V} (h : Rp K S d v) : decide (v = .bl b) = isB b d := by
  cases d <;> simp only [Rp] at h
  · subst h; rfl
  · subst h; rename_i c; cases b <;> cases c <;> rfl
  · subst h; rfl
  · subst h; rfl
  all_goals
    first
      | obtain ⟨a, vs, rfl, _⟩ := h; rfl
      | obtain ⟨a, rfl, _⟩ := h; rfl
def dIs : D → D → Option D := fun a b => match b with
  | .non => some (.bl (isN a))
  | .bl b => some (.bl (isB b a))
  | _ => none
def dIsNot : D → D → Option D := fun a b => match b with
  | .non => some (.bl (!isN a))
  | .bl b => some (.bl (!isB b a))
  | _ => none
theorem od_isN : OpD X (compareOp .Is) (fun a b => match b with | .non => some (.bl (isN a)) | _ => none) := ⟨_, op_isN, fun S H a b d v u Q hs ra rb e q => by
  simp only at e; split at e <;> cases e
  rw [rp_non] at rb
  exact ⟨rb, q _ S H (Nw.refl hs) (by rw [isN_v ra]; exact rp_bl.mpr rfl)⟩⟩
theorem od_isC (c : Bool) : OpD X (compareOp .Is) (fun a b => match b with | .bl b => if b = c then some (.bl (isB c a)) else none | _ => none) := ⟨_, op_isC (b := c), fun S H a b d v u Q hs ra rb e q => by
  simp only at e; split at e <;> try cases e
  split at e <;> cases e
  rename_i h
  subst h
  rw [rp_bl] at rb
  refine ⟨rb, ?_⟩
  show Q (.bl (decide (v = .bl _))) H
  exact q _ S H (Nw.refl hs) (by rw [isB_v ra]; exact rp_bl.mpr rfl)⟩
theorem od_notN : OpD X (compareOp .IsNot) (fun a b => match b with | .non => some (.bl (!isN a)) | _ => none) := ⟨_, op_notN, fun S H a b d v u Q hs ra rb e q => by
  simp only at e; split at e <;> cases e
  rw [rp_non] at rb
  exact ⟨rb, q _ S H (Nw.refl hs) (by rw [isN_v ra]; exact rp_bl.mpr rfl)⟩⟩
theorem od_isNotC (c : Bool) : OpD X (compareOp .IsNot) (fun a b => match b with | .bl b => if b = c then some (.bl (!isB c a)) else none | _ => none) := ⟨_, op_isNotC (b := c), fun S H a b d v u Q hs ra rb e q => by
  simp only at e; split at e <;> try cases e
  split at e <;> cases e
  rename_i h
  subst h
  rw [rp_bl] at rb
  refine ⟨rb, ?_⟩
  show Q (.bl (!decide (v = .bl _))) H
  exact q _ S H (Nw.refl hs) (by rw [isB_v ra]; exact rp_bl.mpr rfl)⟩
theorem od_is : OpD X (compareOp .Is) dIs := ((od_isN.or (od_isC true)).or (od_isC false)).imp fun a b d e => by
  unfold dIs at e
  split at e
  · exact e
  · rename_i c; cases c <;> exact e
  · cases e
theorem od_isNot : OpD X (compareOp .IsNot) dIsNot := ((od_notN.or (od_isNotC true)).or (od_isNotC false)).imp fun a b d e => by
  unfold dIsNot at e
  split at e
  · exact e
  · rename_i c; cases c <;> exact e
  · cases e
end
end Dn
set_option Elab.async false
set_option linter.all false
set_option maxRecDepth 100000
set_option maxHeartbeats 2000000
namespace Dn
open PySem L2

/-! ### truth, tests -/
def tru : D → Option Bool
  | .non => some false
  | .bl b => some b
  | .int i => some (i != 0)
  | .str x => if sized x.length then some ((x.length : Int) != 0) else none
  | .tup xs => some (!xs.isEmpty)
  | .lst xs => some (!xs.isEmpty)
  | .dct _ _ => none
  | .scr ns => some (!ns.isEmpty)
theorem isEmpty_len {α β : Type} {xs : List α} {ys : List β} (h : ys.length = xs.length) : (!ys.isEmpty) = !xs.isEmpty := by
  cases xs <;> cases ys <;> simp_all
theorem tru_v {K : PySem.W.Frag} {S H : Hp} (e : Sb S H) {d : D} {v : V} {b : Bool} (h : Rp K S d v) (ht : tru d = some b) : TruV K v H b := by
  cases d <;> simp only [Rp] at h <;> simp only [tru] at ht
  · cases ht; subst h; rfl
  · cases ht; subst h; rfl
  · cases ht; subst h; rfl
  · subst h
    split at ht <;> cases ht
    rename_i hz
    exact ⟨sized_le hz, rfl⟩
  · cases ht
    obtain ⟨a, vs, rfl, h1, h2⟩ := h
    exact .inr (.inl ⟨vs, sb_t e h1, (isEmpty_len h2.len).symm⟩)
  · cases ht
    obtain ⟨a, vs, rfl, h1, h2⟩ := h
    exact .inl ⟨vs, .inl (.inl (e _ _ h1)), (isEmpty_len h2.len).symm⟩
  · cases ht
  · cases ht
    obtain ⟨a, rfl, h1⟩ := h
    exact .inl ⟨_, sb_l e h1, by simp⟩
def mTru (m : EM) : BM := seqM m fun x => lftM (tru x)
def blD : D → Option Bool | .bl b => some b | _ => none
def mTst (m : EM) : BM := seqM m fun x => lftM (blD x)
def mNot (m : BM) : BM := seqM m fun b => oks (!b)
def bM {α : Type} (b : Bool) (m n : α) : α := match b with
  | true => m
  | false => n
theorem bM_t {α : Type} (m n : α) : bM true m n = m := rfl
theorem bM_f {α : Type} (m n : α) : bM false m n = n := rfl
def mAnd (m n : BM) : BM := seqM m fun b => bM b n (oks false)
def mOr (m n : BM) : BM := seqM m fun b => bM b (oks true) n
def mIte (c : BM) (a b : EM) : EM := seqM c fun t => bM t a b
def mAndV (a b : EM) : EM := seqM a fun x => seqM (lftM (tru x)) fun t => bM t b (oks x)
def mOrV (a b : EM) : EM := seqM a fun x => seqM (lftM (tru x)) fun t => bM t (oks x) b
def mNotV (a : EM) : EM := seqM a fun x => seqM (lftM (tru x)) fun t => oks (.bl (!t))
section
variable {X : Cx}
/-- a test of plain truth -/
def itp : Expr → Bool
  | .UnaryOp .Not _ _ => false
  | .BoolOp _ _ _ => false
  | .IfExp _ _ _ _ => false
  | .Compare _ _ _ _ => false
  | _ => true
theorem itp_ok {a : Expr} {env : PySem.Env} (h : itp a = true) : ∀ whole, isTrue a env whole = (do let v ← whole; standAt a.pos; holding [v] (truthy v)) := by
  intro whole
  cases a <;> first | rfl | cases h | skip
  rename_i op x p
  cases op <;> first | rfl | cases h
theorem bf_tru {a : Expr} {m : EM} (ha : EF X a m) (he : itp a = true := by rfl) : BF X a (mTru m) := by
  obtain ⟨t, p, s⟩ := ha
  refine ⟨_, pt_truth p (itp_ok he), fun pp S H σ E pl d pl' Q I e q => ?_⟩
  obtain ⟨x, p1, e1, e⟩ := seqM_some e
  obtain ⟨e2, rfl⟩ := lftM_some e
  exact s pp S H σ E pl x _ _ I e1 fun v S1 H1 I1 a1 r1 => ⟨d, tru_v I1.sub r1 e2, q S1 H1 I1 a1⟩
theorem bf_cmp {op : CmpOp} {g : D → D → Option D} {a b : Expr} {ma mb : EM} {pos : Pos} (ho : OpD X (compareOp op) g) (ha : EF X a ma) (hb : EF X b mb) (hm : behindInMarks op b = false := by first | exact nomark _ | rfl) : BF X (.Compare a [op] [b] pos) (mTst (mOp g ma mb)) := by
  obtain ⟨r, p, s⟩ := ho
  obtain ⟨t1, p1, s1⟩ := ha
  obtain ⟨t2, p2, s2⟩ := hb
  refine ⟨_, pt_cmpR p p1 p2 hm, fun pp S H σ E pl d pl' Q I e q => ?_⟩
  obtain ⟨x, q1, e1, e⟩ := seqM_some e
  obtain ⟨e2, rfl⟩ := lftM_some e
  refine ES.op s s1 s2 pp S H σ E pl x _ _ I e1 fun v S1 H1 I1 a1 r1 => ?_
  unfold blD at e2
  split at e2 <;> cases e2
  rw [rp_bl] at r1
  exact ⟨_, r1, q S1 H1 I1 a1⟩
theorem bf_not {a : Expr} {m : BM} {pos : Pos} (ha : BF X a m) : BF X (.UnaryOp .Not a pos) (mNot m) := by
  obtain ⟨t, p, s⟩ := ha
  refine ⟨_, pt_not p, fun pp S H σ E pl d pl' Q I e q => ?_⟩
  obtain ⟨x, p1, e1, e⟩ := seqM_some e
  obtain ⟨rfl, rfl⟩ := oks_some e
  exact s pp S H σ E pl x _ _ I e1 fun S1 H1 I1 a1 => q S1 H1 I1 a1
theorem WF.bf {e : Expr} {m : BM} (h : WF X e m) : BF X e m := let ⟨t, p, s⟩ := h; ⟨t, p.pt, s⟩
theorem wf_and1 {a : Expr} {m : BM} {pos : Pos} (ha : BF X a m) : WF X (.BoolOp .And [a] pos) m := let ⟨t, p, s⟩ := ha; ⟨t, pw_and1 p, s⟩
theorem wf_or1 {a : Expr} {m : BM} {pos : Pos} (ha : BF X a m) : WF X (.BoolOp .Or [a] pos) m := let ⟨t, p, s⟩ := ha; ⟨t, pw_or1 p, s⟩
theorem wf_and {a b : Expr} {rest : List Expr} {m n : BM} {pos : Pos} (ha : BF X a m) (hb : WF X (.BoolOp .And (b :: rest) pos) n) : WF X (.BoolOp .And (a :: b :: rest) pos) (mAnd m n) := by
  obtain ⟨t, p, s⟩ := ha
  obtain ⟨u, p', s'⟩ := hb
  refine ⟨_, pw_and p p', fun pp S H σ E pl d pl' Q I e q => ?_⟩
  obtain ⟨x, p1, e1, e⟩ := seqM_some e
  refine s pp S H σ E pl x _ _ I e1 fun S1 H1 I1 a1 => ?_
  cases x with
  | true =>
    show u σ H1 Q
    exact s' pp S1 H1 σ E p1 d pl' Q I1 e fun S2 H2 I2 a2 => q S2 H2 I2 (a1.trans a2)
  | false =>
    rw [bM_f] at e
    obtain ⟨rfl, rfl⟩ := oks_some e
    exact q S1 H1 I1 a1
theorem wf_or {a b : Expr} {rest : List Expr} {m n : BM} {pos : Pos} (ha : BF X a m) (hb : WF X (.BoolOp .Or (b :: rest) pos) n) : WF X (.BoolOp .Or (a :: b :: rest) pos) (mOr m n) := by
  obtain ⟨t, p, s⟩ := ha
  obtain ⟨u, p', s'⟩ := hb
  refine ⟨_, pw_or p p', fun pp S H σ E pl d pl' Q I e q => ?_⟩
  obtain ⟨x, p1, e1, e⟩ := seqM_some e
  refine s pp S H σ E pl x _ _ I e1 fun S1 H1 I1 a1 => ?_
  cases x with
  | false =>
    show u σ H1 Q
    exact s' pp S1 H1 σ E p1 d pl' Q I1 e fun S2 H2 I2 a2 => q S2 H2 I2 (a1.trans a2)
  | true =>
    rw [bM_t] at e
    obtain ⟨rfl, rfl⟩ := oks_some e
    exact q S1 H1 I1 a1
theorem ef_ite {c a b : Expr} {mc : BM} {ma mb : EM} {pos : Pos} (hc : BF X c mc) (ha : EF X a ma) (hb : EF X b mb) : EF X (.IfExp c a b pos) (mIte mc ma mb) := by
  obtain ⟨t, p, s⟩ := hc
  obtain ⟨t1, p1, s1⟩ := ha
  obtain ⟨t2, p2, s2⟩ := hb
  refine ⟨_, pe_ifExp p p1 p2, fun pp S H σ E pl d pl' Q I e q => ?_⟩
  obtain ⟨x, q1, e1, e⟩ := seqM_some e
  refine s pp S H σ E pl x _ _ I e1 fun S1 H1 I1 a1 => ?_
  cases x with
  | true =>
    show t1 σ H1 Q
    exact s1 pp S1 H1 σ E q1 d pl' Q I1 e fun v S2 H2 I2 a2 => q v S2 H2 I2 (a1.trans a2)
  | false =>
    show t2 σ H1 Q
    exact s2 pp S1 H1 σ E q1 d pl' Q I1 e fun v S2 H2 I2 a2 => q v S2 H2 I2 (a1.trans a2)
theorem ef_one {op} {a : Expr} {m : EM} {pos : Pos} (h : EF X a m) : EF X (.BoolOp op [a] pos) m := let ⟨t, p, s⟩ := h; ⟨t, pe_one p, s⟩
theorem ef_and {a b : Expr} {rest : List Expr} {ma mb : EM} {pos : Pos} (ha : EF X a ma) (hb : EF X (.BoolOp .And (b :: rest) pos) mb) : EF X (.BoolOp .And (a :: b :: rest) pos) (mAndV ma mb) := by
  obtain ⟨t1, p1, s1⟩ := ha
  obtain ⟨t2, p2, s2⟩ := hb
  refine ⟨_, pe_andT p1 p2, fun pp S H σ E pl d pl' Q I e q => ?_⟩
  obtain ⟨x, q1, e1, f1⟩ := seqM_some e
  obtain ⟨t, q2, g2, f2⟩ := seqM_some f1
  obtain ⟨e2, rfl⟩ := lftM_some g2
  refine s1 pp S H σ E pl x _ _ I e1 fun v S1 H1 I1 a1 r1 => ⟨t, tru_v I1.sub r1 e2, ?_⟩
  cases t with
  | true =>
    show t2 σ H1 Q
    exact s2 pp S1 H1 σ E _ d pl' Q I1 f2 fun v S2 H2 I2 a2 => q v S2 H2 I2 (a1.trans a2)
  | false =>
    rw [bM_f] at f2
    obtain ⟨rfl, rfl⟩ := oks_some f2
    exact q v S1 H1 I1 a1 r1
theorem ef_orr {a b : Expr} {rest : List Expr} {ma mb : EM} {pos : Pos} (ha : EF X a ma) (hb : EF X (.BoolOp .Or (b :: rest) pos) mb) : EF X (.BoolOp .Or (a :: b :: rest) pos) (mOrV ma mb) := by
  obtain ⟨t1, p1, s1⟩ := ha
  obtain ⟨t2, p2, s2⟩ := hb
  refine ⟨_, pe_orT p1 p2, fun pp S H σ E pl d pl' Q I e q => ?_⟩
  obtain ⟨x, q1, e1, f1⟩ := seqM_some e
  obtain ⟨t, q2, g2, f2⟩ := seqM_some f1
  obtain ⟨e2, rfl⟩ := lftM_some g2
  refine s1 pp S H σ E pl x _ _ I e1 fun v S1 H1 I1 a1 r1 => ⟨t, tru_v I1.sub r1 e2, ?_⟩
  cases t with
  | false =>
    show t2 σ H1 Q
    exact s2 pp S1 H1 σ E _ d pl' Q I1 f2 fun v S2 H2 I2 a2 => q v S2 H2 I2 (a1.trans a2)
  | true =>
    rw [bM_t] at f2
    obtain ⟨rfl, rfl⟩ := oks_some f2
    exact q v S1 H1 I1 a1 r1
theorem ef_notV {a : Expr} {m : EM} {pos : Pos} (ha : EF X a m) : EF X (.UnaryOp .Not a pos) (mNotV m) := by
  obtain ⟨t1, p1, s1⟩ := ha
  refine ⟨_, pe_notT p1, fun pp S H σ E pl d pl' Q I e q => ?_⟩
  obtain ⟨x, q1, e1, f1⟩ := seqM_some e
  obtain ⟨t, q2, g2, f2⟩ := seqM_some f1
  obtain ⟨e2, rfl⟩ := lftM_some g2
  obtain ⟨rfl, rfl⟩ := oks_some f2
  exact s1 pp S H σ E pl x _ _ I e1 fun v S1 H1 I1 a1 r1 => ⟨t, tru_v I1.sub r1 e2, q _ S1 H1 I1 a1 (rp_bl.mpr rfl)⟩
/-- a chain a < b < c -/
def mChain (g g' : D → D → Option D) (ma mb mc : EM) : EM := seqM ma fun x => seqM mb fun y => seqM (lftM ((g x y).bind blD)) fun t => bM t (seqM mc fun z => lftM (g' y z)) (oks (.bl false))
theorem ES.chain {K : PySem.W.Frag} {r r' : R2} {g g' : D → D → Option D} {ta tb tc : TE} {ma mb mc : EM} (hr : RD2 K r g) (hr' : RD2 K r' g') (ha : ES K ta ma) (hb : ES K tb mb) (hc : ES K tc mc) : ES K (tChain r r' ta tb tc) (mChain g g' ma mb mc) := fun pp S H σ E pl d pl' Q I e q => by
  obtain ⟨x, p1, e1, e⟩ := seqM_some e
  obtain ⟨y, p2, e2, e⟩ := seqM_some e
  obtain ⟨t, p3, e3, e⟩ := seqM_some e
  obtain ⟨e3, rfl⟩ := lftM_some e3
  refine ha pp S H σ E pl x p1 _ I e1 fun v S1 H1 I1 a1 r1 => ?_
  refine hb pp S1 H1 σ E p1 y _ _ I1 e2 fun u S2 H2 I2 a2 r2 => ?_
  cases h : g x y with
  | none => rw [h] at e3; cases e3
  | some w =>
    rw [h] at e3
    refine hr S2 H2 x y w v u _ I2.sub (r1.mono a2.s) r2 h fun w' S3 H3 a3 r3 => ?_
    cases w <;> try cases e3
    rw [rp_bl] at r3
    refine ⟨t, r3, ?_⟩
    cases t with
    | false =>
      rw [bM_f] at e
      obtain ⟨rfl, rfl⟩ := oks_some e
      exact q _ S3 H3 (I2.nw a3) (a1.trans (a2.trans a3.ad)) (rp_bl.mpr rfl)
    | true =>
      rw [bM_t] at e
      obtain ⟨z, p4, e4, e⟩ := seqM_some e
      obtain ⟨e5, rfl⟩ := lftM_some e
      show tc σ H3 _
      refine hc pp S3 H3 σ E _ z _ _ (I2.nw a3) e4 fun u4 S4 H4 I4 a4 r4 => ?_
      refine hr' S4 H4 y z d u u4 Q I4.sub (r2.mono (a3.s.trans a4.s)) r4 e5 fun w5 S5 H5 a5 r5 => ?_
      exact q w5 S5 H5 (I4.nw a5) (a1.trans (a2.trans (a3.ad.trans (a4.trans a5.ad)))) r5
theorem ef_chain {op op' : CmpOp} {g g' : D → D → Option D} {a b c : Expr} {ma mb mc : EM} {pos : Pos} (ho : OpD X (compareOp op) g) (ho' : OpD X (compareOp op') g') (ha : EF X a ma) (hb : EF X b mb) (hc : EF X c mc)
    (hm : lastMarks [op, op'] [b, c] = false := by with_unfolding_all rfl) : EF X (.Compare a [op, op'] [b, c] pos) (mChain g g' ma mb mc) := by
  obtain ⟨r, p, s⟩ := ho
  obtain ⟨r', p', s'⟩ := ho'
  obtain ⟨t1, p1, s1⟩ := ha
  obtain ⟨t2, p2, s2⟩ := hb
  obtain ⟨t3, p3, s3⟩ := hc
  exact ⟨_, pe_chain p p' p1 p2 p3 hm, ES.chain s s' s1 s2 s3⟩
theorem bf_chain {op op' : CmpOp} {g g' : D → D → Option D} {a b c : Expr} {ma mb mc : EM} {pos : Pos} (ho : OpD X (compareOp op) g) (ho' : OpD X (compareOp op') g') (ha : EF X a ma) (hb : EF X b mb) (hc : EF X c mc)
    (hm : lastMarks [op, op'] [b, c] = false := by with_unfolding_all rfl) : BF X (.Compare a [op, op'] [b, c] pos) (mTst (mChain g g' ma mb mc)) := by
  obtain ⟨r, p, s⟩ := ho
  obtain ⟨r', p', s'⟩ := ho'
  obtain ⟨t1, p1, s1⟩ := ha
  obtain ⟨t2, p2, s2⟩ := hb
  obtain ⟨t3, p3, s3⟩ := hc
  refine ⟨_, pt_chain p p' p1 p2 p3 hm, fun pp S H σ E pl d pl' Q I e q => ?_⟩
  obtain ⟨x, q1, e1, e⟩ := seqM_some e
  obtain ⟨e2, rfl⟩ := lftM_some e
  refine ES.chain s s' s1 s2 s3 pp S H σ E pl x _ _ I e1 fun v S1 H1 I1 a1 r1 => ?_
  unfold blD at e2
  split at e2 <;> cases e2
  rw [rp_bl] at r1
  exact ⟨_, r1, q S1 H1 I1 a1⟩

/-! ### displays, subscripts -/
def mTup (m : AM) : EM := seqM m fun xs => bM (sized xs.length) (oks (.tup xs)) (lftM none)
def mLstL (m : AM) : AM := seqM m fun xs => bM (sized xs.length) (oks xs) (lftM none)
def mFrz (m : AM) : EM := seqM m fun xs => oks (.lst xs)
theorem ef_tup {es : List Expr} {k} {m : AM} {pos : Pos} (h : AF X es m) : EF X (.Tuple es k pos) (mTup m) := by
  obtain ⟨t, p, s⟩ := h
  refine ⟨_, pe_tup p, fun pp S H σ E pl d pl' Q I e q => ?_⟩
  obtain ⟨xs, q1, e1, e⟩ := seqM_some e
  refine s pp S H σ E pl xs _ _ I e1 fun vs S1 H1 I1 a1 r1 => ?_
  cases hz : sized xs.length with
  | true =>
    rw [hz, bM_t] at e
    obtain ⟨rfl, rfl⟩ := oks_some e
    refine ⟨by rw [r1.len]; exact sized_le hz, fun p hp => ?_⟩
    have nw := Nw.new (o := .tup vs) I1.sub hp
    exact q _ _ _ (I1.nw nw) (a1.trans nw.ad) (rp_tup.mpr ⟨p, vs, rfl, SqT.of upd_same, r1.mono nw.s⟩)
  | false => rw [hz, bM_f] at e; cases (lftM_some e).1
/-- what is new, and is to be stored by the one who asked -/
theorem nw_lst {K : PySem.W.Frag} {pp : PP} {S H : Hp} {σ : L2.St} {E : Env} {pl : Option Pl} (I : ER K pp S H σ E pl) {p : Addr} {vs : List V} (hp : H p = none) : Nw S H S (upd H p (.lst vs)) ∧ S p = none :=
  ⟨⟨I.sub.trans (sb_upd hp), Sb.refl _, sb_upd hp, fun _ _ h => .inl h⟩, by
    cases e : S p with
    | none => rfl
    | some o => rw [I.sub _ _ e] at hp; cases hp⟩
theorem none_ad {pp : PP} {S H S' H' : Hp} (a : Ad pp S H S' H') {p : Addr} (h : H' p = none) : H p = none := none_of_t a.t h
theorem lf_lst {es : List Expr} {m : AM} {pos : Pos} (h : AF X es m) : LF X (.List es pos) (mLstL m) := by
  obtain ⟨t, p, s⟩ := h
  refine ⟨_, pe_lst p, fun pp S H σ E pl d pl' Q I e q => ?_⟩
  obtain ⟨xs, q1, e1, e⟩ := seqM_some e
  refine s pp S H σ E pl xs _ _ I e1 fun vs S1 H1 I1 a1 r1 => ?_
  cases hz : sized xs.length with
  | true =>
    rw [hz, bM_t] at e
    obtain ⟨rfl, rfl⟩ := oks_some e
    refine ⟨by rw [r1.len]; exact sized_le hz, fun p hp => ?_⟩
    obtain ⟨nw, sp⟩ := nw_lst (vs := vs) I1 hp
    exact q p vs _ _ (I1.nw nw) (a1.trans nw.ad) (none_ad a1 hp) sp upd_same r1
  | false => rw [hz, bM_f] at e; cases (lftM_some e).1
theorem ER.frz {K : PySem.W.Frag} {pp : PP} {S H S1 H1 : Hp} {σ : L2.St} {E : Env} {pl pl1 : Option Pl} (I : ER K pp S H σ E pl) (I1 : ER K pp S1 H1 σ E pl1) (a1 : Ad pp S H S1 H1) {p : Addr} {o : HO} (hp : H p = none) (sp : S1 p = none) (hq : H1 p = some o) :
    ER K pp (upd S1 p o) H1 σ E pl1 ∧ Ad pp S H (upd S1 p o) H1 := by
  refine ⟨⟨fun a u e => ?_, I1.len, fun i sl e => (I1.env i sl e).mono (sb_upd sp), fun b sc e => ?_, fun P e => ?_, I1.npp⟩, ⟨a1.s.trans (sb_upd sp), a1.h, a1.t, fun a u e => ?_⟩⟩
  · by_cases ha : a = p
    · subst ha; rw [upd_same] at e; cases e; exact hq
    · rw [upd_ne ha] at e; exact I1.sub a u e
  · obtain ⟨⟨u, h⟩, _⟩ := I.pin b sc e
    have ne : b ≠ p := ne_of_none h hp
    refine ⟨(I1.pin b sc e).1, ?_, sb_l (sb_upd sp) (I1.pin b sc e).2.2⟩
    rw [upd_ne ne]; exact (I1.pin b sc e).2.1
  · obtain ⟨b, sc, e1, h1, h2⟩ := I1.pool P e
    exact ⟨b, sc, e1, h1, h2⟩
  · by_cases ha : a = p
    · subst ha; exact .inr hp
    · rw [upd_ne ha] at e; exact a1.n a u e
/-- a new list, left as it is from here on -/
theorem LF.ef {e : Expr} {m : AM} (h : LF X e m) : EF X e (mFrz m) := by
  obtain ⟨t, p, s⟩ := h
  refine ⟨t, p, fun pp S H σ E pl d pl' Q I e q => ?_⟩
  obtain ⟨xs, q1, e1, e⟩ := seqM_some e
  obtain ⟨rfl, rfl⟩ := oks_some e
  refine s pp S H σ E pl xs _ _ I e1 fun p vs S1 H1 I1 a1 hp sp hq r1 => ?_
  obtain ⟨I2, a2⟩ := I.frz I1 a1 hp sp hq
  exact q _ _ _ I2 a2 (rp_lst.mpr ⟨p, vs, rfl, upd_same, r1.mono (sb_upd sp)⟩)
/-- xs[i] -/
def dIx : D → D → Option D
  | .lst xs, .int i => atI xs i
  | .tup xs, .int i => atI xs i
  | .scr ns, .int i => (atI ns i).map D.int
  | _, _ => none
theorem at_rp {K : PySem.W.Frag} {S : Hp} {ds : List D} {vs : List V} {i : Int} {d : D} (r : RpL K S ds vs) (h : atI ds i = some d) : ∃ v, atI vs i = some v ∧ Rp K S d v := by
  unfold atI at h ⊢
  rw [r.len]
  cases e : ixN ds.length i with
  | none => rw [e] at h; cases h
  | some j => rw [e] at h; exact r.get h
theorem at_map {α β : Type} (f : α → β) {xs : List α} {i : Int} : atI (xs.map f) i = (atI xs i).map f := by
  unfold atI
  rw [List.length_map]
  cases ixN xs.length i with
  | none => rfl
  | some j => simp
def IxD (X : Cx) (g : D → D → Option D) : Prop := ∃ r, IxR X r ∧ RD2 X.K r g
theorem IxD.or {g1 g2 : D → D → Option D} (h1 : IxD X g1) (h2 : IxD X g2) : IxD X (fun a b => (g1 a b).or (g2 a b)) := by
  obtain ⟨r1, p1, s1⟩ := h1
  obtain ⟨r2, p2, s2⟩ := h2
  refine ⟨_, p1.or p2, fun S H a b d v u Q hs ra rb e q => ?_⟩
  dsimp only at e
  cases z : g1 a b with
  | some x => rw [z] at e; exact .inl (s1 S H a b d v u Q hs ra rb (z.trans e) q)
  | none => rw [z] at e; exact .inr (s2 S H a b d v u Q hs ra rb e q)
theorem id_ix : IxD X dIx := by
  refine ⟨_, ix_seq, fun S H a b d v u Q hs ra rb e q => ?_⟩
  unfold dIx at e
  split at e <;> try cases e
  · rw [rp_lst] at ra; rw [rp_int] at rb
    obtain ⟨p, vs, rfl, h1, h2⟩ := ra
    obtain ⟨w, h3, h4⟩ := at_rp h2 e
    exact .inl ⟨p, vs, _, w, rfl, rb, .inl (.inl (hs _ _ h1)), h3, q w S H (Nw.refl hs) h4⟩
  · rw [rp_tup] at ra; rw [rp_int] at rb
    obtain ⟨p, vs, rfl, h1, h2⟩ := ra
    obtain ⟨w, h3, h4⟩ := at_rp h2 e
    exact .inr (.inl ⟨p, vs, _, w, rfl, rb, sb_t hs h1, h3, q w S H (Nw.refl hs) h4⟩)
  · rw [rp_scr] at ra; rw [rp_int] at rb
    obtain ⟨p, rfl, h1⟩ := ra
    rename_i ns i
    cases h : atI ns i with
    | none => rw [h] at e; cases e
    | some n =>
      rw [h] at e; cases e
      exact .inl ⟨p, _, _, .int n, rfl, rb, sb_l hs h1, by rw [at_map, h]; rfl, q _ S H (Nw.refl hs) (rp_int.mpr rfl)⟩
theorem ef_ix {a b : Expr} {ma mb : EM} {pos : Pos} (ha : EF X a ma) (hb : EF X b mb) (hs : PlainIx b := by exact fun _ _ => rfl) : EF X (.Subscript a b pos) (mOp dIx ma mb) := by
  obtain ⟨r, p, s⟩ := id_ix (X := X)
  obtain ⟨t1, p1, s1⟩ := ha
  obtain ⟨t2, p2, s2⟩ := hb
  exact ⟨_, pe_ix p p1 p2 hs, ES.op s s1 s2⟩

/-! ### calls of built-ins -/
def mCall (g : List D → Option D) (m : AM) : EM := seqM m fun xs => lftM (g xs)
theorem ES.call {K : PySem.W.Frag} {r : List V → Hp → VK → Prop} {g : List D → Option D} {t : TA} {m : AM} (hr : RDN K r g) (ha : AS K t m) : ES K (tCB r t) (mCall g m) := fun pp S H σ E pl d pl' Q I e q => by
  obtain ⟨x, p1, e1, e⟩ := seqM_some e
  obtain ⟨e3, rfl⟩ := lftM_some e
  refine ha pp S H σ E pl x _ _ I e1 fun v S1 H1 I1 a1 r1 => ?_
  exact hr S1 H1 x d v Q I1.sub r1 e3 fun w S3 H3 a3 r3 => q w S3 H3 (I1.nw a3) (a1.trans a3.ad) r3
theorem ef_callB {x : Str} {id : String} {g : List D → Option D} {p pos : Pos} {e : Expr} {es : List Expr} {m : AM} (hc : CallD X (.builtin id) g) (hg : Gl X x) (hm : X.mg x = none) (hv : bootBuiltins x = some (.builtin id)) (ha : AF X (e :: es) m) (hn : x ≠ "__name__" := by decide) (hdb : (x == ("__debug__" : Str)) = false := by decide)
    (he : nst e = true := by rfl) (hpl : nsts es = true := by rfl) : EF X (.Call (.Name x p) (e :: es) [] pos) (mCall g m) := by
  obtain ⟨r, q, s⟩ := hc
  obtain ⟨t, p1, s1⟩ := ha
  exact ⟨_, pe_callB q hg hm hv p1 hn hdb (star_nst he) (back_nst hpl), ES.call s s1⟩
theorem ef_callTy {x : Str} {T : String} {g : List D → Option D} {p pos : Pos} {e : Expr} {es : List Expr} {m : AM} (hc : CallD X (.type T) g) (hg : Gl X x) (hm : X.mg x = none) (hv : bootBuiltins x = some (.type T)) (ha : AF X (e :: es) m) (hn : x ≠ "__name__" := by decide) (hdb : (x == ("__debug__" : Str)) = false := by decide)
    (he : nst e = true := by rfl) (hpl : nsts es = true := by rfl) : EF X (.Call (.Name x p) (e :: es) [] pos) (mCall g m) := by
  obtain ⟨r, q, s⟩ := hc
  obtain ⟨t, p1, s1⟩ := ha
  exact ⟨_, pe_callTy q hg hm hv p1 hn hdb (star_nst he) (back_nst hpl), ES.call s s1⟩
theorem ef_callBf {x : Str} {id : String} {g : List D → Option D} {p pos : Pos} {e : Expr} {es : List Expr} {m : AM} (hc : CallD X (.builtin id) g) (hg : Gl X x) (hm : X.mg x = some (.builtin id)) (ha : AF X (e :: es) m) (hdb : (x == ("__debug__" : Str)) = false := by decide)
    (he : nst e = true := by rfl) (hpl : nsts es = true := by rfl) : EF X (.Call (.Name x p) (e :: es) [] pos) (mCall g m) := by
  obtain ⟨r, q, s⟩ := hc
  obtain ⟨t, p1, s1⟩ := ha
  exact ⟨_, pe_callBfun q hg hm p1 hdb (star_nst he) (back_nst hpl), ES.call s s1⟩
theorem rpl_one {K : PySem.W.Frag} {S : Hp} {a : D} {vs : List V} (h : RpL K S [a] vs) : ∃ v, vs = [v] ∧ Rp K S a v := by
  obtain ⟨v, r, rfl, h1, h2⟩ := h.cons_inv
  rw [h2.nil_inv]; exact ⟨v, rfl, h1⟩
theorem rpl_two {K : PySem.W.Frag} {S : Hp} {a b : D} {vs : List V} (h : RpL K S [a, b] vs) : ∃ v u, vs = [v, u] ∧ Rp K S a v ∧ Rp K S b u := by
  obtain ⟨v, r, rfl, h1, h2⟩ := h.cons_inv
  obtain ⟨u, rfl, h3⟩ := rpl_one h2
  exact ⟨v, u, rfl, h1, h3⟩
def gGcd : List D → Option D | [.int a, .int b] => some (.int (Nat.gcd a.natAbs b.natAbs : Nat)) | _ => none
def gAbs : List D → Option D | [.int a] => some (.int (if a < 0 then -a else a)) | _ => none
def gMax : List D → Option D | [.int a, .int b] => some (.int (if b > a then b else a)) | _ => none
def gMin : List D → Option D | [.int a, .int b] => some (.int (if b < a then b else a)) | _ => none
def gInt : List D → Option D | [.int a] => some (.int a) | [.bl b] => some (.int (if b then 1 else 0)) | _ => none
def gBool : List D → Option D | [.int a] => some (.bl (a != 0)) | [.bl b] => some (.bl b) | _ => none
def gLen : List D → Option D
  | [.lst xs] => some (.int xs.length) | [.tup xs] => some (.int xs.length) | [.scr ns] => some (.int ns.length)
  | [.str x] => if sized x.length then some (.int x.length) else none
  | _ => none
theorem cd_gcd : CallD X (.builtin "math.gcd") gGcd := ⟨_, cr_gcd, fun S H a d v Q hs ra e q => by
  unfold gGcd at e; split at e <;> cases e
  obtain ⟨v, u, rfl, h1, h2⟩ := rpl_two ra
  rw [rp_int] at h1 h2; subst h1 h2
  exact ⟨_, _, rfl, q _ S H (Nw.refl hs) (rp_int.mpr rfl)⟩⟩
theorem cd_abs : CallD X (.builtin "abs") gAbs := ⟨_, call_abs, fun S H a d v Q hs ra e q => by
  unfold gAbs at e; split at e <;> cases e
  obtain ⟨v, rfl, h1⟩ := rpl_one ra
  rw [rp_int] at h1; subst h1
  exact ⟨_, rfl, q _ S H (Nw.refl hs) (rp_int.mpr rfl)⟩⟩
theorem cd_max (hc : X.calm = true) : CallD X (.builtin "max") gMax := ⟨_, call_max2 hc, fun S H a d v Q hs ra e q => by
  unfold gMax at e; split at e <;> cases e
  obtain ⟨v, u, rfl, h1, h2⟩ := rpl_two ra
  rw [rp_int] at h1 h2; subst h1 h2
  exact ⟨_, _, rfl, q _ S H (Nw.refl hs) (rp_int.mpr rfl)⟩⟩
theorem cd_min (hc : X.calm = true) : CallD X (.builtin "min") gMin := ⟨_, call_min2 hc, fun S H a d v Q hs ra e q => by
  unfold gMin at e; split at e <;> cases e
  obtain ⟨v, u, rfl, h1, h2⟩ := rpl_two ra
  rw [rp_int] at h1 h2; subst h1 h2
  exact ⟨_, _, rfl, q _ S H (Nw.refl hs) (rp_int.mpr rfl)⟩⟩
theorem cd_int : CallD X (.type "int") gInt := ⟨_, call_int1, fun S H a d v Q hs ra e q => by
  unfold gInt at e
  split at e <;> cases e
  all_goals
    obtain ⟨v, rfl, h1⟩ := rpl_one ra
    first
      | (rw [rp_int] at h1; subst h1; exact .inl ⟨_, rfl, q _ S H (Nw.refl hs) (rp_int.mpr rfl)⟩)
      | (rw [rp_bl] at h1; subst h1; exact .inr ⟨_, rfl, q _ S H (Nw.refl hs) (rp_int.mpr rfl)⟩)⟩
theorem cd_bool : CallD X (.type "bool") gBool := ⟨_, call_bool1, fun S H a d v Q hs ra e q => by
  unfold gBool at e
  split at e <;> cases e
  all_goals
    obtain ⟨v, rfl, h1⟩ := rpl_one ra
    first
      | (rw [rp_int] at h1; subst h1; exact .inl ⟨_, rfl, q _ S H (Nw.refl hs) (rp_bl.mpr rfl)⟩)
      | (rw [rp_bl] at h1; subst h1; exact .inr ⟨_, rfl, q _ S H (Nw.refl hs) (rp_bl.mpr rfl)⟩)⟩
theorem cd_len : CallD X (.builtin "len") gLen := ⟨_, call_len_seq.or call_len_str, fun S H a d v Q hs ra e q => by
  unfold gLen at e
  split at e <;> try cases e
  · obtain ⟨v, rfl, h1⟩ := rpl_one ra
    rw [rp_lst] at h1
    obtain ⟨p, vs, rfl, h1, h2⟩ := h1
    refine .inl ⟨p, vs, rfl, .inl (.inl (.inl (hs _ _ h1))), ?_⟩
    rw [h2.len]; exact q _ S H (Nw.refl hs) (rp_int.mpr rfl)
  · obtain ⟨v, rfl, h1⟩ := rpl_one ra
    rw [rp_tup] at h1
    obtain ⟨p, vs, rfl, h1, h2⟩ := h1
    refine .inl ⟨p, vs, rfl, .inr (sb_t hs h1), ?_⟩
    rw [h2.len]; exact q _ S H (Nw.refl hs) (rp_int.mpr rfl)
  · obtain ⟨v, rfl, h1⟩ := rpl_one ra
    rw [rp_scr] at h1
    obtain ⟨p, rfl, h1⟩ := h1
    refine .inl ⟨p, _, rfl, .inl (sb_l hs h1), ?_⟩
    rw [List.length_map]; exact q _ S H (Nw.refl hs) (rp_int.mpr rfl)
  · split at e <;> cases e
    rename_i hz
    obtain ⟨v, rfl, h1⟩ := rpl_one ra
    rw [rp_str] at h1; subst h1
    exact .inr ⟨_, rfl, sized_le hz, q _ S H (Nw.refl hs) (rp_int.mpr rfl)⟩⟩
/-- isinstance(x, T), T a built-in class -/
def tyD : D → String
  | .non => "NoneType" | .bl _ => "bool" | .int _ => "int" | .str _ => "str" | .tup _ => "tuple" | .lst _ => "list" | .dct _ _ => "dict" | .scr _ => "list"
theorem tyx {K : PySem.W.Frag} {S H : Hp} (e : Sb S H) {d : D} {v : V} (h : Rp K S d v) : TyX K H v (.type (tyD d)) := by
  cases d <;> simp only [Rp] at h <;> simp only [tyD]
  · subst h; exact .base .non
  · subst h; exact .base (.bl _)
  · subst h; exact .base (.int _)
  · subst h; exact .base (.str _)
  · obtain ⟨a, vs, rfl, h1, _⟩ := h
    rcases h1 with (h1 | ⟨o, h1⟩) | ⟨o, its, n, h1, h2, _⟩
    · exact .base (.tup (e _ _ h1))
    · exact .fTuple (e _ _ h1)
    · exact .kTuple h1 h2
  · obtain ⟨a, vs, rfl, h1, _⟩ := h
    exact .base (.lst (e _ _ h1))
  · obtain ⟨a, rfl, h⟩ := h
    rcases h with ⟨kvs, h1, _⟩ | ⟨kvs, h1, _⟩
    · exact .base (.dK (e _ _ h1))
    · exact .base (.dT (e _ _ h1))
  · obtain ⟨a, rfl, h1⟩ := h
    rcases h1 with (h1 | ⟨o, h1⟩) | ⟨o, its, n, h1, h2, _⟩
    · exact .base (.lst (e _ _ h1))
    · exact .base (.frz (e _ _ h1))
    · exact .kList h1 h2
def isTyS (a T : String) : Bool := (a == T) || ((a == "bool") && (T == "int"))
def isTy (T : String) (d : D) : Bool := isTyS (tyD d) T
def mIsi (T : String) (m : EM) : EM := seqM m fun x => oks (.bl (isTy T x))
theorem kit_tyD {T : String} (hT : T = "int" ∨ T = "bool" ∨ T = "str" ∨ T = "list" ∨ T = "tuple" ∨ T = "dict") (d : D) : kitB (tyD d) T = some (isTy T d) := by
  unfold isTy
  have h : tyD d = "NoneType" ∨ tyD d = "bool" ∨ tyD d = "int" ∨ tyD d = "str" ∨ tyD d = "tuple" ∨ tyD d = "list" ∨ tyD d = "dict" := by
    cases d <;> simp [tyD]
  generalize tyD d = a at h ⊢
  rcases hT with rfl | rfl | rfl | rfl | rfl | rfl <;> rcases h with rfl | rfl | rfl | rfl | rfl | rfl | rfl <;> decide +kernel
theorem ef_isi {e : Expr} {x : Str} {p p2 pos : Pos} {m : EM} (T : String) (hT : T = "int" ∨ T = "bool" ∨ T = "str" ∨ T = "list" ∨ T = "tuple" ∨ T = "dict") (ha : EF X e m) (hg : Gl X "isinstance") (hm : X.mg "isinstance" = none) (hg2 : Gl X x) (hm2 : X.mg x = none) (hv : bootBuiltins x = some (.type T)) (hn : x ≠ "__name__" := by decide) (hdb : (x == ("__debug__" : Str)) = false := by decide)
    (he : nst e = true := by rfl) : EF X (.Call (.Name "isinstance" p) [e, .Name x p2] [] pos) (mIsi T m) := by
  obtain ⟨t, p1, s1⟩ := ha
  refine ⟨_, pe_callB call_isi hg hm (by decide +kernel) (pa_cons p1 (pa_cons (pe_bltn (v := .ty T) hg2 hm2 hv rfl hn hdb) pa_nil (star_nst rfl)) (star_nst he)) (by decide) (by decide) (star_nst he) (back_nst rfl), fun pp S H σ E pl d pl' Q I e q => ?_⟩
  obtain ⟨y, q1, e1, e⟩ := seqM_some e
  obtain ⟨rfl, rfl⟩ := oks_some e
  refine s1 pp S H σ E pl y _ _ I e1 fun v S1 H1 I1 a1 r1 => ?_
  exact ⟨v, .ty T, .type (tyD y), .type T, _, rfl, .ty T, tyx I1.sub r1, kit_ty (kit_tyD hT y), q _ S1 H1 I1 a1 (rp_bl.mpr rfl)⟩
end
end Dn
set_option Elab.async false
set_option linter.all false
set_option maxRecDepth 100000
set_option maxHeartbeats 2000000
namespace Dn
open PySem L2

/-! ### the state ahead of a statement -/
/-- at the def's entry: what stays, the heap, the pool that it was given -/
structure Cz where
  S0 : Hp
  H0 : Hp
  pp0 : PP
/-- what an own slot's object holds -/
def OwnC (K : PySem.W.Frag) (S : Hp) : Sl → HO → Prop
  | .own xs, o => ∃ vs, o = .lst vs ∧ RpL K S xs vs
  | .owd ks ds, o => (∃ kvs, o = .dK kvs ∧ keysOf ks = some (kvs.map (·.1)) ∧ RpL K S ds (kvs.map (·.2))) ∨ (∃ kvs, o = .dT kvs ∧ tkeysOf ks = some (kvs.map (·.1)) ∧ RpL K S ds (kvs.map (·.2)))
  | _, _ => False
def isOwn : Sl → Bool
  | .own _ => true
  | .owd _ _ => true
  | _ => false
theorem OwnC.mono {K : PySem.W.Frag} {S S' : Hp} (e : Sb S S') : ∀ {sl : Sl} {o : HO}, OwnC K S sl o → OwnC K S' sl o
  | .own xs, o, ⟨vs, e1, h⟩ => ⟨vs, e1, h.mono e⟩
  | .owd ks ds, o, h => by
    rcases h with ⟨kvs, h1, h2, h3⟩ | ⟨kvs, h1, h2, h3⟩
    · exact .inl ⟨kvs, h1, h2, h3.mono e⟩
    · exact .inr ⟨kvs, h1, h2, h3.mono e⟩
/-- an own slot's object, left as it is from here on -/
def frz1 : Sl → Sl
  | .own xs => .val (.lst xs)
  | .owd ks vs => .val (.dct ks vs)
  | sl => sl
theorem OwnC.slr {K : PySem.W.Frag} {pp : PP} {S : Hp} {p : Addr} {o : HO} (hp : S p = some o) : ∀ {sl : Sl}, OwnC K S sl o → SlR K pp S sl (some (some (.ref p))) ∧ SlR K pp S (frz1 sl) (some (some (.ref p)))
  | .own xs, ⟨vs, e1, h⟩ => by
    subst e1
    have g : Rp K S (.lst xs) (.ref p) := rp_lst.mpr ⟨p, vs, rfl, hp, h⟩
    exact ⟨⟨_, rfl, g⟩, ⟨_, rfl, g⟩⟩
  | .owd ks ds, h => by
    have g : Rp K S (.dct ks ds) (.ref p) := by
      simp only [Rp]
      rcases h with ⟨kvs, h1, h2, h3⟩ | ⟨kvs, h1, h2, h3⟩
      · subst h1; exact ⟨p, rfl, .inl ⟨kvs, hp, h2, h3⟩⟩
      · subst h1; exact ⟨p, rfl, .inr ⟨kvs, hp, h2, h3⟩⟩
    exact ⟨⟨_, rfl, g⟩, ⟨_, rfl, g⟩⟩
theorem OwnC.notup {K : PySem.W.Frag} {S : Hp} : ∀ {sl : Sl} {o : HO}, OwnC K S sl o → (∀ xs, o ≠ .tup xs) ∧ ∀ ob xs, o ≠ .frz ob (.tup xs)
  | .own xs, o, ⟨vs, e1, h⟩ => by subst e1; exact ⟨(fun _ z => nomatch z), (fun _ _ z => nomatch z)⟩
  | .owd ks ds, o, h => by
    rcases h with ⟨kvs, h1, _⟩ | ⟨kvs, h1, _⟩ <;> subst h1 <;> exact ⟨(fun _ z => nomatch z), (fun _ _ z => nomatch z)⟩
def SlS (K : PySem.W.Frag) (H0 : Hp) (pp : PP) (S H : Hp) (sl : Sl) (ov : Option (Option V)) : Prop :=
  if isOwn sl = true then ∃ p o, ov = some (some (.ref p)) ∧ H p = some o ∧ OwnC K S sl o ∧ S p = none ∧ H0 p = none ∧ ∀ sc, pp ≠ some (p, sc) else SlR K pp S sl ov
structure SR (K : PySem.W.Frag) (C : Cz) (pp : PP) (S H : Hp) (σ : L2.St) (E : Env) (pl : Option Pl) : Prop where
  sub : Sb S H
  len : E.length = σ.length
  env : ∀ (i : Nat) (sl : Sl), E[i]? = some sl → SlS K C.H0 pp S H sl σ[i]?
  pin : ∀ p sc, pp = some (p, sc) → (∃ o, H p = some o) ∧ S p = none ∧ SqL K S sc.1 (sc.2.map V.int)
  new' : ∀ p sc, pp = some (p, sc) → C.pp0 = pp ∨ C.H0 p = none
  pool : ∀ P, pl = some P → ∃ p sc, pp = some (p, sc) ∧ H p = some (.lst [.ref sc.1, .int P.i, .int P.n, .int P.k]) ∧ P.scr = sc.2
  s0 : Sb C.S0 S
  keep : ∀ a o, C.H0 a = some o → (∀ sc, C.pp0 ≠ some (a, sc)) → H a = some o
  kept : ∀ a o, C.H0 a = some o → ∃ o', H a = some o'
  new : ∀ a o, S a = some o → C.S0 a = some o ∨ C.H0 a = none
  dist : ∀ (i j : Nat) (a b : Sl) (p : Addr), i ≠ j → E[i]? = some a → E[j]? = some b → isOwn a = true → isOwn b = true → σ[i]? = some (some (.ref p)) → σ[j]? = some (some (.ref p)) → False
  ppk : C.pp0 = none ∨ pp = C.pp0
  npp : pl = none → pp = none

/-! what of the own slots is seen -/
def hide1 : Sl → Sl
  | .own _ => .un
  | .owd _ _ => .un
  | sl => sl
def put (E0 : Env) : List Nat → Env → Env
  | [], E => E
  | i :: F, E => match E0[i]? with
    | some sl => put E0 F (E.set i sl)
    | none => put E0 F E
def vw (F : List Nat) (E : Env) : Env := put E F (E.map hide1)
def frz (F : List Nat) (E : Env) : Env := put (E.map frz1) F E
theorem put_len (E0 : Env) : ∀ (F : List Nat) (E : Env), (put E0 F E).length = E.length
  | [], E => rfl
  | i :: F, E => by
    unfold put
    split
    · rw [put_len E0 F, List.length_set]
    · exact put_len E0 F E
theorem put_get (E0 : Env) : ∀ (F : List Nat) (E : Env), E0.length = E.length → ∀ (i : Nat), (put E0 F E)[i]? = if i ∈ F then E0[i]? else E[i]?
  | [], E, _, i => by simp [put]
  | j :: F, E, hl, i => by
    unfold put
    cases h : E0[j]? with
    | some sl =>
      show (put E0 F (E.set j sl))[i]? = _
      rw [put_get E0 F _ (by rw [List.length_set]; exact hl)]
      by_cases hi : i ∈ F
      · rw [if_pos hi, if_pos (List.mem_cons_of_mem _ hi)]
      · rw [if_neg hi]
        by_cases hij : i = j
        · subst hij
          rw [if_pos List.mem_cons_self, h]
          have : i < E.length := by rw [← hl]; exact (List.getElem?_eq_some_iff.mp h).1
          exact List.getElem?_set_self this
        · rw [if_neg (by simp [hij, hi]), List.getElem?_set_ne (Ne.symm hij)]
    | none =>
      show (put E0 F E)[i]? = _
      rw [put_get E0 F _ hl]
      by_cases hi : i ∈ F
      · rw [if_pos hi, if_pos (List.mem_cons_of_mem _ hi)]
      · rw [if_neg hi]
        by_cases hij : i = j
        · subst hij
          rw [if_pos List.mem_cons_self, h]
          have : E.length ≤ i := by rw [← hl]; exact List.getElem?_eq_none_iff.mp h
          exact List.getElem?_eq_none_iff.mpr this
        · rw [if_neg (by simp [hij, hi])]
theorem vw_get (F : List Nat) (E : Env) (i : Nat) : (vw F E)[i]? = if i ∈ F then E[i]? else (E[i]?).map hide1 := by
  unfold vw
  rw [put_get _ _ _ (by rw [List.length_map])]
  by_cases h : i ∈ F
  · rw [if_pos h, if_pos h]
  · rw [if_neg h, if_neg h, List.getElem?_map]
theorem frz_get (F : List Nat) (E : Env) (i : Nat) : (frz F E)[i]? = if i ∈ F then (E[i]?).map frz1 else E[i]? := by
  unfold frz
  rw [put_get _ _ _ (by rw [List.length_map])]
  by_cases h : i ∈ F
  · rw [if_pos h, if_pos h, List.getElem?_map]
  · rw [if_neg h, if_neg h]
theorem vw_len (F : List Nat) (E : Env) : (vw F E).length = E.length := by unfold vw; rw [put_len, List.length_map]
theorem frz_len (F : List Nat) (E : Env) : (frz F E).length = E.length := by unfold frz; rw [put_len]
/-- a is an own slot's object, of those in F -/
def OwnA (F : List Nat) (E : Env) (σ : L2.St) (a : Addr) : Prop := ∃ (i : Nat) (sl : Sl), i ∈ F ∧ E[i]? = some sl ∧ isOwn sl = true ∧ σ[i]? = some (some (.ref a))
open Classical in
noncomputable def Splus (S H : Hp) (F : List Nat) (E : Env) (σ : L2.St) : Hp := fun a => if OwnA F E σ a then H a else S a
open Classical in
noncomputable def Sminus (S : Hp) (F : List Nat) (E : Env) (σ : L2.St) : Hp := fun a => if OwnA F E σ a then none else S a
section
variable {K : PySem.W.Frag} {C : Cz} {pp : PP} {S H S' H' : Hp} {σ : L2.St} {E : Env} {pl pl' : Option Pl} {F : List Nat}
theorem SR.own (I : SR K C pp S H σ E pl) {i : Nat} {sl : Sl} (h : E[i]? = some sl) (ho : isOwn sl = true) : ∃ p o, σ[i]? = some (some (.ref p)) ∧ H p = some o ∧ OwnC K S sl o ∧ S p = none ∧ C.H0 p = none ∧ ∀ sc, pp ≠ some (p, sc) := by
  have g := I.env i sl h
  unfold SlS at g
  rw [if_pos ho] at g
  exact g
theorem SR.slr (I : SR K C pp S H σ E pl) {i : Nat} {sl : Sl} (h : E[i]? = some sl) (ho : isOwn sl = false) : SlR K pp S sl σ[i]? := by
  have g := I.env i sl h
  unfold SlS at g
  rw [if_neg (by rw [ho]; decide)] at g
  exact g
theorem SR.ownA (I : SR K C pp S H σ E pl) {a : Addr} (h : OwnA F E σ a) : ∃ sl o, H a = some o ∧ OwnC K S sl o ∧ S a = none ∧ C.H0 a = none ∧ ∀ sc, pp ≠ some (a, sc) := by
  obtain ⟨i, sl, _, h1, h2, h3⟩ := h
  obtain ⟨p, o, e, g⟩ := I.own h1 h2
  rw [h3] at e; cases e
  exact ⟨sl, o, g⟩
theorem SR.plus (I : SR K C pp S H σ E pl) : Sb S (Splus S H F E σ) := fun a o e => by
  unfold Splus
  split
  · rename_i h
    obtain ⟨_, _, _, _, h2, _⟩ := I.ownA h
    rw [h2] at e; cases e
  · exact e
theorem SR.plusH (I : SR K C pp S H σ E pl) : Sb (Splus S H F E σ) H := fun a o e => by
  unfold Splus at e
  split at e
  · exact e
  · exact I.sub a o e
theorem hide1_own {sl : Sl} (h : isOwn sl = true) : hide1 sl = .un := by cases sl <;> first | rfl | cases h
theorem hide1_not {sl : Sl} (h : isOwn sl = false) : hide1 sl = sl := by cases sl <;> first | rfl | cases h
theorem frz1_not {sl : Sl} (h : isOwn sl = false) : frz1 sl = sl := by cases sl <;> first | rfl | cases h
theorem frz1_own (sl : Sl) : isOwn (frz1 sl) = false := by cases sl <;> rfl
/-- ahead of an expression: the own slots in F are seen, as if they stayed -/
theorem SR.er (I : SR K C pp S H σ E pl) (F : List Nat) : ER K pp (Splus S H F E σ) H σ (vw F E) pl := by
  refine ⟨I.plusH, by rw [vw_len]; exact I.len, fun i sl e => ?_, fun p sc e => ?_, fun P e => ?_, I.npp⟩
  · rw [vw_get] at e
    by_cases hi : i ∈ F
    · rw [if_pos hi] at e
      cases ho : isOwn sl with
      | false => exact (I.slr e ho).mono I.plus
      | true =>
        obtain ⟨p, o, h1, h2, h3, h4, h5, h6⟩ := I.own e ho
        rw [h1]
        have hp : (Splus S H F E σ) p = some o := by
          unfold Splus
          rw [if_pos ⟨i, sl, hi, e, ho, h1⟩]; exact h2
        exact (OwnC.slr hp (h3.mono I.plus)).1
    · rw [if_neg hi] at e
      cases h : E[i]? with
      | none => rw [h] at e; cases e
      | some s1 =>
        rw [h] at e
        cases e
        cases ho : isOwn s1 with
        | true => rw [hide1_own ho]; exact trivial
        | false => rw [hide1_not ho]; exact (I.slr h ho).mono I.plus
  · obtain ⟨h1, h2, h3⟩ := I.pin p sc e
    refine ⟨h1, ?_, sb_l I.plus h3⟩
    unfold Splus
    split
    · rename_i h
      obtain ⟨_, _, _, _, _, _, h6⟩ := I.ownA h
      exact absurd e (h6 sc)
    · exact h2
  · obtain ⟨p, sc, h1, h2, h3⟩ := I.pool P e
    exact ⟨p, sc, h1, h2, h3⟩
/-- behind it: those in F stay from here on -/
theorem SR.fin (I : SR K C pp S H σ E pl) (J : ER K pp S' H' σ (vw F E) pl') (a : Ad pp (Splus S H F E σ) H S' H') : SR K C pp S' H' σ (frz F E) pl' := by
  have sS : Sb S S' := I.plus.trans a.s
  refine ⟨J.sub, by rw [frz_len]; exact I.len, fun i sl e => ?_, fun p sc e => J.pin p sc e, I.new', J.pool, I.s0.trans sS, fun b o e n => ?_, fun b o e => ?_, fun b o e => ?_, fun i j x y p hij hx hy ox oy sx sy => ?_, I.ppk, J.npp⟩
  · rw [frz_get] at e
    unfold SlS
    by_cases hi : i ∈ F
    · rw [if_pos hi] at e
      cases h : E[i]? with
      | none => rw [h] at e; cases e
      | some s1 =>
        rw [h] at e; cases e
        rw [if_neg (by rw [frz1_own]; decide)]
        cases ho : isOwn s1 with
        | false => rw [frz1_not ho]; exact (I.slr h ho).mono sS
        | true =>
          obtain ⟨p, o, h1, h2, h3, _⟩ := I.own h ho
          rw [h1]
          have hp : (Splus S H F E σ) p = some o := by
            unfold Splus
            rw [if_pos ⟨i, s1, hi, h, ho, h1⟩]; exact h2
          exact (OwnC.slr (a.s p o hp) (h3.mono sS)).2
    · rw [if_neg hi] at e
      cases ho : isOwn sl with
      | false => rw [if_neg (by decide)]; exact (I.slr e ho).mono sS
      | true =>
        rw [if_pos rfl]
        obtain ⟨p, o, h1, h2, h3, h4, h5, h6⟩ := I.own e ho
        refine ⟨p, o, h1, a.h p o h2 h6, h3.mono sS, ?_, h5, h6⟩
        cases q : S' p with
        | none => rfl
        | some u =>
          rcases a.n p u q with z | z
          · unfold Splus at z
            split at z
            · rename_i w
              obtain ⟨j, sj, w1, w2, w3, w4⟩ := w
              exact (I.dist i j sl sj p (fun q => hi (q ▸ w1)) e w2 ho w3 h1 w4).elim
            · rw [h4] at z; cases z
          · rw [z] at h2; cases h2
  · by_cases hp : ∃ sc, pp = some (b, sc)
    · obtain ⟨sc, hp⟩ := hp
      rcases I.new' b sc hp with z | z
      · exact absurd (z.trans hp) (n sc)
      · rw [z] at e; cases e
    · exact a.h b o (I.keep b o e n) fun sc z => hp ⟨sc, z⟩
  · obtain ⟨o', e'⟩ := I.kept b o e
    exact a.t b o' e'
  · rcases a.n b o e with z | z
    · unfold Splus at z
      split at z
      · rename_i w
        obtain ⟨_, _, _, _, _, w5, _⟩ := I.ownA w
        exact .inr w5
      · exact I.new b o z
    · right
      cases q : C.H0 b with
      | none => rfl
      | some u => obtain ⟨o', e'⟩ := I.kept b u q; rw [z] at e'; cases e'
  · rw [frz_get] at hx hy
    have nx : i ∉ F := fun hi => by
      rw [if_pos hi] at hx
      cases h : E[i]? with
      | none => rw [h] at hx; cases hx
      | some s1 => rw [h] at hx; cases hx; rw [frz1_own] at ox; cases ox
    have ny : j ∉ F := fun hi => by
      rw [if_pos hi] at hy
      cases h : E[j]? with
      | none => rw [h] at hy; cases hy
      | some s1 => rw [h] at hy; cases hy; rw [frz1_own] at oy; cases oy
    rw [if_neg nx] at hx
    rw [if_neg ny] at hy
    exact I.dist i j x y p hij hx hy ox oy sx sy
/-! no list within -/
mutual
def noL : D → Bool
  | .non => true
  | .bl _ => true
  | .int _ => true
  | .str _ => true
  | .tup xs => noLL xs
  | _ => false
def noLL : List D → Bool
  | [] => true
  | d :: ds => noL d && noLL ds
end
mutual
theorem Rp.low (hS : ∀ a xs, Rd S a (.tup xs) → Rd S' a (.tup xs)) : ∀ (d : D) (v : V), noL d = true → Rp K S d v → Rp K S' d v
  | .non, v, _, h => by simpa only [Rp] using h
  | .bl _, v, _, h => by simpa only [Rp] using h
  | .int _, v, _, h => by simpa only [Rp] using h
  | .str _, v, _, h => by simpa only [Rp] using h
  | .tup xs, v, n, h => by
    simp only [noL] at n
    simp only [Rp] at h ⊢
    obtain ⟨a, vs, e, h1, h2⟩ := h
    refine ⟨a, vs, e, ?_, RpL.low hS xs vs n h2⟩
    rcases h1 with h1 | h1
    · exact .inl (hS a vs h1)
    · exact .inr h1
  | .lst _, v, n, h => by simp only [noL] at n; cases n
  | .dct _ _, v, n, h => by simp only [noL] at n; cases n
  | .scr _, v, n, h => by simp only [noL] at n; cases n
theorem RpL.low (hS : ∀ a xs, Rd S a (.tup xs) → Rd S' a (.tup xs)) : ∀ (ds : List D) (vs : List V), noLL ds = true → RpL K S ds vs → RpL K S' ds vs
  | [], vs, _, h => by rw [h.nil_inv]; exact RpL.nil
  | d :: ds, vs, n, h => by
    obtain ⟨v, r, rfl, h1, h2⟩ := h.cons_inv
    simp only [noLL, Bool.and_eq_true] at n
    exact RpL.cons (Rp.low hS d v n.1 h1) (RpL.low hS ds r n.2 h2)
end
/-- behind it, where what came out knows no list: the own slots are own again -/
def allF (E : Env) : List Nat := List.range E.length
theorem vw_all (E : Env) : vw (allF E) E = E := by
  apply List.ext_getElem?
  intro i
  rw [vw_get]
  by_cases h : i ∈ allF E
  · rw [if_pos h]
  · rw [if_neg h]
    have : E.length ≤ i := by
      unfold allF at h
      rw [List.mem_range] at h
      omega
    rw [List.getElem?_eq_none_iff.mpr this]; rfl
theorem SR.erA (I : SR K C pp S H σ E pl) : ER K pp (Splus S H (allF E) E σ) H σ E pl := by
  have h := I.er (allF E)
  rwa [vw_all] at h
theorem SR.back (I : SR K C pp S H σ E pl) (J : ER K pp S' H' σ E pl') (a : Ad pp (Splus S H (allF E) E σ) H S' H') :
    SR K C pp (Sminus S' (allF E) E σ) H' σ E pl' ∧ ∀ d v, noL d = true → Rp K S' d v → Rp K (Sminus S' (allF E) E σ) d v := by
  have own_in : ∀ {i : Nat} {sl : Sl}, E[i]? = some sl → i ∈ allF E := fun h => by
    unfold allF; rw [List.mem_range]; exact (List.getElem?_eq_some_iff.mp h).1
  have sS : Sb S (Sminus S' (allF E) E σ) := fun b o e => by
    unfold Sminus
    split
    · rename_i w
      obtain ⟨_, _, _, _, w2, _⟩ := I.ownA w
      rw [w2] at e; cases e
    · exact a.s b o (I.plus b o e)
  have sM : Sb (Sminus S' (allF E) E σ) S' := fun b o e => by
    unfold Sminus at e
    split at e
    · cases e
    · exact e
  refine ⟨⟨sM.trans J.sub, I.len, fun i sl e => ?_, fun p sc e => ?_, I.new', fun P e => ?_, I.s0.trans sS, fun b o e n => ?_, fun b o e => ?_, fun b o e => ?_, I.dist, I.ppk, J.npp⟩, fun d v n h => Rp.low (fun b xs r => ?_) d v n h⟩
  · unfold SlS
    cases ho : isOwn sl with
    | false => rw [if_neg (by decide)]; exact (I.slr e ho).mono sS
    | true =>
      rw [if_pos rfl]
      obtain ⟨p, o, h1, h2, h3, h4, h5, h6⟩ := I.own e ho
      refine ⟨p, o, h1, a.h p o h2 h6, h3.mono sS, ?_, h5, h6⟩
      unfold Sminus
      rw [if_pos ⟨i, sl, own_in e, e, ho, h1⟩]
  · obtain ⟨h1, h2, _⟩ := J.pin p sc e
    refine ⟨h1, ?_, sb_l sS (I.pin p sc e).2.2⟩
    unfold Sminus
    split
    · rfl
    · exact h2
  · obtain ⟨p, sc, h1, h2, h3⟩ := J.pool P e
    exact ⟨p, sc, h1, h2, h3⟩
  · by_cases hp : ∃ sc, pp = some (b, sc)
    · obtain ⟨sc, hp⟩ := hp
      rcases I.new' b sc hp with z | z
      · exact absurd (z.trans hp) (n sc)
      · rw [z] at e; cases e
    · exact a.h b o (I.keep b o e n) fun sc z => hp ⟨sc, z⟩
  · obtain ⟨o', e'⟩ := I.kept b o e
    exact a.t b o' e'
  · unfold Sminus at e
    split at e
    · cases e
    · rename_i w
      rcases a.n b o e with z | z
      · unfold Splus at z
        rw [if_neg w] at z
        exact I.new b o z
      · right
        cases q : C.H0 b with
        | none => rfl
        | some u => obtain ⟨o', e'⟩ := I.kept b u q; rw [z] at e'; cases e'
  · have key : ∀ u, S' b = some u → (∀ sl, OwnC K S sl u → False) → Sminus S' (allF E) E σ b = some u := fun u h g => by
      unfold Sminus
      split
      · rename_i w
        obtain ⟨sl, o, w1, w2, w3, w4, w5⟩ := I.ownA w
        have : H' b = some o := a.h b o w1 w5
        rw [J.sub b u h] at this
        cases this
        exact (g sl w2).elim
      · exact h
    rcases r with r | ⟨o, r⟩
    · exact .inl (key _ r fun sl w => (w.notup).1 _ rfl)
    · exact .inr ⟨o, key _ r fun sl w => (w.notup).2 _ _ rfl⟩
end
end Dn
set_option Elab.async false
set_option linter.all false
set_option maxRecDepth 100000
set_option maxHeartbeats 2000000
namespace Dn
open PySem L2

/-! ### statements: what they come to -/
inductive Out where
  | nx (E : Env) (pl : Option Pl)
  | rt (d : D) (E : Env) (pl : Option Pl)
  | rtl (xs : List D) (E : Env) (pl : Option Pl)
  | bk (E : Env) (pl : Option Pl)
  | ct (E : Env) (pl : Option Pl)
abbrev SM := Env → Option Pl → Option Out
def PpS (pp pp' : PP) : Prop := pp = none ∨ pp' = pp
theorem PpS.refl {pp : PP} : PpS pp pp := .inr rfl
theorem PpS.trans {a b c : PP} (h : PpS a b) (g : PpS b c) : PpS a c := by
  rcases h with h | h
  · exact .inl h
  · subst h; exact g
/-- what must hold behind -/
def PO' (K : PySem.W.Frag) (C : Cz) (pp : PP) (D' : Ends) : Out → Prop
  | .nx E pl => ∀ pp' S H σ, PpS pp pp' → SR K C pp' S H σ E pl → D'.nx σ H
  | .bk E pl => ∀ pp' S H σ, PpS pp pp' → SR K C pp' S H σ E pl → D'.bk σ H
  | .ct E pl => ∀ pp' S H σ, PpS pp pp' → SR K C pp' S H σ E pl → D'.ct σ H
  | .rt d E pl => ∀ pp' S H σ v, PpS pp pp' → SR K C pp' S H σ E pl → Rp K S d v → D'.rt v H
  | .rtl xs E pl => ∀ pp' S H σ p vs, PpS pp pp' → SR K C pp' S H σ E pl → H p = some (.lst vs) → S p = none → C.H0 p = none → (∀ sc, pp' ≠ some (p, sc)) → RpL K S xs vs → D'.rt (.ref p) H
theorem PO'.step {K : PySem.W.Frag} {C : Cz} {pp pp' : PP} {D' : Ends} {o : Out} (h : PpS pp pp') (g : PO' K C pp D' o) : PO' K C pp' D' o := by
  cases o <;> simp only [PO'] at g ⊢
  · exact fun a S H σ e => g a S H σ (h.trans e)
  · exact fun a S H σ v e => g a S H σ v (h.trans e)
  · exact fun a S H σ p vs e => g a S H σ p vs (h.trans e)
  · exact fun a S H σ e => g a S H σ (h.trans e)
  · exact fun a S H σ e => g a S H σ (h.trans e)
def SS (K : PySem.W.Frag) (t : TS) (m : SM) : Prop := ∀ C pp S H σ E pl D' out, SR K C pp S H σ E pl → m E pl = some out → PO' K C pp D' out → t D' σ H
def SF (X : Cx) (st : Stmt) (m : SM) : Prop := ∃ t, PS X st t ∧ SS X.K t m
def BkF (X : Cx) (sts : List Stmt) (m : SM) : Prop := ∃ t, PSs X sts t ∧ SS X.K t m

/-! a slot is stored -/
theorem SlS.un {K : PySem.W.Frag} {H0 : Hp} {pp : PP} {S H : Hp} {ov : Option (Option V)} : SlS K H0 pp S H .un ov := by
  unfold SlS; rw [if_neg (by decide)]; exact trivial
section
variable {K : PySem.W.Frag} {C : Cz} {pp : PP} {S H S' H' : Hp} {σ : L2.St} {E : Env} {pl pl' : Option Pl} {F : List Nat} {X : Cx}
theorem SR.slot (I : SR K C pp S H σ E pl) (i : Nat) {sl : Sl} {v : V} (h : SlS K C.H0 pp S H sl (some (some v)))
    (hd : isOwn sl = true → ∀ (j : Nat) (b : Sl), j ≠ i → E[j]? = some b → isOwn b = true → σ[j]? ≠ some (some v)) : SR K C pp S H (σ.set i (some v)) (E.set i sl) pl := by
  have get : ∀ {j : Nat} {b : Sl}, (E.set i sl)[j]? = some b → (j = i ∧ b = sl ∧ (σ.set i (some v))[j]? = some (some v)) ∨ (j ≠ i ∧ E[j]? = some b ∧ (σ.set i (some v))[j]? = σ[j]?) := fun {j b} e => by
    by_cases hj : i = j
    · subst hj
      by_cases hl : i < E.length
      · rw [List.getElem?_set_self hl] at e
        cases e
        exact .inl ⟨rfl, rfl, List.getElem?_set_self (by rw [← I.len]; exact hl)⟩
      · rw [List.getElem?_eq_none_iff.mpr (by rw [List.length_set]; omega)] at e; cases e
    · rw [List.getElem?_set_ne hj] at e
      exact .inr ⟨Ne.symm hj, e, List.getElem?_set_ne hj⟩
  refine ⟨I.sub, by rw [List.length_set, List.length_set]; exact I.len, fun j b e => ?_, I.pin, I.new', I.pool, I.s0, I.keep, I.kept, I.new, fun j k a b p hjk ha hb oa ob sa sb => ?_, I.ppk, I.npp⟩
  · rcases get e with ⟨_, e2, e3⟩ | ⟨_, e2, e3⟩
    · rw [e3]; subst e2; exact h
    · rw [e3]; exact I.env j b e2
  · rcases get ha with ⟨e1, e2, e3⟩ | ⟨e1, e2, e3⟩ <;> rcases get hb with ⟨g1, g2, g3⟩ | ⟨g1, g2, g3⟩
    · exact hjk (e1.trans g1.symm)
    · rw [e3] at sa; cases sa
      rw [g3] at sb
      subst e2
      exact hd oa k b g1 g2 ob sb
    · rw [g3] at sb; cases sb
      rw [e3] at sa
      subst g2
      exact hd ob j a e1 e2 oa sa
    · rw [e3] at sa; rw [g3] at sb
      exact I.dist j k a b p hjk e2 g2 oa ob sa sb
theorem SR.val (I : SR K C pp S H σ E pl) (i : Nat) {d : D} {v : V} (h : Rp K S d v) : SR K C pp S H (σ.set i (some v)) (E.set i (.val d)) pl :=
  I.slot i (by unfold SlS; rw [if_neg (by intro z; cases z)]; exact ⟨v, rfl, h⟩) fun z => by cases z
/-- a new own object -/
theorem SR.newOwn (I : SR K C pp S H σ E pl) (i : Nat) {sl : Sl} {p : Addr} {o : HO} (ho : isOwn sl = true) (hp : H p = some o) (oc : OwnC K S sl o) (sp : S p = none) (h0 : C.H0 p = none) (np : ∀ sc, pp ≠ some (p, sc))
    (fr : ∀ (j : Nat) (b : Sl), E[j]? = some b → isOwn b = true → σ[j]? ≠ some (some (.ref p))) : SR K C pp S H (σ.set i (some (.ref p))) (E.set i sl) pl :=
  I.slot i (by unfold SlS; rw [if_pos ho]; exact ⟨p, o, rfl, hp, oc, sp, h0, np⟩) fun _ j b _ e ob => fr j b e ob
/-- a forgotten slot -/
theorem SR.forget (I : SR K C pp S H σ E pl) (i : Nat) : SR K C pp S H σ (E.set i .un) pl := by
  have get : ∀ {j : Nat} {b : Sl}, (E.set i .un)[j]? = some b → b = .un ∨ E[j]? = some b := fun {j b} e => by
    by_cases hj : i = j
    · subst hj
      by_cases hl : i < E.length
      · rw [List.getElem?_set_self hl] at e
        cases e
        exact .inl rfl
      · rw [List.getElem?_eq_none_iff.mpr (by rw [List.length_set]; omega)] at e; cases e
    · rw [List.getElem?_set_ne hj] at e
      exact .inr e
  refine ⟨I.sub, by rw [List.length_set]; exact I.len, fun j b e => ?_, I.pin, I.new', I.pool, I.s0, I.keep, I.kept, I.new, fun j k a b p hjk ha hb oa ob sa sb => ?_, I.ppk, I.npp⟩
  · rcases get e with e2 | e2
    · subst e2; exact SlS.un
    · exact I.env j b e2
  · rcases get ha with e2 | e2
    · subst e2; cases oa
    · rcases get hb with g2 | g2
      · subst g2; cases ob
      · exact I.dist j k a b p hjk e2 g2 oa ob sa sb
/-- an own object is changed -/
theorem SR.upd (I : SR K C pp S H σ E pl) {i : Nat} {sl sl' : Sl} {p : Addr} {o' : HO} (e : E[i]? = some sl) (ho : isOwn sl = true) (hv : σ[i]? = some (some (.ref p))) (ho' : isOwn sl' = true) (oc : OwnC K S sl' o') : SR K C pp S (L2.upd H p o') σ (E.set i sl') pl := by
  obtain ⟨p', o, h1, h2, h3, h4, h5, h6⟩ := I.own e ho
  rw [hv] at h1; cases h1
  have hl : i < E.length := (List.getElem?_eq_some_iff.mp e).1
  have get : ∀ {j : Nat} {b : Sl}, (E.set i sl')[j]? = some b → (j = i ∧ b = sl') ∨ (j ≠ i ∧ E[j]? = some b) := fun {j b} e => by
    by_cases hj : i = j
    · subst hj
      rw [List.getElem?_set_self hl] at e
      cases e
      exact .inl ⟨rfl, rfl⟩
    · rw [List.getElem?_set_ne hj] at e
      exact .inr ⟨Ne.symm hj, e⟩
  refine ⟨fun a u e => ?_, by rw [List.length_set]; exact I.len, fun j b e' => ?_, fun q sc eq => ?_, I.new', fun P eP => ?_, I.s0, fun a u e' n => ?_, fun a u e' => ?_, I.new, fun j k a b q hjk ha hb oa ob sa sb => ?_, I.ppk, I.npp⟩
  · have ne : a ≠ p := fun z => by rw [z, h4] at e; cases e
    rw [upd_ne ne]; exact I.sub a u e
  · rcases get e' with ⟨e1, e2⟩ | ⟨e1, e2⟩
    · subst e1 e2
      unfold SlS
      rw [if_pos ho']
      exact ⟨p, o', hv, upd_same, oc, h4, h5, h6⟩
    · unfold SlS
      cases ob : isOwn b with
      | false => rw [if_neg (by decide)]; exact I.slr e2 ob
      | true =>
        rw [if_pos rfl]
        obtain ⟨q, u, g1, g2, g3, g4⟩ := I.own e2 ob
        have ne : q ≠ p := fun z => by subst z; exact I.dist j i b sl q e1 e2 e ob ho g1 hv
        exact ⟨q, u, g1, by rw [upd_ne ne]; exact g2, g3, g4⟩
  · obtain ⟨⟨u, g1⟩, g2⟩ := I.pin q sc eq
    have ne : q ≠ p := fun z => by subst z; exact h6 sc eq
    exact ⟨⟨u, by rw [upd_ne ne]; exact g1⟩, g2⟩
  · obtain ⟨q, sc, g1, g2, g3⟩ := I.pool P eP
    have ne : q ≠ p := fun z => by subst z; exact h6 sc g1
    exact ⟨q, sc, g1, by rw [upd_ne ne]; exact g2, g3⟩
  · have ne : a ≠ p := fun z => by rw [z, h5] at e'; cases e'
    rw [upd_ne ne]; exact I.keep a u e' n
  · have ne : a ≠ p := fun z => by rw [z, h5] at e'; cases e'
    rw [upd_ne ne]; exact I.kept a u e'
  · rcases get ha with ⟨e1, e2⟩ | ⟨e1, e2⟩ <;> rcases get hb with ⟨g1, g2⟩ | ⟨g1, g2⟩
    · exact hjk (e1.trans g1.symm)
    · subst e1; exact I.dist j k sl b q hjk e g2 ho ob sa sb
    · subst g1; exact I.dist j k a sl q hjk e2 e oa ho sa sb
    · exact I.dist j k a b q hjk e2 g2 oa ob sa sb

/-! ### blocks -/
def sNil : SM := fun E pl => some (.nx E pl)
def sSeq (a b : SM) : SM := fun E pl => match a E pl with
  | some (.nx E' p) => b E' p
  | o => o
theorem bk_nil : BkF X [] sNil := ⟨_, pss_nil, fun C pp S H σ E pl D' out I e q => by
  cases e; exact q pp S H σ PpS.refl I⟩
theorem bk_one {st : Stmt} {m : SM} (h : SF X st m) : BkF X [st] m := let ⟨t, p, s⟩ := h; ⟨t, pss_one p, s⟩
theorem bk_cons {st : Stmt} {rest : List Stmt} {m n : SM} (h : SF X st m) (g : BkF X rest n) : BkF X (st :: rest) (sSeq m n) := by
  obtain ⟨t, p, s⟩ := h
  obtain ⟨u, p', s'⟩ := g
  refine ⟨_, pss_cons p p', fun C pp S H σ E pl D' out I e q => ?_⟩
  unfold sSeq at e
  show t { D' with nx := u D' } σ H
  cases h : m E pl with
  | none => rw [h] at e; cases e
  | some o =>
    rw [h] at e
    cases o with
    | nx E1 p1 =>
      refine s C pp S H σ E pl _ _ I h ?_
      intro pp' S1 H1 σ1 hp I1
      exact s' C pp' S1 H1 σ1 E1 p1 D' out I1 e (q.step hp)
    | rt d E1 p1 => cases e; exact s C pp S H σ E pl _ _ I h q
    | rtl d E1 p1 => cases e; exact s C pp S H σ E pl _ _ I h q
    | bk E1 p1 => cases e; exact s C pp S H σ E pl _ _ I h q
    | ct E1 p1 => cases e; exact s C pp S H σ E pl _ _ I h q
def sBrk : SM := fun E pl => some (.bk E pl)
def sCnt : SM := fun E pl => some (.ct E pl)
theorem sf_pass {pos : Pos} : SF X (.Pass pos) sNil := ⟨_, ps_pass, fun C pp S H σ E pl D' out I e q => by cases e; exact q pp S H σ PpS.refl I⟩
theorem sf_brk {pos : Pos} : SF X (.Break pos) sBrk := ⟨_, ps_break, fun C pp S H σ E pl D' out I e q => by cases e; exact q pp S H σ PpS.refl I⟩
theorem sf_cnt {pos : Pos} : SF X (.Continue pos) sCnt := ⟨_, ps_continue, fun C pp S H σ E pl D' out I e q => by cases e; exact q pp S H σ PpS.refl I⟩
def sIf (c : BM) (a b : SM) : SM := fun E pl => match c E pl with
  | some (true, p) => a E p
  | some (false, p) => b E p
  | none => none
theorem sf_if {c : Expr} {a b : List Stmt} {mc : BM} {ma mb : SM} {pos : Pos} (hc : BF X c mc) (ha : BkF X a ma) (hb : BkF X b mb) : SF X (.If c a b pos) (sIf mc ma mb) := by
  obtain ⟨t, p, s⟩ := hc
  obtain ⟨t1, p1, s1⟩ := ha
  obtain ⟨t2, p2, s2⟩ := hb
  refine ⟨_, ps_if p p1 p2, fun C pp S H σ E pl D' out I e q => ?_⟩
  unfold sIf at e
  cases h : mc E pl with
  | none => rw [h] at e; cases e
  | some r =>
    obtain ⟨b, p'⟩ := r
    rw [h] at e
    refine s pp _ H σ E pl b p' _ I.erA h fun S1 H1 J a1 => ?_
    obtain ⟨I1, _⟩ := I.back J a1
    cases b with
    | true => exact s1 C pp _ H1 σ E p' D' out I1 e q
    | false => exact s2 C pp _ H1 σ E p' D' out I1 e q

/-! ### stores -/
abbrev TM := D → Env → Option Env
def GS (K : PySem.W.Frag) (g : TG) (f : TM) : Prop := ∀ C pp S H σ E pl d v E' (Q : L2.St → Hp → Prop), SR K C pp S H σ E pl → Rp K S d v → f d E = some E' → (∀ σ', SR K C pp S H σ' E' pl → Q σ' H) → g v σ H Q
def GSs (K : PySem.W.Frag) (g : TGs) (f : List D → Env → Option Env) : Prop := ∀ C pp S H σ E pl ds vs E' (Q : L2.St → Hp → Prop), SR K C pp S H σ E pl → RpL K S ds vs → f ds E = some E' → (∀ σ', SR K C pp S H σ' E' pl → Q σ' H) → g vs σ H Q
def GF (X : Cx) (tg : Expr) (f : TM) : Prop := ∃ g, PG X tg g ∧ GS X.K g f
def GFs (X : Cx) (tgs : List Expr) (f : List D → Env → Option Env) : Prop := ∃ g, PGs X tgs g ∧ GSs X.K g f
def gN (i : Nat) : TM := fun d E => some (E.set i (.val d))
def gT (f : List D → Env → Option Env) : TM := fun d E => match d with
  | .tup ds => f ds E
  | _ => none
def gsN : List D → Env → Option Env := fun ds E => match ds with
  | [] => some E
  | _ => none
def gsC (f : TM) (fs : List D → Env → Option Env) : List D → Env → Option Env := fun ds E => match ds with
  | d :: r => (f d E).bind (fs r)
  | [] => none
theorem GS.name (i : Nat) : GS K (gName i) (gN i) := fun C pp S H σ E pl d v E' Q I r e q => by
  cases e; exact q _ (I.val i r)
theorem gf_name {i : Nat} {x : Str} {pos : Pos} (hN : X.N.Nodup) (hi : X.N[i]? = some x) (hx : Loc X.env.scope x) (hf : X.fn x = true ∨ X.env.scope.names.lookup x = some .local := by first | exact .inl rfl | exact .inr rfl | assumption) : GF X (.Name x pos) (gN i) :=
  ⟨_, pg_name hN hi hx hf, GS.name i⟩
theorem gfs_nil : GFs X [] gsN := ⟨_, pgs_nil, fun C pp S H σ E pl ds vs E' Q I r e q => by
  unfold gsN at e
  split at e <;> cases e
  exact ⟨r.nil_inv, q σ I⟩⟩
theorem gfs_cons {e : Expr} {es : List Expr} {f : TM} {fs : List D → Env → Option Env} (h1 : GF X e f) (h2 : GFs X es fs)
    (hs : (assignEach (e :: es) X.env).map (·.2) = assign e X.env :: (assignEach es X.env).map (·.2) := by rfl) : GFs X (e :: es) (gsC f fs) := by
  obtain ⟨g, p, s⟩ := h1
  obtain ⟨g', p', s'⟩ := h2
  refine ⟨_, pgs_cons p p' hs, fun C pp S H σ E pl ds vs E' Q I r e q => ?_⟩
  unfold gsC at e
  split at e
  · rename_i d rest
    obtain ⟨v, us, rfl, r1, r2⟩ := r.cons_inv
    cases h : f d E with
    | none => rw [h] at e; cases e
    | some E1 =>
      rw [h] at e
      exact ⟨v, us, rfl, s C pp S H σ E pl d v E1 _ I r1 h fun σ1 I1 => s' C pp S H σ1 E1 pl rest us E' Q I1 r2 e q⟩
  · cases e
theorem gfs_len {es : List Expr} {fs : List D → Env → Option Env} (n : Nat) (h : GFs X es fs) (hn : es.length = n) : ∀ {ds E E'}, fs ds E = some E' → True := fun _ => trivial
theorem gf_tup {es : List Expr} {k : Nat} {fs : List D → Env → Option Env} {pos : Pos} (n : Nat) (hc : X.calm = true) (h : GFs X es fs) (hn : (assignEach es X.env).length = n := by rfl) (hst : (assignEach es X.env).findIdx? (·.1) = none := by rfl) :
    GF X (.Tuple es k pos) (gT fun ds E => bM (ds.length == n) (fs ds E) none) := by
  obtain ⟨g, p, s⟩ := h
  refine ⟨_, pg_tup hc p hn hst, fun C pp S H σ E pl d v E' Q I r e q => ?_⟩
  unfold gT at e
  split at e
  · rename_i ds
    rw [rp_tup] at r
    obtain ⟨a, vs, rfl, h1, h2⟩ := r
    dsimp only at e
    cases hz : ds.length == n with
    | false => rw [hz] at e; cases e
    | true =>
      rw [hz] at e
      exact ⟨a, vs, rfl, sb_t I.sub h1, by rw [h2.len]; exact eq_of_beq hz, s C pp S H σ E pl ds vs E' Q I h2 e q⟩
  · cases e
/-- target = e, what came out knows no list; else the own slots in F stay from here on -/
def sAsgS (g : TM) (m : EM) : SM := fun E pl => match m E pl with
  | some (d, p) => bM (noL d) ((g d E).map fun E' => .nx E' p) none
  | none => none
def sAsgF (F : List Nat) (g : TM) (m : EM) : SM := fun E pl => match m (vw F E) pl with
  | some (d, p) => (g d (frz F E)).map fun E' => .nx E' p
  | none => none
theorem SS.asgS {te : TE} {g : TG} {f : TM} {m : EM} (s : ES K te m) (gs : GS K g f) : SS K (tAsg te g) (sAsgS f m) := fun C pp S H σ E pl D' out I e q => by
  unfold sAsgS at e
  cases h : m E pl with
  | none => rw [h] at e; cases e
  | some r =>
    obtain ⟨d, p⟩ := r
    rw [h] at e
    dsimp only at e
    cases hn : noL d with
    | false => rw [hn] at e; cases e
    | true =>
      rw [hn, bM_t] at e
      cases hg : f d E with
      | none => rw [hg] at e; cases e
      | some E1 =>
        rw [hg] at e; cases e
        refine s pp _ H σ E pl d p _ I.erA h fun v S1 H1 J a1 r1 => ?_
        obtain ⟨I1, low⟩ := I.back J a1
        exact gs C pp _ H1 σ E p d v E1 _ I1 (low d v hn r1) hg fun σ' I2 => q pp _ H1 σ' PpS.refl I2
theorem SS.asgF {te : TE} {g : TG} {f : TM} {m : EM} (F : List Nat) (s : ES K te m) (gs : GS K g f) : SS K (tAsg te g) (sAsgF F f m) := fun C pp S H σ E pl D' out I e q => by
  unfold sAsgF at e
  cases h : m (vw F E) pl with
  | none => rw [h] at e; cases e
  | some r =>
    obtain ⟨d, p⟩ := r
    rw [h] at e
    dsimp only at e
    cases hg : f d (frz F E) with
    | none => rw [hg] at e; cases e
    | some E1 =>
      rw [hg] at e; cases e
      refine s pp _ H σ _ pl d p _ (I.er F) h fun v S1 H1 J a1 r1 => ?_
      exact gs C pp _ H1 σ _ p d v E1 _ (I.fin J a1) r1 hg fun σ' I2 => q pp _ H1 σ' PpS.refl I2
/-- x = a new list, x to be changed -/
def sOwn (F : List Nat) (i : Nat) (m : AM) : SM := fun E pl => match m (vw F E) pl with
  | some (xs, p) => some (.nx ((frz F E).set i (.own xs)) p)
  | none => none
theorem h0_none (I : SR K C pp S H σ E pl) {p : Addr} (h : H p = none) : C.H0 p = none := by
  cases e : C.H0 p with
  | none => rfl
  | some o => obtain ⟨o', e'⟩ := I.kept p o e; rw [h] at e'; cases e'
theorem pp_none (I : SR K C pp S H σ E pl) {p : Addr} (h : H p = none) : ∀ sc, pp ≠ some (p, sc) := fun sc e => by
  obtain ⟨⟨o, h'⟩, _⟩ := I.pin p sc e
  rw [h] at h'; cases h'
theorem own_none (I : SR K C pp S H σ E pl) {p : Addr} (h : H p = none) (F : List Nat) : ∀ (j : Nat) (b : Sl), (frz F E)[j]? = some b → isOwn b = true → σ[j]? ≠ some (some (.ref p)) := fun j b e ob z => by
  rw [frz_get] at e
  by_cases hj : j ∈ F
  · rw [if_pos hj] at e
    cases h' : E[j]? with
    | none => rw [h'] at e; cases e
    | some s1 => rw [h'] at e; cases e; rw [frz1_own] at ob; cases ob
  · rw [if_neg hj] at e
    obtain ⟨p', o, g1, g2, _⟩ := I.own e ob
    rw [z] at g1; cases g1
    rw [h] at g2; cases g2
theorem SS.own {te : TE} {m : AM} (F : List Nat) (i : Nat) (s : LS K te m) : SS K (tAsg te (gName i)) (sOwn F i m) := fun C pp S H σ E pl D' out I e q => by
  unfold sOwn at e
  cases h : m (vw F E) pl with
  | none => rw [h] at e; cases e
  | some r =>
    obtain ⟨xs, p⟩ := r
    rw [h] at e; cases e
    refine s pp _ H σ _ pl xs p _ (I.er F) h fun a vs S1 H1 J a1 hp sp hq r1 => ?_
    exact q pp _ H1 _ PpS.refl ((I.fin J a1).newOwn i (sl := .own xs) rfl hq ⟨vs, rfl, r1⟩ sp (h0_none I hp) (pp_none I hp) (own_none I hp F))
/-- an assignment to a name -/
def AsF (X : Cx) (st : Stmt) (i : Nat) (m : EM) : Prop := ∃ te, PS X st (tAsg te (gName i)) ∧ ES X.K te m
def AsL (X : Cx) (st : Stmt) (i : Nat) (m : AM) : Prop := ∃ te, PS X st (tAsg te (gName i)) ∧ LS X.K te m
theorem as_set {i : Nat} {x : Str} {e : Expr} {m : EM} {pos pos' : Pos} (hN : X.N.Nodup) (hi : X.N[i]? = some x) (hx : Loc X.env.scope x) (he : EF X e m) (hs : swapsWith e (some (.Name x pos')) pos.line X.env = pure false := by rfl) (hf : X.fn x = true ∨ X.env.scope.names.lookup x = some .local := by first | exact .inl rfl | exact .inr rfl | assumption) :
    AsF X (.Assign [.Name x pos'] e pos) i m := let ⟨_, p, s⟩ := he; ⟨_, ps_set hN hi hx p hs hf, s⟩
theorem asl_set {i : Nat} {x : Str} {e : Expr} {m : AM} {pos pos' : Pos} (hN : X.N.Nodup) (hi : X.N[i]? = some x) (hx : Loc X.env.scope x) (he : LF X e m) (hs : swapsWith e (some (.Name x pos')) pos.line X.env = pure false := by rfl) (hf : X.fn x = true ∨ X.env.scope.names.lookup x = some .local := by first | exact .inl rfl | exact .inr rfl | assumption) :
    AsL X (.Assign [.Name x pos'] e pos) i m := let ⟨_, p, s⟩ := he; ⟨_, ps_set hN hi hx p hs hf, s⟩
theorem LS.es {t : TE} {m : AM} (s : LS K t m) : ES K t (mFrz m) := fun pp S H σ E pl d pl' Q I e q => by
  obtain ⟨xs, q1, e1, e⟩ := seqM_some e
  obtain ⟨rfl, rfl⟩ := oks_some e
  refine s pp S H σ E pl xs _ _ I e1 fun p vs S1 H1 I1 a1 hp sp hq r1 => ?_
  obtain ⟨I2, a2⟩ := I.frz I1 a1 hp sp hq
  exact q _ _ _ I2 a2 (rp_lst.mpr ⟨p, vs, rfl, upd_same, r1.mono (sb_upd sp)⟩)
theorem AsL.as {st : Stmt} {i : Nat} {m : AM} (h : AsL X st i m) : AsF X st i (mFrz m) := let ⟨_, p, s⟩ := h; ⟨_, p, s.es⟩
theorem AsF.s {st : Stmt} {i : Nat} {m : EM} (h : AsF X st i m) : SF X st (sAsgS (gN i) m) := let ⟨_, p, s⟩ := h; ⟨_, p, SS.asgS s (GS.name i)⟩
theorem AsF.f {st : Stmt} {i : Nat} {m : EM} (F : List Nat) (h : AsF X st i m) : SF X st (sAsgF F (gN i) m) := let ⟨_, p, s⟩ := h; ⟨_, p, SS.asgF F s (GS.name i)⟩
theorem AsL.o {st : Stmt} {i : Nat} {m : AM} (F : List Nat) (h : AsL X st i m) : SF X st (sOwn F i m) := let ⟨_, p, s⟩ := h; ⟨_, p, SS.own F i s⟩
theorem sf_asgS {tg e : Expr} {f : TM} {m : EM} {pos : Pos} (hg : GF X tg f) (he : EF X e m) (hs : swapsWithSole [tg] e pos.line X.env = pure false := by rfl) (hw : swappedStores [tg] e X.env = pure none := by rfl)
    (h1 : (assignEach [tg] X.env).map (·.2) = [assign tg X.env] := by rfl) : SF X (.Assign [tg] e pos) (sAsgS f m) := let ⟨_, p, s⟩ := he; let ⟨_, p', s'⟩ := hg; ⟨_, ps_asg p p' hs hw h1, SS.asgS s s'⟩
theorem sf_asgF {tg e : Expr} {f : TM} {m : EM} {pos : Pos} (F : List Nat) (hg : GF X tg f) (he : EF X e m) (hs : swapsWithSole [tg] e pos.line X.env = pure false := by rfl) (hw : swappedStores [tg] e X.env = pure none := by rfl)
    (h1 : (assignEach [tg] X.env).map (·.2) = [assign tg X.env] := by rfl) : SF X (.Assign [tg] e pos) (sAsgF F f m) := let ⟨_, p, s⟩ := he; let ⟨_, p', s'⟩ := hg; ⟨_, ps_asg p p' hs hw h1, SS.asgF F s s'⟩
/-- a, b = x, y -/
def sPar (F : List Nat) (i j : Nat) (m : AM) : SM := fun E pl => match m (vw F E) pl with
  | some ([a, b], p) => some (.nx (((frz F E).set i (.val a)).set j (.val b)) p)
  | _ => none
theorem sf_par {i j : Nat} {x y : Str} {a b : Expr} {m : AM} {px py pt pos : Pos} {kt k2 pt2} (F : List Nat) (hc : X.calm = true) (hN : X.N.Nodup) (hi : X.N[i]? = some x) (hj : X.N[j]? = some y) (hij : i ≠ j)
    (hx : X.env.scope.names.lookup x = some .local) (hy : X.env.scope.names.lookup y = some .local) (ha : AF X [a, b] m)
    (hw : swappedStores [.Tuple [.Name x px, .Name y py] kt pt] (.Tuple [a, b] k2 pt2) X.env = pure (some [x, y]))
    (hs : swapsWithSole [.Tuple [.Name x px, .Name y py] kt pt] (.Tuple [a, b] k2 pt2) pos.line X.env = pure false := by rfl) :
    SF X (.Assign [.Tuple [.Name x px, .Name y py] kt pt] (.Tuple [a, b] k2 pt2) pos) (sPar F i j m) := by
  obtain ⟨t, p, s⟩ := ha
  refine ⟨_, ps_par hc hN hi hj hij hx hy p hw hs, fun C pp S H σ E pl D' out I e q => ?_⟩
  unfold sPar at e
  split at e
  · rename_i d1 d2 p' h
    cases e
    refine s pp _ H σ _ pl _ p' _ (I.er F) h fun vs S1 H1 J a1 r1 => ?_
    obtain ⟨v, u, rfl, g1, g2⟩ := rpl_two r1
    exact ⟨v, u, rfl, q pp _ H1 _ PpS.refl (((I.fin J a1).val i g1).val j g2)⟩
  · cases e
/-- e; as a statement (its pool's work stays) -/
def sDrop (m : EM) : SM := fun E pl => match m E pl with
  | some (_, p) => some (.nx E p)
  | none => none
theorem sf_drop {e : Expr} {m : EM} {pos : Pos} (he : EF X e m) (hs : swapsWith e none pos.line X.env = pure false := by rfl) : SF X (.Expr e pos) (sDrop m) := by
  obtain ⟨t, p, s⟩ := he
  refine ⟨_, ps_expr p hs, fun C pp S H σ E pl D' out I e q => ?_⟩
  unfold sDrop at e
  cases h : m E pl with
  | none => rw [h] at e; cases e
  | some r =>
    obtain ⟨d, p⟩ := r
    rw [h] at e; cases e
    refine s pp _ H σ E pl d p _ I.erA h fun v S1 H1 J a1 r1 => ?_
    exact q pp _ H1 σ PpS.refl (I.back J a1).1
/-! returns -/
def sRetS (m : EM) : SM := fun E pl => match m E pl with
  | some (d, p) => bM (noL d) (some (.rt d E p)) none
  | none => none
def sRetF (F : List Nat) (m : EM) : SM := fun E pl => match m (vw F E) pl with
  | some (d, p) => some (.rt d (frz F E) p)
  | none => none
def sRetL (F : List Nat) (m : AM) : SM := fun E pl => match m (vw F E) pl with
  | some (xs, p) => some (.rtl xs (frz F E) p)
  | none => none
def sRetO (i : Nat) : SM := fun E pl => match E[i]? with
  | some (.own xs) => some (.rtl xs (E.set i .un) pl)
  | _ => none
def sRetN : SM := fun E pl => some (.rt .non E pl)
theorem sf_retS {e : Expr} {m : EM} {pos : Pos} (he : EF X e m) : SF X (.Return (some e) pos) (sRetS m) := by
  obtain ⟨t, p, s⟩ := he
  refine ⟨_, ps_ret p, fun C pp S H σ E pl D' out I e q => ?_⟩
  unfold sRetS at e
  cases h : m E pl with
  | none => rw [h] at e; cases e
  | some r =>
    obtain ⟨d, p⟩ := r
    rw [h] at e
    dsimp only at e
    cases hn : noL d with
    | false => rw [hn] at e; cases e
    | true =>
      rw [hn] at e; cases e
      refine s pp _ H σ E pl d p _ I.erA h fun v S1 H1 J a1 r1 => ?_
      obtain ⟨I1, low⟩ := I.back J a1
      exact q pp _ H1 σ v PpS.refl I1 (low d v hn r1)
theorem sf_retF {e : Expr} {m : EM} {pos : Pos} (F : List Nat) (he : EF X e m) : SF X (.Return (some e) pos) (sRetF F m) := by
  obtain ⟨t, p, s⟩ := he
  refine ⟨_, ps_ret p, fun C pp S H σ E pl D' out I e q => ?_⟩
  unfold sRetF at e
  cases h : m (vw F E) pl with
  | none => rw [h] at e; cases e
  | some r =>
    obtain ⟨d, p⟩ := r
    rw [h] at e; cases e
    refine s pp _ H σ _ pl d p _ (I.er F) h fun v S1 H1 J a1 r1 => ?_
    exact q pp _ H1 σ v PpS.refl (I.fin J a1) r1
theorem sf_retL {e : Expr} {m : AM} {pos : Pos} (F : List Nat) (he : LF X e m) : SF X (.Return (some e) pos) (sRetL F m) := by
  obtain ⟨t, p, s⟩ := he
  refine ⟨_, ps_ret p, fun C pp S H σ E pl D' out I e q => ?_⟩
  unfold sRetL at e
  cases h : m (vw F E) pl with
  | none => rw [h] at e; cases e
  | some r =>
    obtain ⟨d, p⟩ := r
    rw [h] at e; cases e
    refine s pp _ H σ _ pl d p _ (I.er F) h fun a vs S1 H1 J a1 hp sp hq r1 => ?_
    exact q pp _ H1 σ a vs PpS.refl (I.fin J a1) hq sp (h0_none I hp) (pp_none I hp) r1
theorem sf_retO {x : Str} {pos pos' : Pos} (i : Nat) (hN : X.N[i]? = some x := by rfl) (hv : Vis X.env.scope x := by first | exact Or.inl rfl | exact Or.inr (Or.inl rfl) | exact Or.inr (Or.inr rfl)) (hd : (x == ("__debug__" : Str)) = false := by decide)
    (hcd : (x == ("__classdict__" : Str)) = false := by decide) : SF X (.Return (some (.Name x pos')) pos) (sRetO i) := by
  refine ⟨_, ps_ret (pe_var hN hv hd hcd), fun C pp S H σ E pl D' out I e q => ?_⟩
  unfold sRetO at e
  split at e
  · rename_i xs h
    cases e
    obtain ⟨p, o, h1, h2, h3, h4, h5, h6⟩ := I.own h rfl
    obtain ⟨vs, rfl, r⟩ := h3
    exact ⟨_, h1, q pp _ H σ p vs PpS.refl (I.forget i) h2 h4 h5 h6 r⟩
  · cases e
theorem sf_retN {pos : Pos} : SF X (.Return none pos) sRetN := ⟨_, ps_retN, fun C pp S H σ E pl D' out I e q => by cases e; exact q pp S H σ _ PpS.refl I (rp_non.mpr rfl)⟩
/-! own lists are changed -/
def sAppS (i : Nat) (m : EM) : SM := fun E pl => match m E pl with
  | some (d, p) => match E[i]? with
    | some (.own xs) => bM (noL d && sized xs.length) (some (.nx (E.set i (.own (xs ++ [d]))) p)) none
    | _ => none
  | none => none
def sAppF (F : List Nat) (i : Nat) (m : EM) : SM := fun E pl => match m (vw F E) pl with
  | some (d, p) => match (frz F E)[i]? with
    | some (.own xs) => bM (sized xs.length) (some (.nx ((frz F E).set i (.own (xs ++ [d]))) p)) none
    | _ => none
  | none => none
/-- x.m(e) as a statement -/
def MtF (X : Cx) (st : Stmt) (r : V → List V → Hp → VK → Prop) (i : Nat) (m : EM) : Prop := ∃ te, PS X st (tDrop (tBM X.K "list" r (tVar i) (tCons te tNil))) ∧ ES X.K te m
theorem mt_of {st : Stmt} {e : Expr} {r : V → List V → Hp → VK → Prop} {i : Nat} {m : EM} (he : EF X e m) (mk : ∀ te, PE X e te → PS X st (tDrop (tBM X.K "list" r (tVar i) (tCons te tNil)))) : MtF X st r i m :=
  let ⟨t, p, s⟩ := he; ⟨t, mk t p, s⟩
/-- the list at an own slot -/
theorem SR.ownL (I : SR K C pp S H σ E pl) {i : Nat} {xs : List D} (h : E[i]? = some (.own xs)) : ∃ p vs, σ[i]? = some (some (.ref p)) ∧ H p = some (.lst vs) ∧ RpL K S xs vs := by
  obtain ⟨p, o, h1, h2, ⟨vs, rfl, r⟩, _⟩ := I.own h rfl
  exact ⟨p, vs, h1, h2, r⟩
theorem SS.appS {te : TE} {i : Nat} {m : EM} (s : ES K te m) : SS K (tDrop (tBM K "list" rAppend (tVar i) (tCons te tNil))) (sAppS i m) := fun C pp S H σ E pl D' out I e q => by
  unfold sAppS at e
  cases h : m E pl with
  | none => rw [h] at e; cases e
  | some r =>
    obtain ⟨d, p⟩ := r
    rw [h] at e
    dsimp only at e
    split at e
    · rename_i xs hx
      cases hn : (noL d && sized xs.length) with
      | false => rw [hn] at e; cases e
      | true =>
        rw [hn] at e; cases e
        rw [Bool.and_eq_true] at hn
        obtain ⟨a, vs, g1, g2, g3⟩ := I.ownL hx
        refine ⟨_, g1, .inl ⟨rfl, _, .inl (.inl g2)⟩, ?_⟩
        refine s pp _ H σ E pl d _ _ I.erA h fun v S1 H1 J a1 r1 => ?_
        obtain ⟨I1, low⟩ := I.back J a1
        obtain ⟨a', vs', k1, k2, k3⟩ := I1.ownL hx
        rw [g1] at k1; cases k1
        refine ⟨a, vs', v, rfl, rfl, k2, by rw [k3.len]; exact sized_lt hn.2, ?_⟩
        exact q pp _ _ σ PpS.refl (I1.upd hx rfl g1 (sl' := .own (xs ++ [d])) rfl ⟨_, rfl, k3.append (RpL.cons (low d v hn.1 r1) RpL.nil)⟩)
    · cases e
theorem SS.appF {te : TE} {i : Nat} {m : EM} (F : List Nat) (s : ES K te m) : SS K (tDrop (tBM K "list" rAppend (tVar i) (tCons te tNil))) (sAppF F i m) := fun C pp S H σ E pl D' out I e q => by
  unfold sAppF at e
  cases h : m (vw F E) pl with
  | none => rw [h] at e; cases e
  | some r =>
    obtain ⟨d, p⟩ := r
    rw [h] at e
    dsimp only at e
    split at e
    · rename_i xs hx
      cases hn : (sized xs.length) with
      | false => rw [hn] at e; cases e
      | true =>
        rw [hn] at e; cases e
        have hx0 : E[i]? = some (.own xs) := by
          rw [frz_get] at hx
          by_cases hi : i ∈ F
          · rw [if_pos hi] at hx
            cases z : E[i]? with
            | none => rw [z] at hx; cases hx
            | some s1 => rw [z] at hx; cases s1 <;> cases hx
          · rw [if_neg hi] at hx; exact hx
        obtain ⟨a, vs, g1, g2, g3⟩ := I.ownL hx0
        refine ⟨_, g1, .inl ⟨rfl, _, .inl (.inl g2)⟩, ?_⟩
        refine s pp _ H σ _ pl d _ _ (I.er F) h fun v S1 H1 J a1 r1 => ?_
        have I1 := I.fin J a1
        obtain ⟨a', vs', k1, k2, k3⟩ := I1.ownL hx
        rw [g1] at k1; cases k1
        refine ⟨a, vs', v, rfl, rfl, k2, by rw [k3.len]; exact sized_lt hn, ?_⟩
        exact q pp _ _ σ PpS.refl (I1.upd hx rfl g1 (sl' := .own (xs ++ [d])) rfl ⟨_, rfl, k3.append (RpL.cons r1 RpL.nil)⟩)
    · cases e
theorem sf_appS {st : Stmt} {i : Nat} {m : EM} (h : MtF X st rAppend i m) : SF X st (sAppS i m) := let ⟨_, p, s⟩ := h; ⟨_, p, SS.appS s⟩
theorem sf_appF {st : Stmt} {i : Nat} {m : EM} (F : List Nat) (h : MtF X st rAppend i m) : SF X st (sAppF F i m) := let ⟨_, p, s⟩ := h; ⟨_, p, SS.appF F s⟩
/-- x[k] = e, x own -/
def sSetS (i : Nat) (mi m : EM) : SM := fun E pl => match m E pl with
  | some (d, p) => match mi E p with
    | some (.int k, p2) => match E[i]? with
      | some (.own xs) => match ixN xs.length k with
        | some j => bM (noL d) (some (.nx (E.set i (.own (xs.set j d))) p2)) none
        | none => none
      | _ => none
    | _ => none
  | none => none
theorem SS.setS {te ti : TE} {i : Nat} {m mi : EM} (s : ES K te m) (si : ES K ti mi) : SS K (tAsg te (gSub (tVar i) ti rSetL)) (sSetS i mi m) := fun C pp S H σ E pl D' out I e q => by
  unfold sSetS at e
  cases h : m E pl with
  | none => rw [h] at e; cases e
  | some r =>
    obtain ⟨d, p⟩ := r
    rw [h] at e
    dsimp only at e
    split at e <;> try cases e
    rename_i k p2 hk
    split at e <;> try cases e
    rename_i xs hx
    split at e <;> try cases e
    rename_i j hj
    cases hn : noL d with
    | false => rw [hn] at e; cases e
    | true =>
      rw [hn] at e; cases e
      refine s pp _ H σ E pl d _ _ I.erA h fun v S1 H1 J a1 r1 => ?_
      obtain ⟨I1, low⟩ := I.back J a1
      have r1' := low d v hn r1
      obtain ⟨a, vs, g1, g2, g3⟩ := I1.ownL hx
      refine ⟨_, g1, ?_⟩
      refine si pp _ H1 σ E p _ _ _ I1.erA hk fun w S2 H2 J2 a2 r2 => ?_
      obtain ⟨I2, _⟩ := I1.back J2 a2
      rw [rp_int] at r2; subst r2
      obtain ⟨a', vs', k1, k2, k3⟩ := I2.ownL hx
      rw [g1] at k1; cases k1
      refine ⟨a, vs', k, j, rfl, rfl, k2, by rw [k3.len]; exact hj, ?_⟩
      have sm : Sb (Sminus S1 (allF E) E σ) (Sminus S2 (allF E) E σ) := fun b o e' => by
        have e2 := (I1.plus (F := allF E)).trans a2.s b o e'
        unfold Sminus
        split
        · rename_i z
          unfold Sminus at e'
          rw [if_pos z] at e'; cases e'
        · exact e2
      exact q pp _ _ σ PpS.refl (I2.upd hx rfl g1 (sl' := .own (xs.set j d)) rfl ⟨_, rfl, k3.set j (r1'.mono sm)⟩)
theorem sf_setS {st : Stmt} {e ei : Expr} {i : Nat} {m mi : EM} (he : EF X e m) (hi : EF X ei mi) (mk : ∀ te ti, PE X e te → PE X ei ti → PS X st (tAsg te (gSub (tVar i) ti rSetL))) : SF X st (sSetS i mi m) :=
  let ⟨_, p, s⟩ := he; let ⟨_, p', s'⟩ := hi; ⟨_, mk _ _ p p', SS.setS s s'⟩
end
end Dn
set_option Elab.async false
set_option linter.all false
set_option maxRecDepth 100000
set_option maxHeartbeats 2000000
namespace Dn
open PySem L2

/-! ### what a for walks -/
/-- J gives the data ds, one after another, whatever the heap, as long as S stays -/
structure JS (K : PySem.W.Frag) (S : Hp) (J : It) (ds : List D) : Prop where
  go : ∀ (i : Nat) (d : D) S' H, Sb S S' → Sb S' H → ds[i]? = some d → J.go i H ∧ ∀ x H', J.yld i H x H' → ∃ S'', Nw S' H S'' H' ∧ Rp K S'' d x
  stop : ∀ (i : Nat) S' H, Sb S S' → Sb S' H → ds.length ≤ i → J.stop i H
def IS (K : PySem.W.Frag) (w : TI) (m : AM) : Prop := ∀ pp S H σ E pl ds pl' (R : It → Hp → Prop), ER K pp S H σ E pl → m E pl = some (ds, pl') → (∀ J S' H', ER K pp S' H' σ E pl' → Ad pp S H S' H' → JS K S' J ds → R J H') → w σ H R
def IF (X : Cx) (tg e : Expr) (m : AM) : Prop := ∃ w, PI X tg e w ∧ IS X.K w m
theorem JS.mono {K : PySem.W.Frag} {S S1 : Hp} {J : It} {ds : List D} (e : Sb S S1) (h : JS K S J ds) : JS K S1 J ds :=
  ⟨fun i d S' H h1 h2 h3 => h.go i d S' H (e.trans h1) h2 h3, fun i S' H h1 h2 h3 => h.stop i S' H (e.trans h1) h2 h3⟩
/-- the items of a list or tuple -/
def itL : D → Option (List D)
  | .lst xs => some xs
  | .scr ns => some (ns.map D.int)
  | _ => none
def itT : D → Option (List D)
  | .tup xs => some xs
  | _ => none
def mIt (f : D → Option (List D)) (m : EM) : AM := seqM m fun x => lftM (f x)
section
variable {X : Cx} {K : PySem.W.Frag}
/-- a reading of SqL gives one list: all that is asked of JS of a list -/
theorem js_list {S : Hp} {a : Addr} {ds : List D} {vs : List V} (h : SqL K S a vs) (r : RpL K S ds vs) : JS K S (Itl K a) ds := by
  refine ⟨fun i d S' H h1 h2 h3 => ?_, fun i S' H h1 h2 h3 => ?_⟩
  · obtain ⟨v, g1, g2⟩ := r.get h3
    refine ⟨⟨vs, v, sb_l (h1.trans h2) h, g1⟩, fun x H' y => ?_⟩
    obtain ⟨rfl, y⟩ := y
    have := y vs (sb_l (h1.trans h2) h)
    rw [g1] at this; cases this
    exact ⟨S', Nw.refl h2, g2.mono h1⟩
  · exact ⟨vs, sb_l (h1.trans h2) h, by rw [r.len]; exact h3⟩
theorem js_tup {S : Hp} {a : Addr} {ds : List D} {vs : List V} (h : SqT K S a vs) (r : RpL K S ds vs) : JS K S (Itt K a) ds := by
  refine ⟨fun i d S' H h1 h2 h3 => ?_, fun i S' H h1 h2 h3 => ?_⟩
  · obtain ⟨v, g1, g2⟩ := r.get h3
    refine ⟨⟨vs, v, sb_t (h1.trans h2) h, g1⟩, fun x H' y => ?_⟩
    obtain ⟨rfl, y⟩ := y
    have := y vs (sb_t (h1.trans h2) h)
    rw [g1] at this; cases this
    exact ⟨S', Nw.refl h2, g2.mono h1⟩
  · exact ⟨vs, sb_t (h1.trans h2) h, by rw [r.len]; exact h3⟩
def rangeD (lo : Int) (n : Nat) : List D := (List.range n).map fun i => .int (lo + (i : Nat))
theorem js_range {S : Hp} {lo : Int} {n : Nat} : JS K S (Itr lo n) (rangeD lo n) := by
  refine ⟨fun i d S' H h1 h2 h3 => ?_, fun i S' H h1 h2 h3 => ?_⟩
  · unfold rangeD at h3
    rw [List.getElem?_map] at h3
    cases z : (List.range n)[i]? with
    | none => rw [z] at h3; cases h3
    | some k =>
      rw [z] at h3; cases h3
      obtain ⟨z1, z2⟩ := List.getElem?_eq_some_iff.mp z
      rw [List.length_range] at z1
      rw [List.getElem_range] at z2
      subst z2
      refine ⟨z1, fun x H' y => ?_⟩
      obtain ⟨rfl, rfl⟩ := y
      exact ⟨S', Nw.refl h2, rp_int.mpr rfl⟩
  · unfold rangeD at h3
    rw [List.length_map, List.length_range] at h3
    exact h3
theorem if_list {tg l : Expr} {m : EM} (h : EF X l m) : IF X tg l (mIt itL m) := by
  obtain ⟨t, p, s⟩ := h
  refine ⟨_, pi_list p, fun pp S H σ E pl ds pl' R I e q => ?_⟩
  obtain ⟨x, q1, e1, f1⟩ := seqM_some e
  obtain ⟨e2, rfl⟩ := lftM_some f1
  refine s pp S H σ E pl x _ _ I e1 fun v S1 H1 J a1 r1 => ?_
  unfold itL at e2
  split at e2 <;> cases e2
  · rw [rp_lst] at r1
    obtain ⟨a, vs, rfl, g1, g2⟩ := r1
    exact ⟨a, rfl, ⟨vs, .inl (.inl (J.sub _ _ g1))⟩, q _ S1 H1 J a1 (js_list (.inl (.inl g1)) g2)⟩
  · rw [rp_scr] at r1
    obtain ⟨a, rfl, g1⟩ := r1
    exact ⟨a, rfl, ⟨_, sb_l J.sub g1⟩, q _ S1 H1 J a1 (js_list g1 (RpL.ints _))⟩
theorem if_tup {tg l : Expr} {m : EM} (h : EF X l m) : IF X tg l (mIt itT m) := by
  obtain ⟨t, p, s⟩ := h
  refine ⟨_, pi_tup p, fun pp S H σ E pl ds pl' R I e q => ?_⟩
  obtain ⟨x, q1, e1, f1⟩ := seqM_some e
  obtain ⟨e2, rfl⟩ := lftM_some f1
  refine s pp S H σ E pl x _ _ I e1 fun v S1 H1 J a1 r1 => ?_
  unfold itT at e2
  split at e2 <;> cases e2
  rw [rp_tup] at r1
  obtain ⟨a, vs, rfl, g1, g2⟩ := r1
  exact ⟨a, rfl, ⟨vs, sb_t J.sub g1⟩, q _ S1 H1 J a1 (js_tup g1 g2)⟩
theorem if_or {tg e : Expr} {m1 m2 : AM} (h1 : IF X tg e m1) (h2 : IF X tg e m2) : IF X tg e (fun E pl => (m1 E pl).or (m2 E pl)) := by
  obtain ⟨t1, p1, s1⟩ := h1
  obtain ⟨t2, p2, s2⟩ := h2
  refine ⟨fun σ H Q => t1 σ H Q ∨ t2 σ H Q, ⟨fun pins s σ H R I h => h.elim (p1.run pins s σ H R I) (p2.run pins s σ H R I)⟩, fun pp S H σ E pl d pl' Q I e q => ?_⟩
  dsimp only at e
  cases z : m1 E pl with
  | some r => rw [z] at e; exact .inl (s1 pp S H σ E pl d pl' Q I (z.trans e) q)
  | none => rw [z] at e; exact .inr (s2 pp S H σ E pl d pl' Q I e q)
theorem IF.imp {tg e : Expr} {m1 m2 : AM} (h1 : IF X tg e m1) (h : ∀ E pl r, m2 E pl = some r → m1 E pl = some r) : IF X tg e m2 := by
  obtain ⟨t1, p1, s1⟩ := h1
  exact ⟨t1, p1, fun pp S H σ E pl d pl' Q I e q => s1 pp S H σ E pl d pl' Q I (h E pl _ e) q⟩
def itD : D → Option (List D)
  | .lst xs => some xs
  | .tup xs => some xs
  | .scr ns => some (ns.map D.int)
  | _ => none
theorem if_seq {tg l : Expr} {m : EM} (h : EF X l m) : IF X tg l (mIt itD m) := (if_or (if_list h) (if_tup h)).imp fun E pl r e => by
  unfold mIt seqM at e ⊢
  cases z : m E pl with
  | none => rw [z] at e; cases e
  | some x =>
    obtain ⟨d, p⟩ := x
    rw [z] at e
    dsimp only [lftM] at e ⊢
    unfold itD at e
    cases d <;> first | exact e | cases e
def rng1 : List D → Option (List D)
  | [.int n] => if decide (n.natAbs < 2 ^ 60) then some (rangeD 0 n.toNat) else none
  | _ => none
def rng2 : List D → Option (List D)
  | [.int a, .int b] => if decide (a.natAbs < 2 ^ 60) && decide (b.natAbs < 2 ^ 60) then some (rangeD a (b - a).toNat) else none
  | _ => none
def mRng (f : List D → Option (List D)) (m : AM) : AM := seqM m fun xs => lftM (f xs)
theorem if_rng1 {tg a : Expr} {m : AM} {p pos : Pos} (hg : Gl X "range") (hm : X.mg "range" = none) (ha : AF X [a] m) (hs : nst a = true := by rfl) : IF X tg (.Call (.Name "range" p) [a] [] pos) (mRng rng1 m) := by
  obtain ⟨t, pa, s⟩ := ha
  refine ⟨_, pi_range1 hg hm pa (star_nst hs), fun pp S H σ E pl ds pl' R I e q => ?_⟩
  obtain ⟨x, q1, e1, f1⟩ := seqM_some e
  obtain ⟨e2, rfl⟩ := lftM_some f1
  refine s pp S H σ E pl x _ _ I e1 fun vs S1 H1 J a1 r1 => ?_
  unfold rng1 at e2
  split at e2 <;> try cases e2
  split at e2 <;> cases e2
  rename_i n hn
  obtain ⟨v, rfl, g⟩ := rpl_one r1
  rw [rp_int] at g; subst g
  have hn := of_decide_eq_true hn
  exact ⟨n, rfl, by omega, by omega, q _ S1 H1 J a1 js_range⟩
theorem if_rng2 {tg a b : Expr} {m : AM} {p pos : Pos} (hg : Gl X "range") (hm : X.mg "range" = none) (ha : AF X [a, b] m) (hs : nst a = true := by rfl) (hs2 : nst b = true := by rfl) : IF X tg (.Call (.Name "range" p) [a, b] [] pos) (mRng rng2 m) := by
  obtain ⟨t, pa, s⟩ := ha
  refine ⟨_, pi_range2 hg hm pa (by rw [star_nst hs, star_nst hs2]; rfl) (star_nst hs2), fun pp S H σ E pl ds pl' R I e q => ?_⟩
  obtain ⟨x, q1, e1, f1⟩ := seqM_some e
  obtain ⟨e2, rfl⟩ := lftM_some f1
  refine s pp S H σ E pl x _ _ I e1 fun vs S1 H1 J a1 r1 => ?_
  unfold rng2 at e2
  split at e2 <;> try cases e2
  split at e2 <;> cases e2
  rename_i a b hn
  simp only [Bool.and_eq_true, decide_eq_true_eq] at hn
  obtain ⟨v, u, rfl, g1, g2⟩ := rpl_two r1
  rw [rp_int] at g1 g2; subst g1 g2
  exact ⟨a, b, rfl, ⟨by omega, by omega, by omega, by omega⟩, q _ S1 H1 J a1 js_range⟩
end
end Dn
set_option Elab.async false
set_option linter.all false
set_option maxRecDepth 100000
set_option maxHeartbeats 2000000
namespace Dn
open PySem PySem.Spec PyProof.Rows L2

/-! ### loops -/
def forL (g : TM) (b : SM) : List D → SM
  | [] => fun E pl => some (.nx E pl)
  | d :: ds => fun E pl => match g d E with
    | none => none
    | some E1 => match b E1 pl with
      | some (.nx E2 p2) => forL g b ds E2 p2
      | some (.ct E2 p2) => forL g b ds E2 p2
      | some (.bk E2 p2) => some (.nx E2 p2)
      | some (.rt d E2 p2) => some (.rt d E2 p2)
      | some (.rtl xs E2 p2) => some (.rtl xs E2 p2)
      | none => none
def sFor (F : List Nat) (g : TM) (m : AM) (b : SM) : SM := fun E pl => match m (vw F E) pl with
  | some (ds, p) => forL g b ds (frz F E) p
  | none => none
def whL (c : BM) (b : SM) : Nat → SM
  | 0 => fun _ _ => none
  | n + 1 => fun E pl => match c E pl with
    | none => none
    | some (false, p) => some (.nx E p)
    | some (true, p) => match b E p with
      | some (.nx E2 p2) => whL c b n E2 p2
      | some (.ct E2 p2) => whL c b n E2 p2
      | some (.bk E2 p2) => some (.nx E2 p2)
      | some (.rt d E2 p2) => some (.rt d E2 p2)
      | some (.rtl xs E2 p2) => some (.rtl xs E2 p2)
      | none => none
section
variable {K : PySem.W.Frag} {X : Cx}
theorem SR.nw {C : Cz} {pp : PP} {S H S' H' : Hp} {σ : L2.St} {E : Env} {pl : Option Pl} (I : SR K C pp S H σ E pl) (a : Nw S H S' H') : SR K C pp S' H' σ E pl := by
  refine ⟨a.sub, I.len, fun i sl e => ?_, fun p sc e => ?_, I.new', fun P e => ?_, I.s0.trans a.s, fun b o e n => a.h b o (I.keep b o e n), fun b o e => ?_, fun b o e => ?_, I.dist, I.ppk, I.npp⟩
  · unfold SlS
    cases ho : isOwn sl with
    | false => rw [if_neg (by decide)]; exact (I.slr e ho).mono a.s
    | true =>
      rw [if_pos rfl]
      obtain ⟨p, o, h1, h2, h3, h4, h5, h6⟩ := I.own e ho
      refine ⟨p, o, h1, a.h p o h2, h3.mono a.s, ?_, h5, h6⟩
      cases q : S' p with
      | none => rfl
      | some u =>
        rcases a.n p u q with z | z
        · rw [z] at h4; cases h4
        · rw [z] at h2; cases h2
  · obtain ⟨⟨o, h⟩, g, g'⟩ := I.pin p sc e
    refine ⟨⟨o, a.h p o h⟩, ?_, sb_l a.s g'⟩
    cases q : S' p with
    | none => rfl
    | some u =>
      rcases a.n p u q with z | z
      · rw [z] at g; cases g
      · rw [z] at h; cases h
  · obtain ⟨p, sc, e1, h1, h2⟩ := I.pool P e
    exact ⟨p, sc, e1, a.h _ _ h1, h2⟩
  · obtain ⟨o', e'⟩ := I.kept b o e; exact ⟨o', a.h _ _ e'⟩
  · rcases a.n b o e with z | z
    · exact I.new b o z
    · right
      cases q : C.H0 b with
      | none => rfl
      | some u => obtain ⟨o', e'⟩ := I.kept b u q; rw [z] at e'; cases e'
theorem SR.up {C : Cz} {pp : PP} {S1 S H : Hp} {σ : L2.St} {E : Env} {pl : Option Pl} (I : SR K C pp S H σ E pl) (m : Sb S1 S) (m0 : Sb C.S0 S1) : SR K ⟨S1, C.H0, C.pp0⟩ pp S H σ E pl :=
  ⟨I.sub, I.len, I.env, I.pin, I.new', I.pool, m, I.keep, I.kept, fun a o e => (I.new a o e).imp (m0 a o) id, I.dist, I.ppk, I.npp⟩
theorem SR.down {C : Cz} {pp : PP} {S1 S H : Hp} {σ : L2.St} {E : Env} {pl : Option Pl} (I : SR K ⟨S1, C.H0, C.pp0⟩ pp S H σ E pl) (m0 : Sb C.S0 S1) (n : ∀ a o, S1 a = some o → C.S0 a = some o ∨ C.H0 a = none) : SR K C pp S H σ E pl :=
  ⟨I.sub, I.len, I.env, I.pin, I.new', I.pool, m0.trans I.s0, I.keep, I.kept, fun a o e => (I.new a o e).elim (n a o) .inr, I.dist, I.ppk, I.npp⟩
theorem PO'.down {C : Cz} {pp : PP} {S1 : Hp} {D' : Ends} {o : Out} (g : PO' K C pp D' o) (m0 : Sb C.S0 S1) (n : ∀ a o, S1 a = some o → C.S0 a = some o ∨ C.H0 a = none) : PO' K ⟨S1, C.H0, C.pp0⟩ pp D' o := by
  cases o <;> simp only [PO'] at g ⊢
  · exact fun a S H σ e I => g a S H σ e (I.down m0 n)
  · exact fun a S H σ v e I => g a S H σ v e (I.down m0 n)
  · exact fun a S H σ p vs e I => g a S H σ p vs e (I.down m0 n)
  · exact fun a S H σ e I => g a S H σ e (I.down m0 n)
  · exact fun a S H σ e I => g a S H σ e (I.down m0 n)
theorem SS.for_ {w : TI} {g : TG} {tb : TS} {m : AM} {f : TM} {b : SM} (F : List Nat) (si : IS K w m) (sg : GS K g f) (sb : SS K tb b) : SS K (tFor w g tb) (sFor F f m b) := fun C pp S H σ E pl D' out I e q => by
  unfold sFor at e
  cases h : m (vw F E) pl with
  | none => rw [h] at e; cases e
  | some r =>
    obtain ⟨ds, p⟩ := r
    rw [h] at e
    dsimp only at e
    refine si pp _ H σ _ pl ds p _ (I.er F) h fun J S1 H1 I1 a1 j1 => ?_
    have I2 := I.fin I1 a1
    have m0 : Sb C.S0 S1 := I2.s0
    have q' : PO' K ⟨S1, C.H0, C.pp0⟩ pp D' out := q.down m0 I2.new
    refine ⟨fun i n σ' H' => ∃ pp' S' E' pl', n = ds.length - i ∧ i ≤ ds.length ∧ PpS pp pp' ∧ SR K ⟨S1, C.H0, C.pp0⟩ pp' S' H' σ' E' pl' ∧ forL f b (ds.drop i) E' pl' = some out, ⟨ds.length, pp, S1, _, p, by simp, Nat.zero_le _, PpS.refl, I2.up (Sb.refl _) m0, by simpa using e⟩, ?_⟩
    rintro i n σ' H' ⟨pp', S', E', pl', rfl, hi, hp, I3, e3⟩
    by_cases hlt : i < ds.length
    · have hd : ds.drop i = ds[i] :: ds.drop (i + 1) := List.drop_eq_getElem_cons hlt
      rw [hd] at e3
      unfold forL at e3
      obtain ⟨go, yld⟩ := j1.go i ds[i] S' H' I3.s0 I3.sub (List.getElem?_eq_getElem hlt)
      cases hg : f ds[i] E' with
      | none => rw [hg] at e3; cases e3
      | some E1 =>
        rw [hg] at e3
        dsimp only at e3
        -- what the next turn is to find
        refine .inr ⟨go, fun σ2 H2 => ∃ pp2 S2 E2 pl2, PpS pp pp2 ∧ SR K ⟨S1, C.H0, C.pp0⟩ pp2 S2 H2 σ2 E2 pl2 ∧ forL f b (ds.drop (i + 1)) E2 pl2 = some out, fun σ2 H2 ⟨pp2, S2, E2, pl2, k1, k2, k3⟩ => ⟨ds.length - (i + 1), by omega, pp2, S2, E2, pl2, rfl, hlt, k1, k2, k3⟩, fun x H2 y => ?_⟩
        obtain ⟨S2, nw, rx⟩ := yld x H2 y
        refine sg _ pp' S2 H2 σ' E' pl' ds[i] x E1 _ (I3.nw nw) rx hg fun σ3 I4 => ?_
        cases hb : b E1 pl' with
        | none => rw [hb] at e3; cases e3
        | some o =>
          rw [hb] at e3
          refine sb _ pp' S2 H2 σ3 E1 pl' _ o I4 hb ?_
          cases o with
          | nx E2 p2 => exact fun pp4 S4 H4 σ4 k I5 => ⟨pp4, S4, E2, p2, hp.trans k, I5, e3⟩
          | ct E2 p2 => exact fun pp4 S4 H4 σ4 k I5 => ⟨pp4, S4, E2, p2, hp.trans k, I5, e3⟩
          | bk E2 p2 => cases e3; exact fun pp4 S4 H4 σ4 k I5 => q' pp4 S4 H4 σ4 (hp.trans k) I5
          | rt d E2 p2 => cases e3; exact fun pp4 S4 H4 σ4 v k I5 r5 => q' pp4 S4 H4 σ4 v (hp.trans k) I5 r5
          | rtl d E2 p2 => cases e3; exact fun pp4 S4 H4 σ4 a vs k I5 => q' pp4 S4 H4 σ4 a vs (hp.trans k) I5
    · have ei : i = ds.length := by omega
      subst ei
      rw [List.drop_length] at e3
      unfold forL at e3
      cases e3
      exact .inl ⟨j1.stop _ S' H' I3.s0 I3.sub (Nat.le_refl _), q' pp' S' H' σ' hp I3⟩
theorem SS.while_ {tc : TT} {tb : TS} {c : BM} {b : SM} (n : Nat) (sc : BS K tc c) (sb : SS K tb b) : SS K (tWhile tc tb) (whL c b n) := fun C pp S H σ E pl D' out I e q => by
  refine ⟨fun n σ' H' => ∃ pp' S' E' pl', PpS pp pp' ∧ SR K C pp' S' H' σ' E' pl' ∧ whL c b n E' pl' = some out, ⟨n, pp, S, E, pl, PpS.refl, I, e⟩, ?_⟩
  rintro n σ' H' ⟨pp', S', E', pl', hp, I3, e3⟩
  cases n with
  | zero => unfold whL at e3; cases e3
  | succ n =>
    unfold whL at e3
    cases h : c E' pl' with
    | none => rw [h] at e3; cases e3
    | some r =>
      obtain ⟨t, p⟩ := r
      rw [h] at e3
      refine sc pp' _ H' σ' E' pl' t p _ I3.erA h fun S1 H1 J a1 => ?_
      obtain ⟨I4, _⟩ := I3.back J a1
      cases t with
      | false =>
        cases e3
        exact q pp' _ H1 σ' hp I4
      | true =>
        dsimp only at e3
        refine ⟨fun σ2 H2 => ∃ pp2 S2 E2 pl2, PpS pp pp2 ∧ SR K C pp2 S2 H2 σ2 E2 pl2 ∧ whL c b n E2 pl2 = some out, fun σ2 H2 k => ⟨n, Nat.lt_succ_self n, k⟩, ?_⟩
        cases hb : b E' p with
        | none => rw [hb] at e3; cases e3
        | some o =>
          rw [hb] at e3
          refine sb _ pp' _ H1 σ' E' p _ o I4 hb ?_
          cases o with
          | nx E2 p2 => exact fun pp4 S4 H4 σ4 k I5 => ⟨pp4, S4, E2, p2, hp.trans k, I5, e3⟩
          | ct E2 p2 => exact fun pp4 S4 H4 σ4 k I5 => ⟨pp4, S4, E2, p2, hp.trans k, I5, e3⟩
          | bk E2 p2 => cases e3; exact fun pp4 S4 H4 σ4 k I5 => q pp4 S4 H4 σ4 (hp.trans k) I5
          | rt d E2 p2 => cases e3; exact fun pp4 S4 H4 σ4 v k I5 r5 => q pp4 S4 H4 σ4 v (hp.trans k) I5 r5
          | rtl d E2 p2 => cases e3; exact fun pp4 S4 H4 σ4 a vs k I5 => q pp4 S4 H4 σ4 a vs (hp.trans k) I5
theorem sf_for {tg it : Expr} {body : List Stmt} {f : TM} {m : AM} {b : SM} {pos : Pos} (F : List Nat) (hp : PassesOwn (model X.prog X.w) X.A X.env X.xe) (hc : X.calm = true) (hi : IF X tg it m) (hg : GF X tg f) (hb : BkF X body b)
    (hs : ∀ x, foldedSetIterable it X.env x = pure x := by intro _; rfl) : SF X (.For tg it body [] pos) (sFor F f m b) :=
  let ⟨_, p1, s1⟩ := hi; let ⟨_, p2, s2⟩ := hg; let ⟨_, p3, s3⟩ := hb; ⟨_, ps_for hp hc p1 p2 p3 hs, SS.for_ F s1 s2 s3⟩
theorem sf_while {c : Expr} {body : List Stmt} {mc : BM} {b : SM} {pos : Pos} (n : Nat) (hp : PassesOwn (model X.prog X.w) X.A X.env X.xe) (hc : BF X c mc) (hb : BkF X body b) : SF X (.While c body [] pos) (whL mc b n) :=
  let ⟨_, p1, s1⟩ := hc; let ⟨_, p3, s3⟩ := hb; ⟨_, ps_while hp p1 p3, SS.while_ n s1 s3⟩
end

/-! ### defs -/
/-- f(..) gives m of the data; nothing that stood is changed -/
def spF (K : PySem.W.Frag) (n : Nat) (m : List D → Option D) : Sp := fun vs H Q _ => ∃ S ds d, Sb S H ∧ RpL K S ds vs ∧ ds.length = n ∧ m ds = some d ∧ ∀ v S' H', Nw S H S' H' → Rp K S' d v → Q v H'
/-- .. a new list -/
def spL (K : PySem.W.Frag) (n : Nat) (m : List D → Option (List D)) : Sp := fun vs H Q _ => ∃ S ds d, Sb S H ∧ RpL K S ds vs ∧ ds.length = n ∧ m ds = some d ∧ ∀ p us S' H', Nw S H S' H' → H p = none → S' p = none → H' p = some (.lst us) → RpL K S' d us → Q (.ref p) H'
/-- f(pool, ..) -/
def spP (K : PySem.W.Frag) (n : Nat) (m : Pl → List D → Option (D × Pl)) : Sp := fun vs H Q _ => ∃ S ds d p sc us P P', vs = .ref p :: us ∧ Sb S H ∧ H p = some (.lst [.ref sc, .int P.i, .int P.n, .int P.k]) ∧ S p = none ∧ SqL K S sc (P.scr.map V.int) ∧ RpL K S ds us ∧ ds.length + 1 = n ∧ m P ds = some (d, P') ∧
  ∀ v S' H', Sb S' H' → Ad (some (p, sc, P.scr)) S H S' H' → S' p = none → H' p = some (.lst [.ref sc, .int P'.i, .int P'.n, .int P'.k]) → P'.scr = P.scr → Rp K S' d v → Q v H'
def spPL (K : PySem.W.Frag) (n : Nat) (m : Pl → List D → Option (List D × Pl)) : Sp := fun vs H Q _ => ∃ S ds d p sc us P P', vs = .ref p :: us ∧ Sb S H ∧ H p = some (.lst [.ref sc, .int P.i, .int P.n, .int P.k]) ∧ S p = none ∧ SqL K S sc (P.scr.map V.int) ∧ RpL K S ds us ∧ ds.length + 1 = n ∧ m P ds = some (d, P') ∧
  ∀ a ws S' H', Sb S' H' → Ad (some (p, sc, P.scr)) S H S' H' → S' p = none → H' p = some (.lst [.ref sc, .int P'.i, .int P'.n, .int P'.k]) → P'.scr = P.scr → H a = none → S' a = none → H' a = some (.lst ws) → RpL K S' d ws → Q (.ref a) H'
def env0 (n : Nat) (ds : List D) : Env := ds.map Sl.val ++ List.replicate (n - ds.length) Sl.un
def runF (n : Nat) (m : SM) (ds : List D) : Option D := match m (env0 n ds) none with
  | some (.rt d _ _) => some d
  | some (.rtl xs _ _) => some (.lst xs)
  | some (.nx _ _) => some .non
  | _ => none
def runL (n : Nat) (m : SM) (ds : List D) : Option (List D) := match m (env0 n ds) none with
  | some (.rtl xs _ _) => some xs
  | _ => none
def runP (n : Nat) (m : SM) (P : Pl) (ds : List D) : Option (D × Pl) := match m (Sl.pool :: env0 (n - 1) ds) (some P) with
  | some (.rt d _ (some P')) => some (d, P')
  | some (.rtl xs _ (some P')) => some (.lst xs, P')
  | some (.nx _ (some P')) => some (.non, P')
  | _ => none
def runPL (n : Nat) (m : SM) (P : Pl) (ds : List D) : Option (List D × Pl) := match m (Sl.pool :: env0 (n - 1) ds) (some P) with
  | some (.rtl xs _ (some P')) => some (xs, P')
  | _ => none
section
variable {K : PySem.W.Frag}
theorem env0_rel {S : Hp} {ds : List D} {vs : List V} {pp : PP} {H : Hp} {H0 : Hp} (N : List Str) (r : RpL K S ds vs) : ∀ (i : Nat) (sl : Sl), (env0 N.length ds)[i]? = some sl → SlS K H0 pp S H sl (L2.start N vs)[i]? := fun i sl e => by
  unfold env0 at e
  unfold L2.start
  have hl := r.len
  by_cases hi : i < ds.length
  · rw [List.getElem?_append_left (by rw [List.length_map]; exact hi), List.getElem?_map] at e
    rw [List.getElem?_append_left (by rw [List.length_map, hl]; exact hi), List.getElem?_map]
    cases h : ds[i]? with
    | none => rw [h] at e; cases e
    | some d =>
      rw [h] at e; cases e
      obtain ⟨v, g1, g2⟩ := r.get h
      rw [g1]
      unfold SlS
      rw [if_neg (by intro z; cases z)]
      exact ⟨v, rfl, g2⟩
  · rw [List.getElem?_append_right (by rw [List.length_map]; omega)] at e
    have := List.mem_of_getElem? e
    rw [List.mem_replicate] at this
    rw [this.2]
    exact SlS.un
theorem env0_own {ds : List D} {n i : Nat} {sl : Sl} (e : (env0 n ds)[i]? = some sl) : isOwn sl = false := by
  unfold env0 at e
  have h := List.mem_of_getElem? e
  rcases List.mem_append.mp h with h | h
  · obtain ⟨d, _, rfl⟩ := List.mem_map.mp h; rfl
  · rw [(List.mem_replicate.mp h).2]; rfl
theorem start_len {ds : List D} {N : List Str} {vs : List V} (h : vs.length = ds.length) (hn : ds.length ≤ N.length) : (env0 N.length ds).length = (L2.start N vs).length := by
  unfold env0 L2.start
  rw [List.length_append, List.length_append, List.length_map, List.length_map, List.length_replicate, List.length_replicate, h]
theorem SR.start {S H : Hp} {ds : List D} {vs : List V} (N : List Str) (hs : Sb S H) (r : RpL K S ds vs) (hn : ds.length ≤ N.length) : SR K ⟨S, H, none⟩ none S H (L2.start N vs) (env0 N.length ds) none := by
  refine ⟨hs, start_len r.len hn, env0_rel N r, fun p sc z => ?_, fun p sc z => ?_, fun P z => ?_, Sb.refl _, fun _ _ h _ => h, fun _ o h => ⟨o, h⟩, fun _ _ h => .inl h, fun i j a b p _ ha _ oa _ _ _ => ?_, .inl rfl, fun _ => rfl⟩
  · cases z
  · cases z
  · cases z
  · rw [env0_own ha] at oa; cases oa
theorem SR.nwF {S H S' H' : Hp} {σ : L2.St} {E : Env} {pl : Option Pl} {pp : PP} (I : SR K ⟨S, H, none⟩ pp S' H' σ E pl) : Nw S H S' H' :=
  ⟨I.sub, I.s0, fun a o e => I.keep a o e (by intro _ z; cases z), I.new⟩
variable {P : Program} {w : World} {mg : Str → Option Value} {base : Heap}
theorem take_len {N ps : List Str} (h : N.take ps.length = ps) : ps.length ≤ N.length := by
  have := congrArg List.length h
  rw [List.length_take] at this
  omega
abbrev Body (P : Program) (w : World) (K : PySem.W.Frag) (mg : Str → Option Value) (base : Heap) (N : List Str) (qual : Str) (st : Stmt) (f : Addr) (k : Nat) (m : SM) : Prop :=
  ∀ (cdv : Value) (A : Around) (outer : List PySem.Env) (s : Shared) (H : Hp) (E : XK), Room k (A.deeper (envOfC qual (defScope st) s.heap.objs.size f cdv)) → BkF (cxOf CX0 P w K mg base N qual (defScope st) f cdv A outer s H E).nox (defBody st) m
theorem fn_F {x qual : Str} {st : Stmt} {f : Addr} {fd : FuncData} {N ps : List Str} {k : Nat} {m : SM} (F : Fun K x qual st f fd) (Sc : FnScope N ps (defScope st)) (hb : Body P w K mg base N qual st f k m) : FnOk P w K mg base CX0 (k + 1) f fd ps (spF K ps.length (runF N.length m)) := by
  refine F.ok Sc (fun vs H Q E h => ?_) (fun cdv A outer s H vs Q E hr h => ?_)
  · obtain ⟨S, ds, d, _, r, hl, _⟩ := h
    rw [r.len, hl]
  · obtain ⟨S, ds, d, hs, r, hl, hm, q⟩ := h
    obtain ⟨t, p, s'⟩ := hb cdv A outer s H E hr
    refine ⟨t, p, ?_⟩
    have I := SR.start N hs r (by rw [hl]; exact take_len Sc.pre)
    unfold runF at hm
    cases e : m (env0 N.length ds) none with
    | none => rw [e] at hm; cases hm
    | some o =>
      rw [e] at hm
      refine s' _ _ S H _ _ none _ o I e ?_
      cases o with
      | rt d' E' pl' => cases hm; exact fun pp' S' H' σ' v _ I' r' => q v S' H' I'.nwF r'
      | rtl xs E' pl' =>
        cases hm
        intro pp' S' H' σ' a vs' _ I' h1 h2 h3 h4 r'
        exact q _ _ H' (I'.nwF.freeze h3 h1 h2) (rp_lst.mpr ⟨a, vs', rfl, upd_same, r'.mono (sb_upd h2)⟩)
      | nx E' pl' => cases hm; exact fun pp' S' H' σ' _ I' => q _ S' H' I'.nwF (rp_non.mpr rfl)
      | bk E' pl' => cases hm
      | ct E' pl' => cases hm
theorem fn_L {x qual : Str} {st : Stmt} {f : Addr} {fd : FuncData} {N ps : List Str} {k : Nat} {m : SM} (F : Fun K x qual st f fd) (Sc : FnScope N ps (defScope st)) (hb : Body P w K mg base N qual st f k m) : FnOk P w K mg base CX0 (k + 1) f fd ps (spL K ps.length (runL N.length m)) := by
  refine F.ok Sc (fun vs H Q E h => ?_) (fun cdv A outer s H vs Q E hr h => ?_)
  · obtain ⟨S, ds, d, _, r, hl, _⟩ := h
    rw [r.len, hl]
  · obtain ⟨S, ds, d, hs, r, hl, hm, q⟩ := h
    obtain ⟨t, p, s'⟩ := hb cdv A outer s H E hr
    refine ⟨t, p, ?_⟩
    have I := SR.start N hs r (by rw [hl]; exact take_len Sc.pre)
    unfold runL at hm
    cases e : m (env0 N.length ds) none with
    | none => rw [e] at hm; cases hm
    | some o =>
      rw [e] at hm
      refine s' _ _ S H _ _ none _ o I e ?_
      cases o with
      | rtl xs E' pl' =>
        cases hm
        intro pp' S' H' σ' a vs' _ I' h1 h2 h3 h4 r'
        exact q a vs' S' H' I'.nwF h3 h2 h1 r'
      | rt d' E' pl' => cases hm
      | nx E' pl' => cases hm
      | bk E' pl' => cases hm
      | ct E' pl' => cases hm
/-! calls of such defs -/
def mCallL (g : List D → Option (List D)) (m : AM) : AM := seqM m fun xs => lftM (g xs)
end
/-- how many -/
def ALen (m : AM) (n : Nat) : Prop := ∀ E pl ds p, m E pl = some (ds, p) → ds.length = n
theorem al_nil : ALen aNil 0 := fun E pl ds p e => by obtain ⟨rfl, _⟩ := oks_some e; rfl
theorem al_cons {ma : EM} {mr : AM} {n : Nat} (h : ALen mr n) : ALen (aCons ma mr) (n + 1) := fun E pl ds p e => by
  obtain ⟨x, p1, e1, f1⟩ := seqM_some e
  obtain ⟨xs, p2, e2, f2⟩ := seqM_some f1
  obtain ⟨rfl, _⟩ := oks_some f2
  rw [List.length_cons, h _ _ _ _ e2]
end Dn
set_option Elab.async false
set_option linter.all false
set_option maxRecDepth 100000
set_option maxHeartbeats 2000000
namespace Dn
open PySem PySem.Spec PyProof.Rows L2

/-! ### the pool -/
section
variable {K : PySem.W.Frag} {X : Cx} {C : Cz} {pp : PP} {S H S' H' : Hp} {σ : L2.St} {E : Env} {pl pl' : Option Pl}
def plIx (P : Pl) : Int → Option D
  | 0 => some (.scr P.scr)
  | 1 => some (.int P.i)
  | 2 => some (.int P.n)
  | 3 => some (.int P.k)
  | _ => none
def mPix (i : Nat) (j : Int) : EM := fun E pl => match E[i]?, pl with
  | some .pool, some P => (plIx P j).map fun d => (d, some P)
  | _, _ => none
theorem at4 {α : Type} (a b c d : α) : atI [a, b, c, d] 0 = some a ∧ atI [a, b, c, d] 1 = some b ∧ atI [a, b, c, d] 2 = some c ∧ atI [a, b, c, d] 3 = some d := ⟨rfl, rfl, rfl, rfl⟩
theorem ef_pix {x : Str} {p1 p2 p3 : Pos} {kk : Nat} (i : Nat) (j : Int) (hN : X.N[i]? = some x := by rfl) (hv : Vis X.env.scope x := by first | exact Or.inl rfl | exact Or.inr (Or.inl rfl) | exact Or.inr (Or.inr rfl)) (hd : (x == ("__debug__" : Str)) = false := by decide)
    (hcd : (x == ("__classdict__" : Str)) = false := by decide) : EF X (.Subscript (.Name x p1) (.Constant (.int j) kk p2) p3) (mPix i j) := by
  refine ⟨_, pe_ix ix_list (pe_var hN hv hd hcd) pe_int (fun _ _ => rfl), fun pp S H σ E pl d pl' Q I e q => ?_⟩
  unfold mPix at e
  split at e
  · rename_i P hE
    cases hP : plIx P j with
    | none => rw [hP] at e; cases e
    | some d' =>
      rw [hP] at e; cases e
      obtain ⟨p, sc, e1, e2, e3⟩ := I.pool P rfl
      obtain ⟨p', sc', e4, e5⟩ := I.env i _ hE
      rw [e1] at e4; cases e4
      obtain ⟨z0, z1, z2, z3⟩ := at4 (V.ref sc.1) (.int P.i) (.int P.n) (.int P.k)
      have key : ∀ v, atI [V.ref sc.1, .int P.i, .int P.n, .int P.k] j = some v → Rp X.K S d v → tOp (rIxL X.K) (tVar i) (tC (.int j)) σ H Q := fun v h1 h2 =>
        ⟨_, e5, p, _, j, v, rfl, rfl, .inl (.inl e2), h1, q v S H I Ad.refl h2⟩
      unfold plIx at hP
      split at hP <;> cases hP
      · exact key _ z0 (rp_scr.mpr ⟨_, rfl, by rw [e3]; exact (I.pin p sc e1).2.2⟩)
      · exact key _ z1 (rp_int.mpr rfl)
      · exact key _ z2 (rp_int.mpr rfl)
      · exact key _ z3 (rp_int.mpr rfl)
  · cases e
def plSet (P : Pl) (j z : Int) : Option Pl := match j with
  | 1 => some { P with i := z }
  | 2 => some { P with n := z }
  | 3 => some { P with k := z }
  | _ => none
theorem SR.poolUpd (I : SR K C pp S H σ E pl) {p : Addr} {sc : Addr × List Int} (e : pp = some (p, sc)) {P : Pl} {vs : List V} (hv : vs = [.ref sc.1, .int P.i, .int P.n, .int P.k]) (hs : P.scr = sc.2) : SR K C pp S (L2.upd H p (.lst vs)) σ E (some P) := by
  have h2 := (I.pin p sc e).2.1
  refine ⟨fun a u e' => ?_, I.len, fun i sl e' => ?_, fun q sc' eq => ?_, I.new', fun P' eP => ?_, I.s0, fun a u e' n => ?_, fun a u e' => ?_, I.new, I.dist, I.ppk, fun z => by cases z⟩
  · have ne : a ≠ p := fun z => by rw [z, h2] at e'; cases e'
    rw [upd_ne ne]; exact I.sub a u e'
  · unfold SlS
    cases ho : isOwn sl with
    | false => rw [if_neg (by decide)]; exact I.slr e' ho
    | true =>
      rw [if_pos rfl]
      obtain ⟨q, o, g1, g2, g3, g4, g5, g6⟩ := I.own e' ho
      have ne : q ≠ p := fun z => by subst z; exact g6 sc e
      exact ⟨q, o, g1, by rw [upd_ne ne]; exact g2, g3, g4, g5, g6⟩
  · obtain ⟨⟨u, g1⟩, g2⟩ := I.pin q sc' eq
    refine ⟨?_, g2⟩
    by_cases ne : q = p
    · subst ne; exact ⟨_, upd_same⟩
    · exact ⟨u, by rw [upd_ne ne]; exact g1⟩
  · cases eP
    exact ⟨p, sc, e, by rw [upd_same, hv], hs⟩
  · by_cases ne : a = p
    · subst ne
      rcases I.new' a sc e with z | z
      · exact absurd (z.trans e) (n sc)
      · rw [z] at e'; cases e'
    · rw [upd_ne ne]; exact I.keep a u e' n
  · by_cases ne : a = p
    · subst ne; exact ⟨_, upd_same⟩
    · rw [upd_ne ne]; exact I.kept a u e'
def sPset (i : Nat) (j : Int) (m : EM) : SM := fun E pl => match m E pl with
  | some (.int z, some P) => match E[i]? with
    | some .pool => (plSet P j z).map fun P' => .nx E (some P')
    | _ => none
  | _ => none
theorem SS.pset {te : TE} {i : Nat} {j : Int} {m : EM} (s : ES K te m) : SS K (tAsg te (gSub (tVar i) (tC (.int j)) rSetL)) (sPset i j m) := fun C pp S H σ E pl D' out I e q => by
  unfold sPset at e
  split at e <;> try cases e
  rename_i z P h
  split at e <;> try cases e
  rename_i hE
  cases hP : plSet P j z with
  | none => rw [hP] at e; cases e
  | some P' =>
    rw [hP] at e; cases e
    refine s pp _ H σ E pl _ _ _ I.erA h fun v S1 H1 J a1 r1 => ?_
    obtain ⟨I1, _⟩ := I.back J a1
    rw [rp_int] at r1; subst r1
    obtain ⟨p, sc, e1, e2, e3⟩ := I1.pool P rfl
    obtain ⟨p', sc', e4, e5⟩ := I1.slr hE rfl
    rw [e1] at e4; cases e4
    unfold plSet at hP
    refine ⟨_, e5, p, _, j, j.toNat, rfl, rfl, e2, ?_, ?_⟩
    · split at hP <;> cases hP <;> rfl
    · have key : ∀ vs, vs = [V.ref sc.1, .int P'.i, .int P'.n, .int P'.k] → P'.scr = sc.2 → D'.nx σ (L2.upd H1 p (.lst vs)) := fun vs h1 h2 => q pp _ _ σ PpS.refl (I1.poolUpd e1 h1 h2)
      split at hP <;> cases hP
      · exact key _ rfl e3
      · exact key _ rfl e3
      · exact key _ rfl e3
theorem sf_pset {st : Stmt} {e : Expr} {i : Nat} {j : Int} {m : EM} (he : EF X e m) (mk : ∀ te, PE X e te → PS X st (tAsg te (gSub (tVar i) (tC (.int j)) rSetL))) : SF X st (sPset i j m) :=
  let ⟨_, p, s⟩ := he; ⟨_, mk _ p, SS.pset s⟩
/-- pool = f(script): a new list of the script and three ints -/
def sPnew (i : Nat) (m : AM) : SM := fun E pl => match m (vw [] E) pl with
  | some ([.scr ns, .int a, .int b, .int c], none) => some (.nx ((frz [] E).set i .pool) (some ⟨ns, a, b, c⟩))
  | _ => none
theorem SS.pnew {te : TE} {i : Nat} {m : AM} (s : LS K te m) : SS K (tAsg te (gName i)) (sPnew i m) := fun C pp S H σ E pl D' out I e q => by
  unfold sPnew at e
  split at e <;> try cases e
  rename_i ns a b c h
  refine s pp _ H σ _ pl _ _ _ (I.er []) h fun p vs S1 H1 J a1 hp sp hq r1 => ?_
  have I1 := I.fin J a1
  have h0 : pp = none := I1.npp rfl
  subst h0
  obtain ⟨v0, r, rfl, g0, r1⟩ := r1.cons_inv
  obtain ⟨v1, r, rfl, g1, r1⟩ := r1.cons_inv
  obtain ⟨v2, v3, rfl, g2, g3⟩ := rpl_two r1
  rw [rp_int] at g1 g2 g3
  rw [rp_scr] at g0
  obtain ⟨sc, rfl, g0⟩ := g0
  subst g1 g2 g3
  have np : C.H0 p = none := h0_none I hp
  have c0 : C.pp0 = none := by
    rcases I1.ppk with z | z
    · exact z
    · exact z.symm
  have fr := own_none I hp []
  have nr : ∀ (j : Nat) (sl : Sl), (frz [] E)[j]? = some sl → isOwn sl = true → ∃ q o, σ[j]? = some (some (.ref q)) ∧ H1 q = some o ∧ OwnC K S1 sl o ∧ S1 q = none ∧ C.H0 q = none ∧ q ≠ p := fun j sl e ho => by
    obtain ⟨q, o, k1, k2, k3, k4, k5, _⟩ := I1.own e ho
    exact ⟨q, o, k1, k2, k3, k4, k5, fun z => fr j sl e ho (z ▸ k1)⟩
  refine q (some (p, sc, ns)) S1 H1 _ (.inl rfl) ?_
  have get : ∀ {j : Nat} {b : Sl}, ((frz [] E).set i .pool)[j]? = some b → (j = i ∧ b = .pool ∧ (σ.set i (some (.ref p)))[j]? = some (some (.ref p))) ∨ (j ≠ i ∧ (frz [] E)[j]? = some b ∧ (σ.set i (some (.ref p)))[j]? = σ[j]?) := fun {j b} e => by
    by_cases hj : i = j
    · subst hj
      by_cases hl : i < (frz [] E).length
      · rw [List.getElem?_set_self hl] at e
        cases e
        exact .inl ⟨rfl, rfl, List.getElem?_set_self (by rw [← I1.len]; exact hl)⟩
      · rw [List.getElem?_eq_none_iff.mpr (by rw [List.length_set]; omega)] at e; cases e
    · rw [List.getElem?_set_ne hj] at e
      exact .inr ⟨Ne.symm hj, e, List.getElem?_set_ne hj⟩
  refine ⟨I1.sub, by rw [List.length_set, List.length_set]; exact I1.len, fun j sl e => ?_, fun p' sc' e => ?_, fun p' sc' e => ?_, fun P e => ?_, I1.s0, I1.keep, I1.kept, I1.new, fun j k a b q hjk ha hb oa ob sa sb => ?_, .inl c0, fun z => by cases z⟩
  · rcases get e with ⟨_, e2, e3⟩ | ⟨_, e2, e3⟩
    · rw [e3]; subst e2
      unfold SlS
      rw [if_neg (by intro z; cases z)]
      exact ⟨p, _, rfl, rfl⟩
    · rw [e3]
      unfold SlS
      cases ho : isOwn sl with
      | true =>
        rw [if_pos rfl]
        obtain ⟨q, o, k1, k2, k3, k4, k5, k6⟩ := nr j sl e2 ho
        exact ⟨q, o, k1, k2, k3, k4, k5, fun sc' z => by cases z; exact k6 rfl⟩
      | false =>
        rw [if_neg (by decide)]
        have z := I1.slr e2 ho
        cases sl with
        | pool => obtain ⟨_, _, z, _⟩ := z; cases z
        | un => exact trivial
        | val d => exact z
        | own xs => cases ho
        | owd ks vs => cases ho
  · cases e; exact ⟨⟨_, hq⟩, sp, g0⟩
  · cases e; exact .inr np
  · cases e; exact ⟨p, _, rfl, hq, rfl⟩
  · rcases get ha with ⟨e1, e2, e3⟩ | ⟨e1, e2, e3⟩
    · subst e2; cases oa
    · rcases get hb with ⟨g1, g2, g3⟩ | ⟨g1, g2, g3⟩
      · subst g2; cases ob
      · rw [e3] at sa; rw [g3] at sb
        exact I1.dist j k a b q hjk e2 g2 oa ob sa sb
theorem AsL.pnew {st : Stmt} {i : Nat} {m : AM} (h : AsL X st i m) : SF X st (sPnew i m) := let ⟨_, p, s⟩ := h; ⟨_, p, SS.pnew s⟩

/-! defs that draw -/
theorem SR.startP {ds : List D} {vs : List V} {p sc : Addr} {P : Pl} {n : Nat} (N : List Str) (hs : Sb S H) (hp : H p = some (.lst [.ref sc, .int P.i, .int P.n, .int P.k])) (sp : S p = none) (hsc : SqL K S sc (P.scr.map V.int)) (r : RpL K S ds vs) (hn : ds.length + 1 ≤ N.length) :
    SR K ⟨S, H, some (p, sc, P.scr)⟩ (some (p, sc, P.scr)) S H (L2.start N (.ref p :: vs)) (Sl.pool :: env0 (N.length - 1) ds) (some P) := by
  have hst : L2.start N (.ref p :: vs) = some (.ref p) :: (vs.map some ++ List.replicate (N.length - 1 - vs.length) none) := by
    unfold L2.start
    rw [List.map_cons, List.length_cons, List.cons_append]
    have : N.length - (vs.length + 1) = N.length - 1 - vs.length := by omega
    rw [this]
  rw [hst]
  have hl := r.len
  obtain ⟨N', hN⟩ : ∃ N' : List Str, N'.length = N.length - 1 := ⟨N.tail, by rw [List.length_tail]⟩
  have er := env0_rel (pp := some (p, sc, P.scr)) (H := H) (H0 := H) N' r
  rw [hN] at er
  have st' : (vs.map some ++ List.replicate (N.length - 1 - vs.length) none) = L2.start N' vs := by unfold L2.start; rw [hN]
  rw [st']
  refine ⟨hs, ?_, fun i sl e => ?_, fun p' sc' z => ?_, fun p' sc' z => ?_, fun P' z => ?_, Sb.refl _, fun _ _ h _ => h, fun _ o h => ⟨o, h⟩, fun _ _ h => .inl h, fun i j a b p' _ ha _ oa _ _ _ => ?_, .inr rfl, fun z => by cases z⟩
  · rw [List.length_cons, List.length_cons, ← hN, start_len hl (by omega)]
  · cases i with
    | zero =>
      cases e
      unfold SlS
      rw [if_neg (by intro z; cases z)]
      exact ⟨p, _, rfl, rfl⟩
    | succ i => exact er i sl (by simpa using e)
  · cases z; exact ⟨⟨_, hp⟩, sp, hsc⟩
  · cases z; exact .inl rfl
  · cases z; exact ⟨p, _, rfl, hp, rfl⟩
  · cases i with
    | zero => cases ha; cases oa
    | succ i =>
      rw [env0_own (ds := ds) (n := N.length - 1) (i := i) (by simpa using ha)] at oa; cases oa
theorem SR.adP {p sc : Addr} {ns : List Int} {P' : Pl} (I : SR K ⟨S, H, some (p, sc, ns)⟩ pp S' H' σ E (some P')) : Ad (some (p, sc, ns)) S H S' H' ∧ S' p = none ∧ H' p = some (.lst [.ref sc, .int P'.i, .int P'.n, .int P'.k]) ∧ P'.scr = ns := by
  rcases I.ppk with z | z
  · cases z
  · have z' : pp = some (p, sc, ns) := z
    subst z'
    refine ⟨⟨I.s0, fun a o e n => I.keep a o e n, I.kept, I.new⟩, (I.pin p _ rfl).2.1, ?_⟩
    obtain ⟨p', sc', e1, e2, e3⟩ := I.pool P' rfl
    cases e1
    exact ⟨e2, e3⟩
variable {P : Program} {w : World} {mg : Str → Option Value} {base : Heap}
theorem fn_P {x qual : Str} {st : Stmt} {f : Addr} {fd : FuncData} {N ps : List Str} {k : Nat} {m : SM} (F : Fun K x qual st f fd) (Sc : FnScope N ps (defScope st)) (hb : Body P w K mg base N qual st f k m) : FnOk P w K mg base CX0 (k + 1) f fd ps (spP K ps.length (runP N.length m)) := by
  refine F.ok Sc (fun vs H Q E h => ?_) (fun cdv A outer s H vs Q E hr h => ?_)
  · obtain ⟨S, ds, d, p, sc, us, P, P', rfl, _, _, _, _, r, hl, _⟩ := h
    rw [List.length_cons, r.len, hl]
  · obtain ⟨S, ds, d, p, sc, us, P, P', rfl, hs, hp, sp, hsc, r, hl, hm, q⟩ := h
    obtain ⟨t, pb, s'⟩ := hb cdv A outer s H E hr
    refine ⟨t, pb, ?_⟩
    have I := SR.startP (n := 0) N hs hp sp hsc r (by rw [hl]; exact take_len Sc.pre)
    unfold runP at hm
    cases e : m (Sl.pool :: env0 (N.length - 1) ds) (some P) with
    | none => rw [e] at hm; cases hm
    | some o =>
      rw [e] at hm
      refine s' _ _ S H _ _ _ _ o I e ?_
      cases o with
      | rt d' E' pl' =>
        cases pl' with
        | none => cases hm
        | some P2 =>
          cases hm
          intro pp' S' H' σ' v _ I' r'
          obtain ⟨k1, k2, k3, k4⟩ := I'.adP
          exact q v S' H' I'.sub k1 k2 k3 k4 r'
      | rtl xs E' pl' =>
        cases pl' with
        | none => cases hm
        | some P2 =>
          cases hm
          intro pp' S' H' σ' a vs' hpp I' h1 h2 h3 h4 r'
          obtain ⟨k1, k2, k3, k4⟩ := I'.adP
          have ne : p ≠ a := fun z => by
            subst z
            have h3' : H p = none := h3
            rw [hp] at h3'; cases h3'
          refine q _ (upd S' a (.lst vs')) H' (fun b u e' => ?_) ⟨k1.s.trans (sb_upd h2), k1.h, k1.t, fun b u e' => ?_⟩ (by rw [upd_ne ne]; exact k2) k3 k4 (rp_lst.mpr ⟨a, vs', rfl, upd_same, r'.mono (sb_upd h2)⟩)
          · by_cases hb : b = a
            · subst hb; rw [upd_same] at e'; cases e'; exact h1
            · rw [upd_ne hb] at e'; exact I'.sub b u e'
          · by_cases hb : b = a
            · subst hb; exact .inr h3
            · rw [upd_ne hb] at e'; exact k1.n b u e'
      | nx E' pl' =>
        cases pl' with
        | none => cases hm
        | some P2 =>
          cases hm
          intro pp' S' H' σ' _ I'
          obtain ⟨k1, k2, k3, k4⟩ := I'.adP
          exact q _ S' H' I'.sub k1 k2 k3 k4 (rp_non.mpr rfl)
      | bk E' pl' => cases hm
      | ct E' pl' => cases hm
theorem fn_PL {x qual : Str} {st : Stmt} {f : Addr} {fd : FuncData} {N ps : List Str} {k : Nat} {m : SM} (F : Fun K x qual st f fd) (Sc : FnScope N ps (defScope st)) (hb : Body P w K mg base N qual st f k m) : FnOk P w K mg base CX0 (k + 1) f fd ps (spPL K ps.length (runPL N.length m)) := by
  refine F.ok Sc (fun vs H Q E h => ?_) (fun cdv A outer s H vs Q E hr h => ?_)
  · obtain ⟨S, ds, d, p, sc, us, P, P', rfl, _, _, _, _, r, hl, _⟩ := h
    rw [List.length_cons, r.len, hl]
  · obtain ⟨S, ds, d, p, sc, us, P, P', rfl, hs, hp, sp, hsc, r, hl, hm, q⟩ := h
    obtain ⟨t, pb, s'⟩ := hb cdv A outer s H E hr
    refine ⟨t, pb, ?_⟩
    have I := SR.startP (n := 0) N hs hp sp hsc r (by rw [hl]; exact take_len Sc.pre)
    unfold runPL at hm
    cases e : m (Sl.pool :: env0 (N.length - 1) ds) (some P) with
    | none => rw [e] at hm; cases hm
    | some o =>
      rw [e] at hm
      refine s' _ _ S H _ _ _ _ o I e ?_
      cases o with
      | rtl xs E' pl' =>
        cases pl' with
        | none => cases hm
        | some P2 =>
          cases hm
          intro pp' S' H' σ' a vs' hpp I' h1 h2 h3 h4 r'
          obtain ⟨k1, k2, k3, k4⟩ := I'.adP
          exact q a vs' S' H' I'.sub k1 k2 k3 k4 h3 h2 h1 r'
      | rt d' E' pl' => cases pl' <;> cases hm
      | nx E' pl' => cases pl' <;> cases hm
      | bk E' pl' => cases pl' <;> cases hm
      | ct E' pl' => cases pl' <;> cases hm
def mCallP (i : Nat) (g : Pl → List D → Option (D × Pl)) (m : AM) : EM := fun E pl => match E[i]? with
  | some .pool => match m E pl with
    | some (xs, some P) => (g P xs).map fun r => (r.1, some r.2)
    | _ => none
  | _ => none
def mCallPL (i : Nat) (g : Pl → List D → Option (List D × Pl)) (m : AM) : AM := fun E pl => match E[i]? with
  | some .pool => match m E pl with
    | some (xs, some P) => (g P xs).map fun r => (r.1, some r.2)
    | _ => none
  | _ => none
theorem ER.pool2 {P P' : Pl} {p sc : Addr} (I : ER K pp S H σ E (some P)) (e : pp = some (p, sc, P.scr)) (hs : Sb S' H') (a : Ad pp S H S' H') (sp : S' p = none) (hp : H' p = some (.lst [.ref sc, .int P'.i, .int P'.n, .int P'.k])) (h : P'.scr = P.scr) : ER K pp S' H' σ E (some P') := by
  subst e
  refine ⟨hs, I.len, fun i sl e => (I.env i sl e).mono a.s, fun q sc' e => ?_, fun Q e => ?_, fun z => by cases z⟩
  · cases e; exact ⟨⟨_, hp⟩, sp, sb_l a.s (I.pin p _ rfl).2.2⟩
  · cases e; exact ⟨p, _, rfl, hp, h⟩
variable {k : Nat} {f : Addr} {fd : FuncData} {ps : List Str} {x y : Str} {p p0 pos : Pos} {es : List Expr}
theorem ef_callP {m : Pl → List D → Option (D × Pl)} {ma : AM} (n i : Nat) (F : FnOk X.prog X.w X.K X.mg X.base CX0 k f fd ps (spP X.K (n + 1) m)) (hr : Room k X.A) (hg : Gl X x) (hm : X.mg x = some (.ref f)) (hk : PySem.W.keepIn X.K (.ref f) = true) (hb : Binds X.K fd ps [])
    (hN : X.N[i]? = some y) (hv : Vis X.env.scope y) (ha : AF X es ma) (hlen : ALen ma n) (hd : (y == ("__debug__" : Str)) = false := by decide) (hcd : (y == ("__classdict__" : Str)) = false := by decide) (hdb : (x == ("__debug__" : Str)) = false := by decide)
    (hpl : nsts es = true := by rfl) : EF X (.Call (.Name x p) (.Name y p0 :: es) [] pos) (mCallP i m ma) := by
  obtain ⟨t, pa, s⟩ := ha
  refine ⟨_, pe_call F hr hg hm hk hb .nil pass0 (pa_cons (pe_var hN hv hd hcd) pa (star_nst rfl)) hdb (star_nst rfl) (back_nst hpl), fun pp S H σ E pl d pl' Q I e q => ?_⟩
  unfold mCallP at e
  split at e <;> try cases e
  rename_i hE
  split at e <;> try cases e
  rename_i xs P h
  cases hP : m P xs with
  | none => rw [hP] at e; cases e
  | some r =>
    rw [hP] at e; cases e
    obtain ⟨a, sc, e1, e2⟩ := I.env i _ hE
    refine ⟨_, e2, ?_⟩
    refine s pp S H σ E pl xs _ _ I h fun vs S1 H1 I1 a1 r1 => ?_
    obtain ⟨a', sc', g1, g2, g3⟩ := I1.pool P rfl
    rw [e1] at g1; cases g1
    show spP X.K (n + 1) m (V.ref a :: vs ++ []) H1 Q E0
    rw [List.append_nil]
    obtain ⟨sc1, sc2⟩ := sc
    dsimp only at g3
    subst g3
    refine ⟨S1, xs, r.1, a, sc1, vs, P, r.2, rfl, I1.sub, g2, (I1.pin a _ e1).2.1, (I1.pin a _ e1).2.2, r1, by rw [hlen _ _ _ _ h], hP, fun v S2 H2 hs ad sp hp hsc r2 => ?_⟩
    subst e1
    exact q v S2 H2 (I1.pool2 rfl hs ad sp hp hsc) (a1.trans ad) r2
theorem lf_callPL {m : Pl → List D → Option (List D × Pl)} {ma : AM} (n i : Nat) (F : FnOk X.prog X.w X.K X.mg X.base CX0 k f fd ps (spPL X.K (n + 1) m)) (hr : Room k X.A) (hg : Gl X x) (hm : X.mg x = some (.ref f)) (hk : PySem.W.keepIn X.K (.ref f) = true) (hb : Binds X.K fd ps [])
    (hN : X.N[i]? = some y) (hv : Vis X.env.scope y) (ha : AF X es ma) (hlen : ALen ma n) (hd : (y == ("__debug__" : Str)) = false := by decide) (hcd : (y == ("__classdict__" : Str)) = false := by decide) (hdb : (x == ("__debug__" : Str)) = false := by decide)
    (hpl : nsts es = true := by rfl) : LF X (.Call (.Name x p) (.Name y p0 :: es) [] pos) (mCallPL i m ma) := by
  obtain ⟨t, pa, s⟩ := ha
  refine ⟨_, pe_call F hr hg hm hk hb .nil pass0 (pa_cons (pe_var hN hv hd hcd) pa (star_nst rfl)) hdb (star_nst rfl) (back_nst hpl), fun pp S H σ E pl d pl' Q I e q => ?_⟩
  unfold mCallPL at e
  split at e <;> try cases e
  rename_i hE
  split at e <;> try cases e
  rename_i xs P h
  cases hP : m P xs with
  | none => rw [hP] at e; cases e
  | some r =>
    rw [hP] at e; cases e
    obtain ⟨a, sc, e1, e2⟩ := I.env i _ hE
    refine ⟨_, e2, ?_⟩
    refine s pp S H σ E pl xs _ _ I h fun vs S1 H1 I1 a1 r1 => ?_
    obtain ⟨a', sc', g1, g2, g3⟩ := I1.pool P rfl
    rw [e1] at g1; cases g1
    show spPL X.K (n + 1) m (V.ref a :: vs ++ []) H1 Q E0
    rw [List.append_nil]
    obtain ⟨sc1, sc2⟩ := sc
    dsimp only at g3
    subst g3
    refine ⟨S1, xs, r.1, a, sc1, vs, P, r.2, rfl, I1.sub, g2, (I1.pin a _ e1).2.1, (I1.pin a _ e1).2.2, r1, by rw [hlen _ _ _ _ h], hP, fun b ws S2 H2 hs ad sp hp hsc hn sn hw r2 => ?_⟩
    subst e1
    exact q b ws S2 H2 (I1.pool2 rfl hs ad sp hp hsc) (a1.trans ad) (none_ad a1 hn) sn hw r2
end
end Dn
set_option Elab.async false
set_option linter.all false
set_option maxRecDepth 100000
set_option maxHeartbeats 2000000
namespace Dn
open PySem PySem.Spec PyProof.Rows L2

/-! ### a def under its name -/
structure Fn (P : Program) (w : World) (K : PySem.W.Frag) (mg : Str → Option Value) (base : Heap) (x : Str) (k : Nat) (ps : List Str) (sp : Sp) : Prop where
  ex : ∃ f fd, FnOk P w K mg base CX0 k f fd ps sp ∧ mg x = some (.ref f) ∧ PySem.W.keepIn K (.ref f) = true ∧ Binds K fd ps []
section
variable {X : Cx} {k j : Nat} {ps : List Str} {x y : Str} {p p0 pos : Pos} {e : Expr} {es : List Expr}
theorem ef_f {m : List D → Option D} {ma : AM} (n : Nat) (F : Fn X.prog X.w X.K X.mg X.base x k ps (spF X.K n m)) (hr : Room j X.A) (hk : k ≤ j) (hg : Gl X x) (ha : AF X (e :: es) ma) (hl : ALen ma n)
    (hdb : (x == ("__debug__" : Str)) = false := by decide) (he : nst e = true := by rfl) (hpl : nsts es = true := by rfl) : EF X (.Call (.Name x p) (e :: es) [] pos) (mCall m ma) := by
  obtain ⟨f, fd, F1, h1, h2, h3⟩ := F.ex
  obtain ⟨t, pa, s⟩ := ha
  refine ⟨_, pe_call F1 (hr.mono hk) hg h1 h2 h3 .nil pass0 pa hdb (star_nst he) (back_nst hpl), fun pp S H σ E pl d pl' Q I e' q => ?_⟩
  obtain ⟨xs, p1, e1, f1⟩ := seqM_some e'
  obtain ⟨e3, rfl⟩ := lftM_some f1
  refine s pp S H σ E pl xs _ _ I e1 fun vs S1 H1 I1 a1 r1 => ?_
  show spF X.K n m (vs ++ []) H1 Q E0
  rw [List.append_nil]
  exact ⟨S1, xs, d, I1.sub, r1, hl _ _ _ _ e1, e3, fun v S2 H2 nw r2 => q v S2 H2 (I1.nw nw) (a1.trans nw.ad) r2⟩
theorem lf_f {m : List D → Option (List D)} {ma : AM} (n : Nat) (F : Fn X.prog X.w X.K X.mg X.base x k ps (spL X.K n m)) (hr : Room j X.A) (hk : k ≤ j) (hg : Gl X x) (ha : AF X (e :: es) ma) (hl : ALen ma n)
    (hdb : (x == ("__debug__" : Str)) = false := by decide) (he : nst e = true := by rfl) (hpl : nsts es = true := by rfl) : LF X (.Call (.Name x p) (e :: es) [] pos) (mCallL m ma) := by
  obtain ⟨f, fd, F1, h1, h2, h3⟩ := F.ex
  obtain ⟨t, pa, s⟩ := ha
  refine ⟨_, pe_call F1 (hr.mono hk) hg h1 h2 h3 .nil pass0 pa hdb (star_nst he) (back_nst hpl), fun pp S H σ E pl d pl' Q I e' q => ?_⟩
  obtain ⟨xs, p1, e1, f1⟩ := seqM_some e'
  obtain ⟨e3, rfl⟩ := lftM_some f1
  refine s pp S H σ E pl xs _ _ I e1 fun vs S1 H1 I1 a1 r1 => ?_
  show spL X.K n m (vs ++ []) H1 Q E0
  rw [List.append_nil]
  exact ⟨S1, xs, d, I1.sub, r1, hl _ _ _ _ e1, e3, fun a us S2 H2 nw h1 h2 h3 r2 => q a us S2 H2 (I1.nw nw) (a1.trans nw.ad) (none_ad a1 h1) h2 h3 r2⟩
theorem ef_p {m : Pl → List D → Option (D × Pl)} {ma : AM} (n i : Nat) (F : Fn X.prog X.w X.K X.mg X.base x k ps (spP X.K (n + 1) m)) (hr : Room j X.A) (hk : k ≤ j) (hg : Gl X x) (ha : AF X es ma) (hl : ALen ma n)
    (hN : X.N[i]? = some y := by rfl) (hv : Vis X.env.scope y := by first | exact Or.inl rfl | exact Or.inr (Or.inl rfl) | exact Or.inr (Or.inr rfl)) (hd : (y == ("__debug__" : Str)) = false := by decide) (hcd : (y == ("__classdict__" : Str)) = false := by decide) (hdb : (x == ("__debug__" : Str)) = false := by decide)
    (hpl : nsts es = true := by rfl) : EF X (.Call (.Name x p) (.Name y p0 :: es) [] pos) (mCallP i m ma) :=
  let ⟨f, fd, F1, h1, h2, h3⟩ := F.ex
  ef_callP n i F1 (hr.mono hk) hg h1 h2 h3 hN hv ha hl hd hcd hdb hpl
theorem lf_p {m : Pl → List D → Option (List D × Pl)} {ma : AM} (n i : Nat) (F : Fn X.prog X.w X.K X.mg X.base x k ps (spPL X.K (n + 1) m)) (hr : Room j X.A) (hk : k ≤ j) (hg : Gl X x) (ha : AF X es ma) (hl : ALen ma n)
    (hN : X.N[i]? = some y := by rfl) (hv : Vis X.env.scope y := by first | exact Or.inl rfl | exact Or.inr (Or.inl rfl) | exact Or.inr (Or.inr rfl)) (hd : (y == ("__debug__" : Str)) = false := by decide) (hcd : (y == ("__classdict__" : Str)) = false := by decide) (hdb : (x == ("__debug__" : Str)) = false := by decide)
    (hpl : nsts es = true := by rfl) : LF X (.Call (.Name x p) (.Name y p0 :: es) [] pos) (mCallPL i m ma) :=
  let ⟨f, fd, F1, h1, h2, h3⟩ := F.ex
  lf_callPL n i F1 (hr.mono hk) hg h1 h2 h3 hN hv ha hl hd hcd hdb hpl
end
section
variable {P : Program} {w : World} {K : PySem.W.Frag} {mg : Str → Option Value} {base : Heap}
/-- a def that is never called -/
theorem fn_no {k : Nat} {f : Addr} {fd : FuncData} {ps : List Str} {n : Nat} : FnOk P w K mg base CX0 k f fd ps (spF K n fun _ => none) :=
  ⟨(fun vs H Q E h => by obtain ⟨_, _, _, _, _, _, h, _⟩ := h; cases h), (fun A outer s H args us vs Q E _ _ _ _ h => by obtain ⟨_, _, _, _, _, _, h, _⟩ := h; cases h)⟩
/-- a def that calls itself: by how deep it goes -/
theorem fn_rec {k : Nat} {x : Str} {f : Addr} {fd : FuncData} {ps : List Str} {n : Nat} (m : Nat → List D → Option D) (hm : mg x = some (.ref f)) (hk : PySem.W.keepIn K (.ref f) = true) (hb : Binds K fd ps []) (h0 : m 0 = fun _ => none)
    (hs : ∀ i, Fn P w K mg base x (k + i) ps (spF K n (m i)) → FnOk P w K mg base CX0 (k + i + 1) f fd ps (spF K n (m (i + 1)))) : ∀ i, Fn P w K mg base x (k + i) ps (spF K n (m i))
  | 0 => ⟨f, fd, by rw [h0]; exact fn_no, hm, hk, hb⟩
  | i + 1 => ⟨f, fd, hs i (fn_rec m hm hk hb h0 hs i), hm, hk, hb⟩
theorem Fn.mono {i k : Nat} {x : Str} {ps : List Str} {sp : Sp} (h : Fn P w K mg base x i ps sp) (hk : i ≤ k) : Fn P w K mg base x k ps sp :=
  let ⟨f, fd, F1, h1, h2, h3⟩ := h.ex; ⟨f, fd, F1.mono hk, h1, h2, h3⟩
/-- what a law promises: of its script the answer True -/
def spLaw (K : PySem.W.Frag) : Sp := fun vs H Q _ => ∃ (a : Addr) (ns : List Int), vs = [.ref a] ∧ SqL K H a (ns.map V.int) ∧ ns.length ≤ 63 ∧ ∀ H', Q (.bl true) H'
theorem law_of {k : Nat} {f : Addr} {fd : FuncData} {m : List D → Option D} (F : FnOk P w K mg base CX0 k f fd ["script"] (spF K 1 m)) (h : ∀ ns : List Int, ns.length ≤ 63 → m [.scr ns] = some (.bl true)) : FnOk P w K mg base CX0 k f fd ["script"] (spLaw K) :=
  F.imp fun vs H Q E hs => by
    obtain ⟨a, ns, rfl, hS, hl, q⟩ := hs
    exact ⟨H, [.scr ns], .bl true, Sb.refl _, RpL.cons (rp_scr.mpr ⟨a, rfl, hS⟩) RpL.nil, rfl, h ns hl, fun v S' H' _ r => by rw [rp_bl] at r; subst r; exact q H'⟩
theorem u65 {k : Nat} {A : Around} (r : Room k A) : A.units + 65 < cLine := by have := r.un; omega
/-- a module's constant -/
structure Gc (K : PySem.W.Frag) (mg : Str → Option Value) (x : Str) (d : D) : Prop where
  ex : ∃ u v, mg x = some u ∧ RelV v u ∧ ∀ S, Rp K S d v
theorem ef_glob {X : Cx} {x : Str} {pos : Pos} {d : D} (h : Gc X.K X.mg x d) (hg : Gl X x) (hd : (x == ("__debug__" : Str)) = false := by decide) : EF X (.Name x pos) (mC d) :=
  let ⟨_, _, h1, h2, h3⟩ := h.ex; ⟨_, pe_glob hg h1 h2 hd, ES.c h3⟩
end
end Dn
set_option Elab.async false
set_option linter.all false
set_option maxRecDepth 100000
set_option maxHeartbeats 2000000
namespace Dn
open PySem PySem.Spec PyProof.Rows L2

/-! ### operators of several kinds -/
section
variable {X : Cx}
def dCatL : D → D → Option D | .lst a, .lst b => if sized (a.length + b.length) then some (.lst (a ++ b)) else none | _, _ => none
def dCatT : D → D → Option D | .tup a, .tup b => if sized (a.length + b.length) then some (.tup (a ++ b)) else none | _, _ => none
def dCatS : D → D → Option D | .str a, .str b => if sized (a.length + b.length) then some (.str (a ++ b)) else none | _, _ => none
theorem od_catL : OpD X (binaryOp .Add) dCatL := ⟨_, op_cat, fun S H a b d v u Q hs ra rb e q => by
  unfold dCatL at e; split at e <;> try cases e
  split at e <;> cases e
  rename_i hz
  rw [rp_lst] at ra rb
  obtain ⟨p, vs, rfl, h1, h2⟩ := ra
  obtain ⟨p', us, rfl, g1, g2⟩ := rb
  refine ⟨p, p', vs, us, rfl, rfl, hs _ _ h1, hs _ _ g1, by rw [h2.len, g2.len]; exact sized_le hz, fun r hr => ?_⟩
  have nw := Nw.new (o := .lst (vs ++ us)) hs hr
  exact q _ _ _ nw (rp_lst.mpr ⟨r, _, rfl, upd_same, (h2.append g2).mono nw.s⟩)⟩
theorem od_catT : OpD X (binaryOp .Add) dCatT := ⟨_, op_catA, fun S H a b d v u Q hs ra rb e q => by
  unfold dCatT at e; split at e <;> try cases e
  split at e <;> cases e
  rename_i hz
  rw [rp_tup] at ra rb
  obtain ⟨p, vs, rfl, h1, h2⟩ := ra
  obtain ⟨p', us, rfl, g1, g2⟩ := rb
  refine ⟨p, p', vs, us, rfl, rfl, sb_t hs h1, sb_t hs g1, by rw [h2.len, g2.len]; exact sized_le hz, fun z => ?_, fun _ z => ?_, fun _ _ r hr => ?_⟩
  · have hl := h2.len
    rw [z] at hl
    rename_i xs ys
    have hx : xs = [] := List.eq_nil_of_length_eq_zero hl.symm
    subst hx
    exact q _ S H (Nw.refl hs) (rp_tup.mpr ⟨p', us, rfl, g1, g2⟩)
  · have hl := g2.len
    rw [z] at hl
    rename_i xs ys _
    have hx : ys = [] := List.eq_nil_of_length_eq_zero hl.symm
    subst hx
    exact q _ S H (Nw.refl hs) (rp_tup.mpr ⟨p, vs, rfl, h1, by rw [List.append_nil]; exact h2⟩)
  · have nw := Nw.new (o := .tup (vs ++ us)) hs hr
    exact q _ _ _ nw (rp_tup.mpr ⟨r, _, rfl, SqT.of upd_same, (h2.append g2).mono nw.s⟩)⟩
theorem od_catS : OpD X (binaryOp .Add) dCatS := ⟨_, op_add_str, fun S H a b d v u Q hs ra rb e q => by
  unfold dCatS at e; split at e <;> try cases e
  split at e <;> cases e
  rename_i hz
  rw [rp_str] at ra rb
  subst ra rb
  exact ⟨_, _, rfl, rfl, sized_le hz, q _ S H (Nw.refl hs) (rp_str.mpr rfl)⟩⟩
def dAdd : D → D → Option D
  | .int a, .int b => some (.int (a + b))
  | .lst a, .lst b => dCatL (.lst a) (.lst b)
  | .tup a, .tup b => dCatT (.tup a) (.tup b)
  | .str a, .str b => dCatS (.str a) (.str b)
  | _, _ => none
theorem od_add : OpD X (binaryOp .Add) dAdd := (((od_addI.or od_catL).or od_catT).or od_catS).imp fun a b d e => by
  unfold dAdd at e
  split at e
  · exact e
  · rename_i a b; dsimp only [dAddI, dCatT, dCatS]; rw [show dCatL (.lst a) (.lst b) = some d from e]; rfl
  · rename_i a b; dsimp only [dAddI, dCatL, dCatS]; rw [show dCatT (.tup a) (.tup b) = some d from e]; rfl
  · rename_i a b; dsimp only [dAddI, dCatL, dCatT]; rw [show dCatS (.str a) (.str b) = some d from e]; rfl
  · cases e
def dRepL : D → D → Option D
  | .lst a, .int k => if decide (k.natAbs < 2 ^ 60) && sized (a.length * k.toNat) then some (.lst (List.replicate k.toNat a).flatten) else none
  | _, _ => none
theorem RpL.rep {K : PySem.W.Frag} {S : Hp} {ds : List D} {vs : List V} (r : RpL K S ds vs) : ∀ k : Nat, RpL K S (List.replicate k ds).flatten (List.replicate k vs).flatten
  | 0 => RpL.nil
  | k + 1 => by
    rw [List.replicate_succ, List.replicate_succ, List.flatten_cons, List.flatten_cons]
    exact r.append (r.rep k)
theorem od_repL : OpD X (binaryOp .Mult) dRepL := ⟨_, op_rep, fun S H a b d v u Q hs ra rb e q => by
  unfold dRepL at e; split at e <;> try cases e
  split at e <;> cases e
  rename_i a k hz
  simp only [Bool.and_eq_true, decide_eq_true_eq] at hz
  rw [rp_lst] at ra
  rw [rp_int] at rb
  subst rb
  obtain ⟨p, vs, rfl, h1, h2⟩ := ra
  refine ⟨p, _, vs, rfl, rfl, hs _ _ h1, by omega, by omega, by rw [h2.len]; exact sized_le hz.2, fun r hr => ?_⟩
  have nw := Nw.new (o := .lst (List.replicate k.toNat vs).flatten) hs hr
  exact q _ _ _ nw (rp_lst.mpr ⟨r, _, rfl, upd_same, (h2.rep _).mono nw.s⟩)⟩
def dMul : D → D → Option D
  | .int a, .int b => dMulI (.int a) (.int b)
  | .lst a, .int b => dRepL (.lst a) (.int b)
  | _, _ => none
theorem od_mul : OpD X (binaryOp .Mult) dMul := (od_mulI.or od_repL).imp fun a b d e => by
  unfold dMul at e
  split at e
  · rename_i a b; dsimp only [dRepL]; rw [show dMulI (.int a) (.int b) = some d from e]; rfl
  · rename_i a b; dsimp only [dMulI]; rw [show dRepL (.lst a) (.int b) = some d from e]; rfl
  · cases e
abbrev dLt := dLtI
abbrev dLe := dLeI
abbrev dGt := dGtI
abbrev dGe := dGeI
end
end Dn
set_option Elab.async false
set_option linter.all false
set_option maxRecDepth 100000
set_option maxHeartbeats 2000000
namespace Dn
open PySem PySem.Spec PyProof.Rows L2

/-! ### comprehensions -/
section
variable {K : PySem.W.Frag}
def teOf (K : PySem.W.Frag) (m : EM) : TE := fun σ H Q => ∃ pp S E pl d pl', ER K pp S H σ E pl ∧ m E pl = some (d, pl') ∧ ∀ v S' H', ER K pp S' H' σ E pl' → Ad pp S H S' H' → Rp K S' d v → Q v H'
def ttOf (K : PySem.W.Frag) (m : BM) : TT := fun σ H Q => ∃ pp S E pl d pl', ER K pp S H σ E pl ∧ m E pl = some (d, pl') ∧ ∀ S' H', ER K pp S' H' σ E pl' → Ad pp S H S' H' → Q d H'
theorem EF.can {X : Cx} {e : Expr} {m : EM} (h : EF X e m) : PE X e (teOf X.K m) := by
  obtain ⟨t, p, s⟩ := h
  refine ⟨fun pins s' σ H Q I hq => ?_⟩
  obtain ⟨pp, S, E, pl, d, pl', I1, e1, q⟩ := hq
  exact p.run pins s' σ H Q I (s pp S H σ E pl d pl' Q I1 e1 q)
theorem ES.can (m : EM) : ES K (teOf K m) m := fun pp S H σ E pl d pl' Q I e q => ⟨pp, S, E, pl, d, pl', I, e, q⟩
/-- the tests of a comprehension -/
def TsF (X : Cx) (ifs : List Expr) (m : BM) : Prop := ∃ t, PTs X ifs t ∧ BS X.K t m
theorem TsF.can {X : Cx} {ifs : List Expr} {m : BM} (h : TsF X ifs m) : PTs X ifs (ttOf X.K m) := by
  obtain ⟨t, p, s⟩ := h
  refine ⟨fun pins s' σ H Q I hq => ?_⟩
  obtain ⟨pp, S, E, pl, d, pl', I1, e1, q⟩ := hq
  exact p.run pins s' σ H Q I (s pp S H σ E pl d pl' Q I1 e1 q)
theorem BS.can (m : BM) : BS K (ttOf K m) m := fun pp S H σ E pl d pl' Q I e q => ⟨pp, S, E, pl, d, pl', I, e, q⟩
def tYesM : BM := oks true
theorem ts_nil {X : Cx} : TsF X [] tYesM := ⟨_, pts_nil, fun pp S H σ E pl d pl' Q I e q => by
  obtain ⟨rfl, rfl⟩ := oks_some e
  exact q S H I Ad.refl⟩
theorem ts_one {X : Cx} {c : Expr} {m : BM} (h : BF X c m) : TsF X [c] m := let ⟨_, p, s⟩ := h; ⟨_, pts_one p, s⟩
/-! targets within -/
theorem wipe_get (σ : L2.St) : ∀ (vs : List Nat) (j : Nat), (wipe σ vs)[j]? = if j ∈ vs then (σ[j]?).map fun _ => none else σ[j]?
  | [], j => by simp [wipe]
  | v :: vs, j => by
    unfold wipe
    by_cases h : v = j
    · subst h
      rw [if_pos List.mem_cons_self]
      by_cases hl : v < σ.length
      · rw [List.getElem?_set_self (by rw [wipe_length]; exact hl), List.getElem?_eq_getElem hl]; rfl
      · rw [List.getElem?_eq_none_iff.mpr (by rw [List.length_set, wipe_length]; omega), List.getElem?_eq_none_iff.mpr (by omega)]; rfl
    · rw [List.getElem?_set_ne h, wipe_get σ vs j]
      by_cases g : j ∈ vs
      · rw [if_pos g, if_pos (List.mem_cons_of_mem _ g)]
      · rw [if_neg g, if_neg (by simp [g, Ne.symm h])]
theorem wipe_set (σ : L2.St) (vs : List Nat) {i : Nat} (h : i ∈ vs) (x : Option V) : wipe (σ.set i x) vs = wipe σ vs := by
  apply List.ext_getElem?
  intro j
  rw [wipe_get, wipe_get]
  by_cases g : j ∈ vs
  · rw [if_pos g, if_pos g]
    by_cases hij : i = j
    · subst hij
      by_cases hl : i < σ.length
      · rw [List.getElem?_set_self hl, List.getElem?_eq_getElem hl]; rfl
      · rw [List.getElem?_eq_none_iff.mpr (by rw [List.length_set]; omega), List.getElem?_eq_none_iff.mpr (by omega)]
    · rw [List.getElem?_set_ne hij]
  · rw [if_neg g, if_neg g]
    have : i ≠ j := fun e => g (e ▸ h)
    rw [List.getElem?_set_ne this]
def GE (K : PySem.W.Frag) (g : TG) (f : TM) (sl : List Nat) : Prop := ∀ pp S H σ E pl d v E' (Q : L2.St → Hp → Prop), ER K pp S H σ E pl → Rp K S d v → f d E = some E' → (∀ σ', ER K pp S H σ' E' pl → (∀ vs : List Nat, (∀ i ∈ sl, i ∈ vs) → wipe σ' vs = wipe σ vs) → Q σ' H) → g v σ H Q
def GEs (K : PySem.W.Frag) (g : TGs) (f : List D → Env → Option Env) (sl : List Nat) : Prop := ∀ pp S H σ E pl ds us E' (Q : L2.St → Hp → Prop), ER K pp S H σ E pl → RpL K S ds us → f ds E = some E' → (∀ σ', ER K pp S H σ' E' pl → (∀ vs : List Nat, (∀ i ∈ sl, i ∈ vs) → wipe σ' vs = wipe σ vs) → Q σ' H) → g us σ H Q
def GEF (X : Cx) (tg : Expr) (f : TM) (sl : List Nat) : Prop := ∃ g, PG X tg g ∧ GE X.K g f sl
def GEFs (X : Cx) (tgs : List Expr) (f : List D → Env → Option Env) (sl : List Nat) : Prop := ∃ g, PGs X tgs g ∧ GEs X.K g f sl
def tgOf (K : PySem.W.Frag) (f : TM) (sl : List Nat) : TG := fun v σ H Q => ∃ pp S E pl d E', ER K pp S H σ E pl ∧ Rp K S d v ∧ f d E = some E' ∧ ∀ σ', ER K pp S H σ' E' pl → (∀ vs : List Nat, (∀ i ∈ sl, i ∈ vs) → wipe σ' vs = wipe σ vs) → Q σ' H
theorem GEF.can {X : Cx} {tg : Expr} {f : TM} {sl : List Nat} (h : GEF X tg f sl) : PG X tg (tgOf X.K f sl) := by
  obtain ⟨g, p, s⟩ := h
  refine ⟨fun pins s' σ H v u Q I r hq => ?_⟩
  obtain ⟨pp, S, E, pl, d, E', I1, r1, e1, q⟩ := hq
  exact p.run pins s' σ H v u Q I r (s pp S H σ E pl d v E' Q I1 r1 e1 q)
theorem GE.can (f : TM) (sl : List Nat) : GE K (tgOf K f sl) f sl := fun pp S H σ E pl d v E' Q I r e q => ⟨pp, S, E, pl, d, E', I, r, e, q⟩
theorem ER.val {pp : PP} {S H : Hp} {σ : L2.St} {E : Env} {pl : Option Pl} (I : ER K pp S H σ E pl) (i : Nat) {d : D} {v : V} (h : Rp K S d v) : ER K pp S H (σ.set i (some v)) (E.set i (.val d)) pl := by
  refine ⟨I.sub, by rw [List.length_set, List.length_set]; exact I.len, fun j sl e => ?_, I.pin, I.pool, I.npp⟩
  by_cases hj : i = j
  · subst hj
    by_cases hl : i < E.length
    · rw [List.getElem?_set_self hl] at e
      cases e
      exact ⟨v, List.getElem?_set_self (by rw [← I.len]; exact hl), h⟩
    · rw [List.getElem?_eq_none_iff.mpr (by rw [List.length_set]; omega)] at e; cases e
  · rw [List.getElem?_set_ne hj] at e
    rw [List.getElem?_set_ne hj]
    exact I.env j sl e
theorem ge_name {X : Cx} {i : Nat} {x : Str} {pos : Pos} (hN : X.N.Nodup) (hi : X.N[i]? = some x) (hx : Loc X.env.scope x) (hf : X.fn x = true ∨ X.env.scope.names.lookup x = some .local := by first | exact .inl rfl | exact .inr rfl | assumption) : GEF X (.Name x pos) (gN i) [i] :=
  ⟨_, pg_name hN hi hx hf, fun pp S H σ E pl d v E' Q I r e q => by
    cases e
    exact q _ (I.val i r) fun vs h => wipe_set σ vs (h i List.mem_cons_self) _⟩
theorem ges_nil {X : Cx} : GEFs X [] gsN [] := ⟨_, pgs_nil, fun pp S H σ E pl ds us E' Q I r e q => by
  unfold gsN at e
  split at e <;> cases e
  exact ⟨r.nil_inv, q σ I fun _ _ => rfl⟩⟩
theorem ges_cons {X : Cx} {e : Expr} {es : List Expr} {f : TM} {fs : List D → Env → Option Env} {s1 s2 : List Nat} (h1 : GEF X e f s1) (h2 : GEFs X es fs s2)
    (hs : (assignEach (e :: es) X.env).map (·.2) = assign e X.env :: (assignEach es X.env).map (·.2) := by rfl) : GEFs X (e :: es) (gsC f fs) (s1 ++ s2) := by
  obtain ⟨g, p, s⟩ := h1
  obtain ⟨g', p', s'⟩ := h2
  refine ⟨_, pgs_cons p p' hs, fun pp S H σ E pl ds us E' Q I r e q => ?_⟩
  unfold gsC at e
  split at e
  · rename_i d rest
    obtain ⟨v, ws, rfl, r1, r2⟩ := r.cons_inv
    cases h : f d E with
    | none => rw [h] at e; cases e
    | some E1 =>
      rw [h] at e
      refine ⟨v, ws, rfl, s pp S H σ E pl d v E1 _ I r1 h fun σ1 I1 w1 => s' pp S H σ1 E1 pl rest ws E' Q I1 r2 e fun σ2 I2 w2 => q σ2 I2 fun vs hv => ?_⟩
      rw [w2 vs fun i hi => hv i (List.mem_append_right _ hi), w1 vs fun i hi => hv i (List.mem_append_left _ hi)]
  · cases e
theorem ge_tup {X : Cx} {es : List Expr} {k : Nat} {fs : List D → Env → Option Env} {pos : Pos} {sl : List Nat} (n : Nat) (hc : X.calm = true) (h : GEFs X es fs sl) (hn : (assignEach es X.env).length = n := by rfl) (hst : (assignEach es X.env).findIdx? (·.1) = none := by rfl) :
    GEF X (.Tuple es k pos) (gT fun ds E => bM (ds.length == n) (fs ds E) none) sl := by
  obtain ⟨g, p, s⟩ := h
  refine ⟨_, pg_tup hc p hn hst, fun pp S H σ E pl d v E' Q I r e q => ?_⟩
  unfold gT at e
  split at e
  · rename_i ds
    rw [rp_tup] at r
    obtain ⟨a, vs, rfl, h1, h2⟩ := r
    dsimp only at e
    cases hz : ds.length == n with
    | false => rw [hz] at e; cases e
    | true =>
      rw [hz] at e
      exact ⟨a, vs, rfl, sb_t I.sub h1, by rw [h2.len]; exact eq_of_beq hz, s pp S H σ E pl ds vs E' Q I h2 e q⟩
  · cases e
/-! the comprehension -/
def wipeE (E : Env) : List Nat → Env
  | [] => E
  | v :: vs => (wipeE E vs).set v .un
theorem wipeE_len (E : Env) : ∀ vs : List Nat, (wipeE E vs).length = E.length
  | [] => rfl
  | v :: vs => by unfold wipeE; rw [List.length_set, wipeE_len E vs]
theorem wipeE_get (E : Env) : ∀ (vs : List Nat) (j : Nat), (wipeE E vs)[j]? = if j ∈ vs then (E[j]?).map fun _ => Sl.un else E[j]?
  | [], j => by simp [wipeE]
  | v :: vs, j => by
    unfold wipeE
    by_cases h : v = j
    · subst h
      rw [if_pos List.mem_cons_self]
      by_cases hl : v < E.length
      · rw [List.getElem?_set_self (by rw [wipeE_len]; exact hl), List.getElem?_eq_getElem hl]; rfl
      · rw [List.getElem?_eq_none_iff.mpr (by rw [List.length_set, wipeE_len]; omega), List.getElem?_eq_none_iff.mpr (by omega)]; rfl
    · rw [List.getElem?_set_ne h, wipeE_get E vs j]
      by_cases g : j ∈ vs
      · rw [if_pos g, if_pos (List.mem_cons_of_mem _ g)]
      · rw [if_neg g, if_neg (by simp [g, Ne.symm h])]
theorem ER.wiped {pp : PP} {S H : Hp} {σ : L2.St} {E : Env} {pl : Option Pl} (I : ER K pp S H σ E pl) (vs : List Nat) : ER K pp S H (wipe σ vs) (wipeE E vs) pl := by
  refine ⟨I.sub, by rw [wipeE_len, wipe_length]; exact I.len, fun j sl e => ?_, I.pin, I.pool, I.npp⟩
  rw [wipeE_get] at e
  rw [wipe_get]
  by_cases h : j ∈ vs
  · rw [if_pos h] at e
    cases z : E[j]? with
    | none => rw [z] at e; cases e
    | some s1 => rw [z] at e; cases e; exact trivial
  · rw [if_neg h] at e ⊢
    exact I.env j sl e
/-- what the items give -/
def lcL (f : TM) (mt : BM) (me : EM) (Ew : Env) : List D → Option Pl → Option (List D × Option Pl)
  | [], pl => some ([], pl)
  | d :: ds, pl => match f d Ew with
    | none => none
    | some E1 => match mt E1 pl with
      | none => none
      | some (false, p) => lcL f mt me Ew ds p
      | some (true, p) => match me E1 p with
        | none => none
        | some (y, p2) => match lcL f mt me Ew ds p2 with
          | none => none
          | some (ys, p3) => some (y :: ys, p3)
def mLc (vs : List Nat) (src : AM) (f : TM) (mt : BM) (me : EM) : AM := fun E pl => match src E pl with
  | none => none
  | some (ds, p) => bM (sized ds.length) (lcL f mt me (wipeE E vs) ds p) none
theorem LS.lc {wi : TI} {g : TG} {tt : TT} {te : TE} {src : AM} {f : TM} {mt : BM} {me : EM} {vs sl : List Nat} (si : IS K wi src) (sg : GE K g f sl) (st : BS K tt mt) (se : ES K te me) (hv : ∀ i ∈ sl, i ∈ vs) : LS K (tLc wi g tt te vs) (mLc vs src f mt me) := fun pp S H σ E pl xs pl' Q I e q => by
  unfold mLc at e
  cases hsrc : src E pl with
  | none => rw [hsrc] at e; cases e
  | some r =>
    obtain ⟨ds, p⟩ := r
    rw [hsrc] at e
    dsimp only at e
    cases hz : sized ds.length with
    | false => rw [hz] at e; cases e
    | true =>
      rw [hz, bM_t] at e
      refine si pp S H σ E pl ds p _ I hsrc fun J S1 H1 I1 a1 j1 => ?_
      intro Dl hD
      have sD : S1 Dl = none := by
        cases z : S1 Dl with
        | none => rfl
        | some o => rw [I1.sub _ _ z] at hD; cases hD
      have nD : ∀ sc, pp ≠ some (Dl, sc) := fun sc z => by
        obtain ⟨⟨o, h⟩, _⟩ := I1.pin Dl sc z
        rw [hD] at h; cases h
      refine ⟨fun i n H' => ∃ S' pl2 acc accV, n = ds.length - i ∧ i ≤ ds.length ∧ ER K pp S' H' (wipe σ vs) (wipeE E vs) pl2 ∧ Ad pp S1 H1 S' H' ∧ S' Dl = none ∧ H' Dl = some (.lst accV) ∧ RpL K S' acc accV ∧ acc.length ≤ i ∧ ∃ rest, lcL f mt me (wipeE E vs) (ds.drop i) pl2 = some (rest, pl') ∧ xs = acc ++ rest, ⟨ds.length, S1, p, [], [], by simp, Nat.zero_le _, ?_, ?_, sD, upd_same, RpL.nil, Nat.le_refl _, xs, by simpa using e, rfl⟩, ?_⟩
      · obtain ⟨nw, _⟩ := nw_lst (vs := []) I1 hD
        exact (I1.nw nw).wiped vs
      · obtain ⟨nw, _⟩ := nw_lst (vs := []) I1 hD
        exact nw.ad
      · rintro i n H' ⟨S', pl2, acc, accV, rfl, hi, I2, a2, sD', hD', rA, hl, rest, e3, ex⟩
        by_cases hlt : i < ds.length
        · right
          have hd : ds.drop i = ds[i] :: ds.drop (i + 1) := List.drop_eq_getElem_cons hlt
          rw [hd] at e3
          unfold lcL at e3
          obtain ⟨go, yld⟩ := j1.go i ds[i] S' H' a2.s I2.sub (List.getElem?_eq_getElem hlt)
          refine ⟨go, fun H2 => ∃ S2 pl3 acc accV, ER K pp S2 H2 (wipe σ vs) (wipeE E vs) pl3 ∧ Ad pp S1 H1 S2 H2 ∧ S2 Dl = none ∧ H2 Dl = some (.lst accV) ∧ RpL K S2 acc accV ∧ acc.length ≤ i + 1 ∧ ∃ rest, lcL f mt me (wipeE E vs) (ds.drop (i + 1)) pl3 = some (rest, pl') ∧ xs = acc ++ rest, fun H2 ⟨S2, pl3, acc, accV, k⟩ => ⟨ds.length - (i + 1), by omega, S2, pl3, acc, accV, rfl, hlt, k⟩, fun x H2 y => ?_⟩
          obtain ⟨S2, nw, rx⟩ := yld x H2 y
          have sD2 : S2 Dl = none := by
            cases z : S2 Dl with
            | none => rfl
            | some o =>
              rcases nw.n Dl o z with w | w
              · rw [w] at sD'; cases sD'
              · rw [w] at hD'; cases hD'
          cases hg : f ds[i] (wipeE E vs) with
          | none => rw [hg] at e3; cases e3
          | some E1 =>
            rw [hg] at e3
            dsimp only at e3
            refine sg pp S2 H2 (wipe σ vs) (wipeE E vs) pl2 ds[i] x E1 _ (I2.nw nw) rx hg fun σ3 I3 w3 => ⟨?_, ?_⟩
            · rw [w3 vs hv]
              apply List.ext_getElem?
              intro j
              rw [wipe_get, wipe_get]
              by_cases z : j ∈ vs
              · rw [if_pos z, if_pos z]; cases σ[j]? <;> rfl
              · rw [if_neg z]
            · cases ht : mt E1 pl2 with
              | none => rw [ht] at e3; cases e3
              | some r =>
                obtain ⟨b, p3⟩ := r
                rw [ht] at e3
                refine st pp S2 H2 σ3 E1 pl2 b p3 _ I3 ht fun S3 H3 I4 a4 => ?_
                have hD3 : H3 Dl = some (.lst accV) := a4.h Dl _ (nw.h _ _ hD') nD
                have sD3 : S3 Dl = none := by
                  cases z : S3 Dl with
                  | none => rfl
                  | some o =>
                    rcases a4.n Dl o z with w | w
                    · rw [w] at sD2; cases sD2
                    · rw [nw.h _ _ hD'] at w; cases w
                have back : ∀ {S5 H5 : Hp} {p5 : Option Pl}, ER K pp S5 H5 σ3 E1 p5 → Sb S2 S5 → ER K pp S5 H5 (wipe σ vs) (wipeE E vs) p5 := fun {S5 H5 p5} I5 s5 =>
                  ⟨I5.sub, by rw [wipeE_len, wipe_length]; exact I.len, fun j sl' e' => ((I2.nw nw).env j sl' e').mono s5, I5.pin, I5.pool, I5.npp⟩
                cases b with
                | false =>
                  rw [if_neg (by decide)]
                  dsimp only at e3
                  exact ⟨S3, p3, acc, accV, back I4 a4.s, (a2.trans nw.ad).trans a4, sD3, hD3, rA.mono (nw.s.trans a4.s), by omega, rest, e3, ex⟩
                | true =>
                  rw [if_pos rfl]
                  dsimp only at e3
                  cases hm : me E1 p3 with
                  | none => rw [hm] at e3; cases e3
                  | some r =>
                    obtain ⟨y, p4⟩ := r
                    rw [hm] at e3
                    dsimp only at e3
                    cases hr : lcL f mt me (wipeE E vs) (ds.drop (i + 1)) p4 with
                    | none => rw [hr] at e3; cases e3
                    | some r =>
                      obtain ⟨ys, p5⟩ := r
                      rw [hr] at e3
                      cases e3
                      refine se pp S3 H3 σ3 E1 p3 y p4 _ I4 hm fun v S4 H4 I5 a5 r5 => ?_
                      have hD4 : H4 Dl = some (.lst accV) := a5.h Dl _ hD3 nD
                      have sD4 : S4 Dl = none := by
                        cases z : S4 Dl with
                        | none => rfl
                        | some o =>
                          rcases a5.n Dl o z with w | w
                          · rw [w] at sD3; cases sD3
                          · rw [hD3] at w; cases w
                      have hsz : accV.length < sizeLine := by
                        rw [rA.len]
                        have := of_decide_eq_true (show decide (ds.length ≤ 1000000) = true from hz)
                        exact sized_lt (n := acc.length) (decide_eq_true (by omega))
                      refine ⟨accV, hD4, hsz, S4, p4, acc ++ [y], accV ++ [v], ?_, ?_, sD4, upd_same, (rA.mono (nw.s.trans (a4.s.trans a5.s))).append (RpL.cons r5 RpL.nil), by rw [List.length_append, List.length_singleton]; omega, ys, hr, by rw [ex, List.append_assoc]; rfl⟩
                      · have I6 := back I5 (a4.s.trans a5.s)
                        refine ⟨fun a o e' => ?_, I6.len, I6.env, fun b sc e' => ?_, fun P e' => ?_, I6.npp⟩
                        · have ne : a ≠ Dl := fun z => by rw [z, sD4] at e'; cases e'
                          rw [upd_ne ne]; exact I6.sub a o e'
                        · obtain ⟨⟨o, h1⟩, h2⟩ := I6.pin b sc e'
                          have ne : b ≠ Dl := fun z => nD sc (z ▸ e')
                          exact ⟨⟨o, by rw [upd_ne ne]; exact h1⟩, h2⟩
                        · obtain ⟨b, sc, k1, k2, k3⟩ := I6.pool P e'
                          have ne : b ≠ Dl := fun z => nD sc (z ▸ k1)
                          exact ⟨b, sc, k1, by rw [upd_ne ne]; exact k2, k3⟩
                      · have a6 := ((a2.trans nw.ad).trans a4).trans a5
                        refine ⟨a6.s, fun a o e' n' => ?_, fun a o e' => ?_, a6.n⟩
                        · have ne : a ≠ Dl := fun z => by rw [z, hD] at e'; cases e'
                          rw [upd_ne ne]; exact a6.h a o e' n'
                        · have ne : a ≠ Dl := fun z => by rw [z, hD] at e'; cases e'
                          rw [upd_ne ne]; exact a6.t a o e'
        · left
          have ei : i = ds.length := by omega
          subst ei
          rw [List.drop_length] at e3
          unfold lcL at e3
          cases e3
          rw [List.append_nil] at ex
          subst ex
          refine ⟨j1.stop _ S' H' a2.s I2.sub (Nat.le_refl _), ?_⟩
          refine q Dl accV S' H' ⟨I2.sub, I.len, fun j sl' e' => (I1.env j sl' e').mono a2.s, I2.pin, I2.pool, I2.npp⟩ (a1.trans a2) (none_ad a1 hD) sD' hD' rA
theorem lf_lc {X : Cx} {elt tg iter : Expr} {ifs : List Expr} {scope : Scope} {own : List (Str × Nat)} {pos : Pos} {src : AM} {f : TM} {mt : BM} {me : EM} {sl : List Nat} (hc : X.calm = true) (hN : X.N.Nodup) (ok : BlkOk X.N X.env.scope scope own) (hi : IF X tg iter src)
    (hg : ∀ (s : Shared) (H : Hp) (C : Addr) (cl : List (Str × Addr)) (fp : List Addr), GEF (X.blk s H scope (compEnvC scope cl C X.env) fp) tg f sl)
    (ht : ∀ (s : Shared) (H : Hp) (C : Addr) (cl : List (Str × Addr)) (fp : List Addr), TsF (X.blk s H scope (compEnvC scope cl C X.env) fp) ifs mt)
    (he : ∀ (s : Shared) (H : Hp) (C : Addr) (cl : List (Str × Addr)) (fp : List Addr), EF (X.blk s H scope (compEnvC scope cl C X.env) fp) elt me)
    (hv : ∀ i ∈ sl, i ∈ own.map (·.2)) (hs : ∀ x, foldedSetIterable iter X.env x = pure x := by intro _; rfl) : LF X (.ListComp elt [⟨tg, iter, ifs, 0⟩] scope pos) (mLc (own.map (·.2)) src f mt me) := by
  obtain ⟨w, p, s⟩ := hi
  exact ⟨_, pe_lc hc hN p ok (fun s H C cl fp => (hg s H C cl fp).can) (fun s H C cl fp => (ht s H C cl fp).can) (fun s H C cl fp => (he s H C cl fp).can) hs, LS.lc s (GE.can f sl) (BS.can mt) (ES.can me) hv⟩
/-- x = [..] on one line, x a local -/
theorem asl_lc {X : Cx} {i : Nat} {y : Str} {py : Pos} {elt tg iter : Expr} {ifs : List Expr} {scope : Scope} {own : List (Str × Nat)} {pos spos : Pos} {src : AM} {f : TM} {mt : BM} {me : EM} {sl : List Nat} (hc : X.calm = true) (hN : X.N.Nodup) (hy : X.N[i]? = some y) (hyl : X.env.scope.names.lookup y = some .local)
    (hsw : swapsWith (.ListComp elt [⟨tg, iter, ifs, 0⟩] scope pos) (some (.Name y py)) spos.line X.env = pure true) (ok : BlkOk X.N X.env.scope scope own) (hi : IF X tg iter src)
    (hg : ∀ (s : Shared) (H : Hp) (C : Addr) (cl : List (Str × Addr)) (fp : List Addr), GEF (X.blk s H scope (compEnvC scope cl C X.env) fp) tg f sl)
    (ht : ∀ (s : Shared) (H : Hp) (C : Addr) (cl : List (Str × Addr)) (fp : List Addr), TsF (X.blk s H scope (compEnvC scope cl C X.env) fp) ifs mt)
    (he : ∀ (s : Shared) (H : Hp) (C : Addr) (cl : List (Str × Addr)) (fp : List Addr), EF (X.blk s H scope (compEnvC scope cl C X.env) fp) elt me)
    (hv : ∀ i ∈ sl, i ∈ own.map (·.2)) (hs : ∀ x, foldedSetIterable iter X.env x = pure x := by intro _; rfl) : AsL X (.Assign [.Name y py] (.ListComp elt [⟨tg, iter, ifs, 0⟩] scope pos) spos) i (mLc (own.map (·.2)) src f mt me) := by
  obtain ⟨w, p, s⟩ := hi
  exact ⟨_, ps_setLc hc hN hy hyl hsw p ok (fun s H C cl fp => (hg s H C cl fp).can) (fun s H C cl fp => (ht s H C cl fp).can) (fun s H C cl fp => (he s H C cl fp).can) hs, LS.lc s (GE.can f sl) (BS.can mt) (ES.can me) hv⟩
end
end Dn
set_option Elab.async false
set_option linter.all false
set_option maxRecDepth 100000
set_option maxHeartbeats 2000000
namespace Dn
open PySem PySem.Spec PyProof.Rows L2

/-! ### more built-ins -/
section
variable {X : Cx} {K : PySem.W.Frag}
def CallL (X : Cx) (f : Value) (g : List D → Option (List D)) : Prop := ∃ r, CallR X f r ∧ RDL X.K r g
theorem LS.call {r : List V → Hp → VK → Prop} {g : List D → Option (List D)} {t : TA} {m : AM} (hr : RDL K r g) (ha : AS K t m) : LS K (tCB r t) (mCallL g m) := fun pp S H σ E pl d pl' Q I e q => by
  obtain ⟨x, p1, e1, e⟩ := seqM_some e
  obtain ⟨e3, rfl⟩ := lftM_some e
  refine ha pp S H σ E pl x _ _ I e1 fun v S1 H1 I1 a1 r1 => ?_
  exact hr S1 H1 x d v Q I1.sub r1 e3 fun p vs S3 H3 a3 h1 h2 h3 r3 => q p vs S3 H3 (I1.nw a3) (a1.trans a3.ad) (none_ad a1 h1) h2 h3 r3
theorem lf_callB {x : Str} {id : String} {g : List D → Option (List D)} {p pos : Pos} {e : Expr} {es : List Expr} {m : AM} (hc : CallL X (.builtin id) g) (hg : Gl X x) (hm : X.mg x = none) (hv : bootBuiltins x = some (.builtin id)) (ha : AF X (e :: es) m) (hn : x ≠ "__name__" := by decide) (hdb : (x == ("__debug__" : Str)) = false := by decide)
    (he : nst e = true := by rfl) (hpl : nsts es = true := by rfl) : LF X (.Call (.Name x p) (e :: es) [] pos) (mCallL g m) := by
  obtain ⟨r, q, s⟩ := hc
  obtain ⟨t, p1, s1⟩ := ha
  exact ⟨_, pe_callB q hg hm hv p1 hn hdb (star_nst he) (back_nst hpl), LS.call s s1⟩
theorem lf_callTy {x : Str} {T : String} {g : List D → Option (List D)} {p pos : Pos} {e : Expr} {es : List Expr} {m : AM} (hc : CallL X (.type T) g) (hg : Gl X x) (hm : X.mg x = none) (hv : bootBuiltins x = some (.type T)) (ha : AF X (e :: es) m) (hn : x ≠ "__name__" := by decide) (hdb : (x == ("__debug__" : Str)) = false := by decide)
    (he : nst e = true := by rfl) (hpl : nsts es = true := by rfl) : LF X (.Call (.Name x p) (e :: es) [] pos) (mCallL g m) := by
  obtain ⟨r, q, s⟩ := hc
  obtain ⟨t, p1, s1⟩ := ha
  exact ⟨_, pe_callTy q hg hm hv p1 hn hdb (star_nst he) (back_nst hpl), LS.call s s1⟩
/-- list(x) -/
def gList : List D → Option (List D)
  | [.lst xs] => some xs
  | [.tup xs] => some xs
  | [.scr ns] => some (ns.map D.int)
  | _ => none
theorem sb_none {S H : Hp} (e : Sb S H) {p : Addr} (h : H p = none) : S p = none := by
  cases z : S p with
  | none => rfl
  | some o => rw [e _ _ z] at h; cases h
theorem nw_new {S H : Hp} (hs : Sb S H) {p : Addr} (hp : H p = none) {o : HO} : Nw S H S (upd H p o) := ⟨hs.trans (sb_upd hp), Sb.refl _, sb_upd hp, fun _ _ h => .inl h⟩
theorem cl_list : CallL X (.type "list") gList := ⟨_, call_list_of, fun S H a d v Q hs ra e q => by
  unfold gList at e
  split at e <;> cases e
  · obtain ⟨v, rfl, h1⟩ := rpl_one ra
    rw [rp_lst] at h1
    obtain ⟨p, vs, rfl, h1, h2⟩ := h1
    exact ⟨p, vs, rfl, .inl (.inl (.inl (hs _ _ h1))), fun l hl => q l vs S _ (nw_new hs hl) hl (sb_none hs hl) upd_same h2⟩
  · obtain ⟨v, rfl, h1⟩ := rpl_one ra
    rw [rp_tup] at h1
    obtain ⟨p, vs, rfl, h1, h2⟩ := h1
    exact ⟨p, vs, rfl, .inr (sb_t hs h1), fun l hl => q l vs S _ (nw_new hs hl) hl (sb_none hs hl) upd_same h2⟩
  · obtain ⟨v, rfl, h1⟩ := rpl_one ra
    rw [rp_scr] at h1
    obtain ⟨p, rfl, h1⟩ := h1
    exact ⟨p, _, rfl, .inl (sb_l hs h1), fun l hl => q l _ S _ (nw_new hs hl) hl (sb_none hs hl) upd_same (RpL.ints _)⟩⟩
/-- tuple(x) -/
def gTuple : List D → Option D
  | [.lst xs] => some (.tup xs)
  | [.tup xs] => some (.tup xs)
  | _ => none
theorem cd_tuple : CallD X (.type "tuple") gTuple := ⟨_, call_tuple_of, fun S H a d v Q hs ra e q => by
  unfold gTuple at e
  split at e <;> cases e
  · obtain ⟨v, rfl, h1⟩ := rpl_one ra
    rw [rp_lst] at h1
    obtain ⟨p, vs, rfl, h1, h2⟩ := h1
    refine ⟨p, vs, rfl, .inl ⟨.inl (.inl (hs _ _ h1)), fun l hl => ?_⟩⟩
    have nw := Nw.new (o := .tup vs) hs hl
    exact q _ _ _ nw (rp_tup.mpr ⟨l, vs, rfl, SqT.of upd_same, h2.mono nw.s⟩)
  · obtain ⟨v, rfl, h1⟩ := rpl_one ra
    have h0 := h1
    rw [rp_tup] at h1
    obtain ⟨p, vs, rfl, h1, h2⟩ := h1
    exact ⟨p, vs, rfl, .inr ⟨sb_t hs h1, q _ _ _ (Nw.refl hs) h0⟩⟩⟩
/-- the data that are all ints, all bools -/
def intsOf : List D → Option (List Int)
  | [] => some []
  | .int i :: r => (intsOf r).map (i :: ·)
  | _ => none
def blsOf : List D → Option (List Bool)
  | [] => some []
  | .bl i :: r => (blsOf r).map (i :: ·)
  | _ => none
theorem intsOf_eq : ∀ {ds : List D} {is : List Int}, intsOf ds = some is → ds = is.map D.int
  | [], is, h => by cases h; rfl
  | d :: ds, is, h => by
    unfold intsOf at h
    split at h <;> try cases h
    · rename_i z; cases z
    · rename_i i r z
      cases z
      cases w : intsOf ds with
      | none => rw [w] at h; cases h
      | some x => rw [w] at h; cases h; rw [List.map_cons, ← intsOf_eq w]
theorem blsOf_eq : ∀ {ds : List D} {is : List Bool}, blsOf ds = some is → ds = is.map D.bl
  | [], is, h => by cases h; rfl
  | d :: ds, is, h => by
    unfold blsOf at h
    split at h <;> try cases h
    · rename_i z; cases z
    · rename_i i r z
      cases z
      cases w : blsOf ds with
      | none => rw [w] at h; cases h
      | some x => rw [w] at h; cases h; rw [List.map_cons, ← blsOf_eq w]
@[simp] theorem intsOf_map : ∀ is : List Int, intsOf (is.map D.int) = some is
  | [] => rfl
  | i :: is => by rw [List.map_cons]; unfold intsOf; rw [intsOf_map is]; rfl
@[simp] theorem blsOf_map : ∀ is : List Bool, blsOf (is.map D.bl) = some is
  | [] => rfl
  | i :: is => by rw [List.map_cons]; unfold blsOf; rw [blsOf_map is]; rfl
theorem rpl_ints {S : Hp} : ∀ {is : List Int} {vs : List V}, RpL K S (is.map D.int) vs → vs = is.map V.int
  | [], vs, h => h.nil_inv
  | i :: is, vs, h => by
    obtain ⟨v, r, rfl, h1, h2⟩ := h.cons_inv
    rw [rp_int] at h1; subst h1
    rw [rpl_ints h2]; rfl
theorem rpl_bls {S : Hp} : ∀ {is : List Bool} {vs : List V}, RpL K S (is.map D.bl) vs → vs = is.map V.bl
  | [], vs, h => h.nil_inv
  | i :: is, vs, h => by
    obtain ⟨v, r, rfl, h1, h2⟩ := h.cons_inv
    rw [rp_bl] at h1; subst h1
    rw [rpl_bls h2]; rfl
theorem RpL.bls {S : Hp} : ∀ (is : List Bool), RpL K S (is.map D.bl) (is.map V.bl)
  | [] => RpL.nil
  | i :: is => RpL.cons (rp_bl.mpr rfl) (RpL.bls is)
def gAny : List D → Option D | [.lst xs] => (blsOf xs).map fun b => .bl (b.any id) | _ => none
def gAll : List D → Option D | [.lst xs] => (blsOf xs).map fun b => .bl (b.all id) | _ => none
def gSum : List D → Option D | [.lst xs] => (intsOf xs).map fun b => .int b.sum | _ => none
theorem omap {α β : Type} {o : Option α} {f : α → β} {b : β} (h : o.map f = some b) : ∃ a, o = some a ∧ f a = b := by
  cases o with
  | none => cases h
  | some a => cases h; exact ⟨a, rfl, rfl⟩
theorem cd_any (hc : X.calm = true) : CallD X (.builtin "any") gAny := ⟨_, cr_any hc, fun S H a d v Q hs ra e q => by
  unfold gAny at e
  split at e <;> try cases e
  obtain ⟨bs, e1, rfl⟩ := omap e
  obtain ⟨v, rfl, h1⟩ := rpl_one ra
  rw [rp_lst] at h1
  obtain ⟨p, vs, rfl, h1, h2⟩ := h1
  rw [blsOf_eq e1] at h2
  rw [rpl_bls h2] at h1
  exact ⟨p, bs, rfl, .inl (.inl (hs _ _ h1)), q _ S H (Nw.refl hs) (rp_bl.mpr rfl)⟩⟩
theorem cd_all (hc : X.calm = true) : CallD X (.builtin "all") gAll := ⟨_, cr_all hc, fun S H a d v Q hs ra e q => by
  unfold gAll at e
  split at e <;> try cases e
  obtain ⟨bs, e1, rfl⟩ := omap e
  obtain ⟨v, rfl, h1⟩ := rpl_one ra
  rw [rp_lst] at h1
  obtain ⟨p, vs, rfl, h1, h2⟩ := h1
  rw [blsOf_eq e1] at h2
  rw [rpl_bls h2] at h1
  exact ⟨p, bs, rfl, .inl (.inl (hs _ _ h1)), q _ S H (Nw.refl hs) (rp_bl.mpr rfl)⟩⟩
theorem cd_sum (hc : X.calm = true) : CallD X (.builtin "sum") gSum := ⟨_, cr_sum hc, fun S H a d v Q hs ra e q => by
  unfold gSum at e
  split at e <;> try cases e
  obtain ⟨bs, e1, rfl⟩ := omap e
  obtain ⟨v, rfl, h1⟩ := rpl_one ra
  rw [rp_lst] at h1
  obtain ⟨p, vs, rfl, h1, h2⟩ := h1
  rw [intsOf_eq e1] at h2
  rw [rpl_ints h2] at h1
  exact ⟨p, bs, rfl, .inl (.inl (hs _ _ h1)), q _ S H (Nw.refl hs) (rp_int.mpr rfl)⟩⟩
/-- the greatest, the least of ints -/
def maxI : List Int → Option Int
  | [] => none
  | x :: xs => some (xs.foldl (fun a b => if b > a then b else a) x)
def minI : List Int → Option Int
  | [] => none
  | x :: xs => some (xs.foldl (fun a b => if b < a then b else a) x)
theorem foldmax : ∀ (xs : List Int) (x : Int), x ≤ xs.foldl (fun a b => if b > a then b else a) x ∧ (∀ y ∈ xs, y ≤ xs.foldl (fun a b => if b > a then b else a) x) ∧ xs.foldl (fun a b => if b > a then b else a) x ∈ x :: xs
  | [], x => ⟨Int.le_refl _, by simp, by simp⟩
  | y :: xs, x => by
    obtain ⟨h1, h2, h3⟩ := foldmax xs (if y > x then y else x)
    rw [List.foldl_cons]
    generalize List.foldl (fun a b => if b > a then b else a) (if y > x then y else x) xs = m at *
    refine ⟨?_, fun z hz => ?_, ?_⟩
    · split at h1 <;> omega
    · rcases List.mem_cons.mp hz with e | e
      · subst e; split at h1 <;> omega
      · exact h2 z e
    · rcases List.mem_cons.mp h3 with e | e
      · split at e <;> simp [e]
      · simp [e]
theorem foldmin : ∀ (xs : List Int) (x : Int), xs.foldl (fun a b => if b < a then b else a) x ≤ x ∧ (∀ y ∈ xs, xs.foldl (fun a b => if b < a then b else a) x ≤ y) ∧ xs.foldl (fun a b => if b < a then b else a) x ∈ x :: xs
  | [], x => ⟨Int.le_refl _, by simp, by simp⟩
  | y :: xs, x => by
    obtain ⟨h1, h2, h3⟩ := foldmin xs (if y < x then y else x)
    rw [List.foldl_cons]
    generalize List.foldl (fun a b => if b < a then b else a) (if y < x then y else x) xs = m at *
    refine ⟨?_, fun z hz => ?_, ?_⟩
    · split at h1 <;> omega
    · rcases List.mem_cons.mp hz with e | e
      · subst e; split at h1 <;> omega
      · exact h2 z e
    · rcases List.mem_cons.mp h3 with e | e
      · split at e <;> simp [e]
      · simp [e]
def gMaxL : List D → Option D | [.lst xs] => (intsOf xs).bind fun b => (maxI b).map D.int | _ => none
def gMinL : List D → Option D | [.lst xs] => (intsOf xs).bind fun b => (minI b).map D.int | _ => none
theorem cd_maxL (hc : X.calm = true) : CallD X (.builtin "max") gMaxL := ⟨_, cr_max hc, fun S H a d v Q hs ra e q => by
  unfold gMaxL at e
  split at e <;> try cases e
  obtain ⟨bs, e1, e⟩ := Option.bind_eq_some_iff.mp e
  obtain ⟨v, rfl, h1⟩ := rpl_one ra
  rw [rp_lst] at h1
  obtain ⟨p, vs, rfl, h1, h2⟩ := h1
  rw [intsOf_eq e1] at h2
  rw [rpl_ints h2] at h1
  cases bs with
  | nil => cases e
  | cons x xs =>
    obtain ⟨m, e2, rfl⟩ := omap e
    cases e2
    refine ⟨p, x :: xs, rfl, .inl (.inl (hs _ _ h1)), by simp, fun m hm hy => ?_⟩
    obtain ⟨k1, k2, k3⟩ := foldmax xs x
    have : m = xs.foldl (fun a b => if b > a then b else a) x := by
      apply Int.le_antisymm
      · rcases List.mem_cons.mp hm with e | e
        · rw [e]; exact k1
        · exact k2 m e
      · exact hy _ k3
    rw [this]
    exact q _ S H (Nw.refl hs) (rp_int.mpr rfl)⟩
theorem cd_minL (hc : X.calm = true) : CallD X (.builtin "min") gMinL := ⟨_, cr_min hc, fun S H a d v Q hs ra e q => by
  unfold gMinL at e
  split at e <;> try cases e
  obtain ⟨bs, e1, e⟩ := Option.bind_eq_some_iff.mp e
  obtain ⟨v, rfl, h1⟩ := rpl_one ra
  rw [rp_lst] at h1
  obtain ⟨p, vs, rfl, h1, h2⟩ := h1
  rw [intsOf_eq e1] at h2
  rw [rpl_ints h2] at h1
  cases bs with
  | nil => cases e
  | cons x xs =>
    obtain ⟨m, e2, rfl⟩ := omap e
    cases e2
    refine ⟨p, x :: xs, rfl, .inl (.inl (hs _ _ h1)), by simp, fun m hm hy => ?_⟩
    obtain ⟨k1, k2, k3⟩ := foldmin xs x
    have : m = xs.foldl (fun a b => if b < a then b else a) x := by
      apply Int.le_antisymm
      · exact hy _ k3
      · rcases List.mem_cons.mp hm with e | e
        · rw [e]; exact k1
        · exact k2 m e
    rw [this]
    exact q _ S H (Nw.refl hs) (rp_int.mpr rfl)⟩
/-! slices -/
abbrev OM := Env → Option Pl → Option (Option Int × Option Pl)
def OS (K : PySem.W.Frag) (t : TO) (m : OM) : Prop := ∀ pp S H σ E pl d pl' (Q : Option Int → Hp → Prop), ER K pp S H σ E pl → m E pl = some (d, pl') → (∀ S' H', ER K pp S' H' σ E pl' → Ad pp S H S' H' → Q d H') → t σ H Q
def OF (X : Cx) (e : Option Expr) (m : OM) : Prop := ∃ t, PO X e t ∧ OS X.K t m
def oNo : OM := oks none
def intD : D → Option Int | .int i => some i | _ => none
def oSome (m : EM) : OM := seqM m fun x => lftM ((intD x).map some)
theorem of_none : OF X none oNo := ⟨_, po_none, fun pp S H σ E pl d pl' Q I e q => by
  obtain ⟨rfl, rfl⟩ := oks_some e
  exact q S H I Ad.refl⟩
theorem of_some {e : Expr} {m : EM} (h : EF X e m) : OF X (some e) (oSome m) := by
  obtain ⟨t, p, s⟩ := h
  refine ⟨_, po_some p, fun pp S H σ E pl d pl' Q I e q => ?_⟩
  obtain ⟨x, p1, e1, e⟩ := seqM_some e
  obtain ⟨e3, rfl⟩ := lftM_some e
  obtain ⟨i, e4, rfl⟩ := omap e3
  refine s pp S H σ E pl x _ _ I e1 fun v S1 H1 I1 a1 r1 => ?_
  unfold intD at e4
  split at e4 <;> cases e4
  rw [rp_int] at r1
  exact ⟨_, r1, q S1 H1 I1 a1⟩
/-- xs[lo:hi] of a list of anything -/
def cutD {α : Type} (xs : List α) (lo hi : Option Int) : List α := (xs.drop (HT.sIx xs.length 0 lo)).take (HT.sIx xs.length xs.length hi - HT.sIx xs.length 0 lo)
def dSl : D → Option Int → Option Int → Option D
  | .lst xs, lo, hi => some (.lst (cutD xs lo hi))
  | .tup xs, lo, hi => some (.tup (cutD xs lo hi))
  | .str z, lo, hi => if sized z.length then some (.str (cutS z lo hi)) else none
  | .scr ns, lo, hi => some (.lst ((cutD ns lo hi).map D.int))
  | _, _, _ => none
def mSl (m : EM) (lo hi : OM) : EM := seqM m fun x => seqM lo fun l => seqM hi fun h => lftM (dSl x l h)
theorem RpL.cut {S : Hp} {ds : List D} {vs : List V} (r : RpL K S ds vs) (lo hi : Option Int) : RpL K S (cutD ds lo hi) (cutV vs lo hi) := by
  unfold cutD cutV
  rw [r.len]
  exact (r.drop _).take _
theorem cut_map {α β : Type} (f : α → β) (xs : List α) (lo hi : Option Int) : cutD (xs.map f) lo hi = (cutD xs lo hi).map f := by
  unfold cutD
  rw [List.length_map, ← List.map_drop, ← List.map_take]
theorem ef_sl {e : Expr} {lo hi : Option Expr} {m : EM} {l h : OM} {pos p2 : Pos} (he : EF X e m) (hl : OF X lo l) (hh : OF X hi h) : EF X (.Subscript e (.Slice lo hi none p2) pos) (mSl m l h) := by
  obtain ⟨t, p, s⟩ := he
  obtain ⟨tl, pl, sl⟩ := hl
  obtain ⟨th, ph, sh⟩ := hh
  refine ⟨_, pe_slice ((sl_list.or sl_tupA).or sl_str) p pl ph, fun pp S H σ E pl d pl' Q I e q => ?_⟩
  obtain ⟨x, p1, e1, e⟩ := seqM_some e
  obtain ⟨y, p2, e2, e⟩ := seqM_some e
  obtain ⟨z, p3, e3, e⟩ := seqM_some e
  obtain ⟨e4, rfl⟩ := lftM_some e
  refine s pp S H σ E pl x _ _ I e1 fun v S1 H1 I1 a1 r1 => ?_
  refine sl pp S1 H1 σ E p1 y _ _ I1 e2 fun S2 H2 I2 a2 => ?_
  refine sh pp S2 H2 σ E p2 z _ _ I2 e3 fun S3 H3 I3 a3 => ?_
  have r3 := r1.mono (a2.s.trans a3.s)
  have a := (a1.trans a2).trans a3
  unfold dSl at e4
  split at e4
  · cases e4
    rw [rp_lst] at r3
    obtain ⟨b, vs, rfl, g1, g2⟩ := r3
    refine .inl (.inl ⟨b, vs, rfl, .inl (.inl (I3.sub _ _ g1)), fun p hp => ?_⟩)
    have nw := Nw.new (o := .lst (cutV vs y z)) I3.sub hp
    exact q _ _ _ (I3.nw nw) (a.trans nw.ad) (rp_lst.mpr ⟨p, _, rfl, upd_same, (g2.cut y z).mono nw.s⟩)
  · cases e4
    have r0 := r3
    rw [rp_tup] at r3
    obtain ⟨b, vs, rfl, g1, g2⟩ := r3
    refine .inl (.inr ⟨b, vs, rfl, sb_t I3.sub g1, fun w => ?_, fun _ p hp => ?_⟩)
    · have : ∀ xs : List D, RpL X.K S3 xs vs → cutD xs y z = xs := fun xs g => by
        unfold cutD
        rw [← g.len]
        rw [w.1, w.2, g.len]; simp
      refine q _ _ _ I3 a ?_
      rw [this _ g2]
      exact r0
    · have nw := Nw.new (o := .tup (cutV vs y z)) I3.sub hp
      exact q _ _ _ (I3.nw nw) (a.trans nw.ad) (rp_tup.mpr ⟨p, _, rfl, SqT.of upd_same, (g2.cut y z).mono nw.s⟩)
  · split at e4 <;> cases e4
    rw [rp_str] at r3; subst r3
    exact .inr ⟨_, rfl, sized_le (by assumption), q _ S3 H3 I3 a (rp_str.mpr rfl)⟩
  · cases e4
    rw [rp_scr] at r3
    obtain ⟨b, rfl, g1⟩ := r3
    refine .inl (.inl ⟨b, _, rfl, sb_l I3.sub g1, fun p hp => ?_⟩)
    have nw := Nw.new (o := .lst (cutV (List.map V.int ‹List Int›) y z)) I3.sub hp
    refine q _ _ _ (I3.nw nw) (a.trans nw.ad) (rp_lst.mpr ⟨p, _, rfl, upd_same, ?_⟩)
    rw [← cut_map]
    exact (RpL.ints _).cut y z
  · cases e4
/-- .. a new list -/
def dSlL : D → Option Int → Option Int → Option (List D)
  | .lst xs, lo, hi => some (cutD xs lo hi)
  | .scr ns, lo, hi => some ((cutD ns lo hi).map D.int)
  | _, _, _ => none
def mSlL (m : EM) (lo hi : OM) : AM := seqM m fun x => seqM lo fun l => seqM hi fun h => lftM (dSlL x l h)
theorem lf_sl {e : Expr} {lo hi : Option Expr} {m : EM} {l h : OM} {pos p2 : Pos} (he : EF X e m) (hl : OF X lo l) (hh : OF X hi h) : LF X (.Subscript e (.Slice lo hi none p2) pos) (mSlL m l h) := by
  obtain ⟨t, p, s⟩ := he
  obtain ⟨tl, pl, sl⟩ := hl
  obtain ⟨th, ph, sh⟩ := hh
  refine ⟨_, pe_slice sl_list p pl ph, fun pp S H σ E pl d pl' Q I e q => ?_⟩
  obtain ⟨x, p1, e1, e⟩ := seqM_some e
  obtain ⟨y, p2, e2, e⟩ := seqM_some e
  obtain ⟨z, p3, e3, e⟩ := seqM_some e
  obtain ⟨e4, rfl⟩ := lftM_some e
  refine s pp S H σ E pl x _ _ I e1 fun v S1 H1 I1 a1 r1 => ?_
  refine sl pp S1 H1 σ E p1 y _ _ I1 e2 fun S2 H2 I2 a2 => ?_
  refine sh pp S2 H2 σ E p2 z _ _ I2 e3 fun S3 H3 I3 a3 => ?_
  have r3 := r1.mono (a2.s.trans a3.s)
  have a := (a1.trans a2).trans a3
  unfold dSlL at e4
  split at e4
  · cases e4
    rw [rp_lst] at r3
    obtain ⟨b, vs, rfl, g1, g2⟩ := r3
    exact ⟨b, vs, rfl, .inl (.inl (I3.sub _ _ g1)), fun p hp => q p _ S3 _ (I3.nw (nw_new I3.sub hp)) (a.trans (nw_new I3.sub hp).ad) (none_ad a hp) (sb_none I3.sub hp) upd_same (g2.cut y z)⟩
  · cases e4
    rw [rp_scr] at r3
    obtain ⟨b, rfl, g1⟩ := r3
    refine ⟨b, _, rfl, sb_l I3.sub g1, fun p hp => q p _ S3 _ (I3.nw (nw_new I3.sub hp)) (a.trans (nw_new I3.sub hp).ad) (none_ad a hp) (sb_none I3.sub hp) upd_same ?_⟩
    rw [← cut_map]
    exact (RpL.ints _).cut y z
  · cases e4
/-! enumerate -/
def enumD (i : Nat) : List D → List D
  | [] => []
  | x :: xs => .tup [.int i, x] :: enumD (i + 1) xs
theorem enumD_get : ∀ (xs : List D) (i j : Nat), (enumD i xs)[j]? = (xs[j]?).map fun x => D.tup [.int ((i + j : Nat) : Int), x]
  | [], i, j => by simp [enumD]
  | x :: xs, i, 0 => by simp [enumD]
  | x :: xs, i, j + 1 => by
    unfold enumD
    rw [List.getElem?_cons_succ, List.getElem?_cons_succ, enumD_get xs (i + 1) j, show i + 1 + j = i + (j + 1) by omega]
theorem enumD_len : ∀ (xs : List D) (i : Nat), (enumD i xs).length = xs.length
  | [], i => rfl
  | x :: xs, i => by unfold enumD; rw [List.length_cons, List.length_cons, enumD_len xs]
def enumI : List D → Option (List D)
  | [.lst xs] => some (enumD 0 xs)
  | _ => none
theorem js_enum {S : Hp} {a : Addr} {ds : List D} {vs : List V} (h : SqL K S a vs) (r : RpL K S ds vs) : JS K S (Ite K a) (enumD 0 ds) := by
  refine ⟨fun i d S' H h1 h2 h3 => ?_, fun i S' H h1 h2 h3 => ?_⟩
  · rw [enumD_get] at h3
    obtain ⟨x, e1, rfl⟩ := omap h3
    obtain ⟨v, g1, g2⟩ := r.get e1
    refine ⟨⟨vs, v, sb_l (h1.trans h2) h, g1⟩, fun y H' hy => ?_⟩
    obtain ⟨T, z, rfl, hT, rfl, hz⟩ := hy
    have := hz vs (sb_l (h1.trans h2) h)
    rw [g1] at this; cases this
    have nw := Nw.new (o := .tup [.int (i : Nat), v]) h2 hT
    refine ⟨_, nw, rp_tup.mpr ⟨T, _, rfl, SqT.of upd_same, RpL.cons (rp_int.mpr (by simp)) (RpL.cons (g2.mono (h1.trans nw.s)) RpL.nil)⟩⟩
  · rw [enumD_len] at h3
    exact ⟨vs, sb_l (h1.trans h2) h, by rw [r.len]; exact h3⟩
theorem if_enum {e : Expr} {m : AM} {p pos tpos : Pos} {elts : List Expr} {kk : Nat} (hg : Gl X "enumerate") (hm : X.mg "enumerate" = none) (ha : AF X [e] m) (hs : nst e = true := by rfl) : IF X (.Tuple elts kk tpos) (.Call (.Name "enumerate" p) [e] [] pos) (mRng enumI m) := by
  obtain ⟨t, pa, s⟩ := ha
  refine ⟨_, pi_enum hg hm pa (star_nst hs), fun pp S H σ E pl ds pl' R I e q => ?_⟩
  obtain ⟨x, q1, e1, f1⟩ := seqM_some e
  obtain ⟨e2, rfl⟩ := lftM_some f1
  refine s pp S H σ E pl x _ _ I e1 fun v S1 H1 J a1 r1 => ?_
  unfold enumI at e2
  split at e2 <;> cases e2
  obtain ⟨v, rfl, h1⟩ := rpl_one r1
  rw [rp_lst] at h1
  obtain ⟨a, vs, rfl, g1, g2⟩ := h1
  exact ⟨a, vs, rfl, .inl (.inl (J.sub _ _ g1)), q _ S1 H1 J a1 (js_enum (.inl (.inl g1)) g2)⟩
/-- sorted(ints) -/
def isort (xs : List Int) : List Int := xs.mergeSort (fun a b => decide (a ≤ b))
theorem isort_uniq {xs ys : List Int} (h : ys.Perm xs) (g : ys.Pairwise (· ≤ ·)) : ys = isort xs := by
  have h2 : (isort xs).Pairwise (· ≤ ·) := by
    have := List.pairwise_mergeSort (le := fun a b : Int => decide (a ≤ b)) (by intro a b c; simp; omega) (by intro a b; simp; omega) xs
    exact this.imp (by simp)
  exact List.Perm.eq_of_pairwise (le := fun a b : Int => a ≤ b) (by intro a b _ _ h1 h2; omega) g h2 (h.trans (List.mergeSort_perm xs _).symm)
def gSortI : List D → Option (List D) | [.lst xs] => (intsOf xs).map fun is => (isort is).map D.int | _ => none
theorem cl_sortI : CallL X (.builtin "sorted") gSortI := ⟨_, cr_sortedI, fun S H a d v Q hs ra e q => by
  unfold gSortI at e
  split at e <;> try cases e
  obtain ⟨bs, e1, rfl⟩ := omap e
  obtain ⟨v, rfl, h1⟩ := rpl_one ra
  rw [rp_lst] at h1
  obtain ⟨p, vs, rfl, h1, h2⟩ := h1
  rw [intsOf_eq e1] at h2
  rw [rpl_ints h2] at h1
  refine ⟨p, bs, rfl, .inl (.inl (hs _ _ h1)), fun ns' p1 k1 k2 k3 => ?_⟩
  rw [isort_uniq k1 k2]
  exact q p1 _ S _ (nw_new hs k3) k3 (sb_none hs k3) upd_same (RpL.ints _)⟩
end
end Dn
set_option Elab.async false
set_option linter.all false
set_option maxRecDepth 100000
set_option maxHeartbeats 2000000
namespace Dn
open PySem PySem.Spec PyProof.Rows L2

/-! ### operators that give a new list -/
section
variable {X : Cx} {K : PySem.W.Frag}
def RL2 (K : PySem.W.Frag) (r : R2) (g : D → D → Option (List D)) : Prop := ∀ S H a b d v u (Q : VK), Sb S H → Rp K S a v → Rp K S b u → g a b = some d → (∀ p vs S' H', Nw S H S' H' → H p = none → S' p = none → H' p = some (.lst vs) → RpL K S' d vs → Q (.ref p) H') → r v u H Q
def OpL (X : Cx) (f : Value → Value → Sem Value) (g : D → D → Option (List D)) : Prop := ∃ r, OpR X f r ∧ RL2 X.K r g
def mOpL (g : D → D → Option (List D)) (ma mb : EM) : AM := seqM ma fun x => seqM mb fun y => lftM (g x y)
theorem LS.op {r : R2} {g : D → D → Option (List D)} {ta tb : TE} {ma mb : EM} (hr : RL2 K r g) (ha : ES K ta ma) (hb : ES K tb mb) : LS K (tOp r ta tb) (mOpL g ma mb) := fun pp S H σ E pl d pl' Q I e q => by
  obtain ⟨x, p1, e1, e⟩ := seqM_some e
  obtain ⟨y, p2, e2, e⟩ := seqM_some e
  obtain ⟨e3, rfl⟩ := lftM_some e
  refine ha pp S H σ E pl x p1 _ I e1 fun v S1 H1 I1 a1 r1 => ?_
  refine hb pp S1 H1 σ E p1 y _ _ I1 e2 fun u S2 H2 I2 a2 r2 => ?_
  exact hr S2 H2 x y d v u Q I2.sub (r1.mono a2.s) r2 e3 fun p vs S3 H3 a3 h1 h2 h3 r3 => q p vs S3 H3 (I2.nw a3) ((a1.trans a2).trans a3.ad) (none_ad (a1.trans a2) h1) h2 h3 r3
theorem lf_op {op : Operator} {g : D → D → Option (List D)} {a b : Expr} {ma mb : EM} {pos : Pos} (ho : OpL X (binaryOp op) g) (ha : EF X a ma) (hb : EF X b mb) : LF X (.BinOp a op b pos) (mOpL g ma mb) := by
  obtain ⟨r, q, s⟩ := ho
  obtain ⟨t1, p1, s1⟩ := ha
  obtain ⟨t2, p2, s2⟩ := hb
  exact ⟨_, pe_op q p1 p2, LS.op s s1 s2⟩
def catL : D → D → Option (List D) | .lst a, .lst b => if sized (a.length + b.length) then some (a ++ b) else none | _, _ => none
theorem ol_cat : OpL X (binaryOp .Add) catL := ⟨_, op_cat, fun S H a b d v u Q hs ra rb e q => by
  unfold catL at e; split at e <;> try cases e
  split at e <;> cases e
  rename_i hz
  rw [rp_lst] at ra rb
  obtain ⟨p, vs, rfl, h1, h2⟩ := ra
  obtain ⟨p', us, rfl, g1, g2⟩ := rb
  exact ⟨p, p', vs, us, rfl, rfl, hs _ _ h1, hs _ _ g1, by rw [h2.len, g2.len]; exact sized_le hz, fun r hr => q r _ S _ (nw_new hs hr) hr (sb_none hs hr) upd_same (h2.append g2)⟩⟩
def repL : D → D → Option (List D)
  | .lst a, .int k => if decide (k.natAbs < 2 ^ 60) && sized (a.length * k.toNat) then some (List.replicate k.toNat a).flatten else none
  | _, _ => none
theorem ol_rep : OpL X (binaryOp .Mult) repL := ⟨_, op_rep, fun S H a b d v u Q hs ra rb e q => by
  unfold repL at e; split at e <;> try cases e
  split at e <;> cases e
  rename_i a k hz
  simp only [Bool.and_eq_true, decide_eq_true_eq] at hz
  rw [rp_lst] at ra
  rw [rp_int] at rb
  subst rb
  obtain ⟨p, vs, rfl, h1, h2⟩ := ra
  exact ⟨p, _, vs, rfl, rfl, hs _ _ h1, by omega, by omega, by rw [h2.len]; exact sized_le hz.2, fun r hr => q r _ S _ (nw_new hs hr) hr (sb_none hs hr) upd_same (h2.rep _)⟩⟩
/-! zip -/
def zipD : List D → List D → List D
  | x :: xs, y :: ys => .tup [x, y] :: zipD xs ys
  | _, _ => []
theorem zipD_get : ∀ (xs ys : List D) (j : Nat) (d : D), (zipD xs ys)[j]? = some d → ∃ x y, xs[j]? = some x ∧ ys[j]? = some y ∧ d = .tup [x, y]
  | [], ys, j, d, h => by simp [zipD] at h
  | x :: xs, [], j, d, h => by simp [zipD] at h
  | x :: xs, y :: ys, 0, d, h => by simp [zipD] at h; exact ⟨x, y, rfl, rfl, h.symm⟩
  | x :: xs, y :: ys, j + 1, d, h => by
    unfold zipD at h
    rw [List.getElem?_cons_succ] at h
    obtain ⟨a, b, h1, h2, h3⟩ := zipD_get xs ys j d h
    exact ⟨a, b, by rw [List.getElem?_cons_succ]; exact h1, by rw [List.getElem?_cons_succ]; exact h2, h3⟩
theorem zipD_len : ∀ (xs ys : List D), (zipD xs ys).length = min xs.length ys.length
  | [], ys => by simp [zipD]
  | x :: xs, [] => by simp [zipD]
  | x :: xs, y :: ys => by unfold zipD; rw [List.length_cons, zipD_len xs ys, List.length_cons, List.length_cons]; omega
end
end Dn
set_option Elab.async false
set_option linter.all false
set_option maxRecDepth 100000
set_option maxHeartbeats 2000000
/-! zip(a, b, strict=True) of lists and tuples of one length -/
namespace Zs
open PySem PySem.Spec PyProof.Rows L2 Builtin

/-- an iterator over a list (true) or a tuple (false) -/
def SqIt (h : Heap) (i a : Addr) (k : Nat) (its : Array Value) : Bool → Prop
  | true => h.IsListIter i a k ∧ h.IsList a its
  | false => h.IsTupleIter i a k ∧ h.IsTuple a its
theorem SqIt.at {h h' : Heap} {i a : Addr} {k : Nat} {its : Array Value} : ∀ {d : Bool}, SqIt h i a k its d → (∀ o, h.get? i = some o → h'.get? i = some o) → (∀ o, h.get? a = some o → h'.get? a = some o) → SqIt h' i a k its d
  | true, x, e1, e2 => ⟨x.1.at e1, x.2.at e2⟩
  | false, x, e1, e2 => ⟨x.1.at e1, x.2.at e2⟩
section
variable {prog : Program} {w : World} {A : Around} {E : Value → Shared → Prop} {s : Shared}
theorem nx_item {dd : Bool} {i a : Addr} {k : Nat} {its : Array Value} {x : Value} {Q : Option Value → Shared → Prop} (st : SqIt s.heap i a k its dd) (hne : a ≠ i) (hx : its[k]? = some x)
    (hQ : ∀ h', SqIt h' i a (k + 1) its dd → Heap.SameBut i s.heap h' → Q (some x) { s with heap := h' }) : wpAny (model prog w) A (SmallTypes.nextOrEnd (.ref i)) Q E s := by
  unfold SmallTypes.nextOrEnd
  refine wpAny_bind (wpAny_attempt ?_)
  cases dd
  · exact wpAny_nextOf_tuple_item st.1 st.2 hx fun h' h1' hs => wpAny_pure (hQ h' ⟨h1', st.2.extBut hs.extBut hne⟩ hs)
  · exact wpAny_nextOf_list_item st.1 st.2 hx fun h' h1' hs => wpAny_pure (hQ h' ⟨h1', st.2.extBut hs.extBut hne⟩ hs)
theorem nx_end {dd : Bool} {i a : Addr} {k : Nat} {its : Array Value} {Q : Option Value → Shared → Prop} (hh : A.handled = none) (st : SqIt s.heap i a k its dd) (hx : its[k]? = none)
    (hQ : ∀ h', Heap.ExtBut i s.heap h' → Q none { s with heap := h' }) : wpAny (model prog w) A (SmallTypes.nextOrEnd (.ref i)) Q E s := by
  unfold SmallTypes.nextOrEnd
  refine wpAny_bind (wpAny_attempt ?_)
  have fin : ∀ h' e, Heap.ExtBut i s.heap h' → (∃ o, h'.get? e = some o ∧ o.cls = .type "StopIteration") → wpAny (model prog w) A (do if ← isInstance (.ref e) (.type "StopIteration") then pure none else throw (.ref e)) Q E { s with heap := h' } := by
    intro h' e hk ⟨o, ho, hc⟩
    refine wpAny_bind (wpAny_isInstance (T := "StopIteration") (b := true) ⟨o, ho, hc⟩ isSubtype_stop ?_)
    exact wpAny_pure (hQ _ hk)
  cases dd
  · exact wpAny_nextOf_tuple_end hh st.1 st.2 hx fun h' e hk he => fin h' e hk he
  · exact wpAny_nextOf_list_end hh st.1 st.2 hx fun h' e hk he => fin h' e hk he
end
abbrev IsZs (h : Heap) (z TI TO : Addr) (f0 : Value) : Prop :=
  h.get? z = some { cls := .type "zip", dict := none, data := .fields #[f0, .bool false, .bool true, .ref TI, .ref TO], slots := #[] }
section
variable {prog : Program} {w : World} {A : Around} {E : Value → Shared → Prop} {s : Shared}
theorem next_item {d1 d2 : Bool} {z TI TO i1 i2 l1 l2 : Addr} {k : Nat} {xs ys : Array Value} {x y a b : Value} {Q : Value → Shared → Prop} (D : ZipApart z TI TO i1 i2 l1 l2)
    (hz : IsZs s.heap z TI TO .none) (hTI : IsPair s.heap TI (.ref i1) (.ref i2)) (hTO : IsPair s.heap TO a b)
    (h1 : SqIt s.heap i1 l1 k xs d1) (h2 : SqIt s.heap i2 l2 k ys d2) (hx : xs[k]? = some x) (hy : ys[k]? = some y)
    (hQ : ∀ h', IsZs h' z TI TO (rawInt s.heap.objs.size) → IsPair h' TO x y → SqIt h' i1 l1 (k + 1) xs d1 → SqIt h' i2 l2 (k + 1) ys d2 → IsPair h' s.heap.objs.size x y → h'.objs.size = s.heap.objs.size + 1 →
      (∀ c o, c ≠ z → c ≠ TO → c ≠ i1 → c ≠ i2 → s.heap.get? c = some o → h'.get? c = some o) → Q (.ref s.heap.objs.size) { s with heap := h' }) :
    wpAny (model prog w) A (Builtin.«zip.__next__» ⟨[.ref z], []⟩) (fun fin s' => ∃ v, fin = .done (.ret v) ∧ Q v s') E s := by
  show wpAny _ _ (field (.ref z) 2 >>= _) _ _ _
  refine wpAny_bind (wpAny_field hz rfl (x := .bool true) rfl ?_)
  show wpAny _ _ (field (.ref z) 3 >>= _) _ _ _
  refine wpAny_bind (wpAny_field hz rfl (x := .ref TI) rfl ?_)
  refine wpAny_bind (wpAny_seqItems hTI rfl ?_)
  show wpAny _ _ (SmallTypes.ownedTupleIsFree (.ref z) >>= _) _ _ _
  refine wpAny_bind ?_
  unfold SmallTypes.ownedTupleIsFree
  refine wpAny_bind (wpAny_field hz rfl (x := .none) rfl (wpAny_pure ?_))
  simp only [if_true]
  refine wpAny_bind (wpAny_rule ?_)
  refine wpAny_bind (wpAny_field hz rfl (x := .ref TO) rfl ?_)
  refine wpAny_bind (wpAny_setField_rec hz (by simp) fun h₁ hz₁ hs₁ => ?_)
  replace hz₁ : IsZs h₁ z TI TO .ellipsis := hz₁
  refine wpAny_bind ?_
  simp only [List.zipIdx_cons, List.zipIdx_nil, List.forIn_cons, List.forIn_nil]
  refine wpAny_bind (wpAny_bind (wpAny_onRaise ?_))
  show wpAny _ _ (SmallTypes.nextOrEnd (.ref i1)) _ _ _
  refine nx_item (s := { s with heap := h₁ }) (h1.at (fun o e => hs₁.extBut _ _ D.i1z e) (fun o e => hs₁.extBut _ _ D.l1z e)) D.l1i1 hx fun h₂ h1₂ hs₂ => ?_
  have hTO₂ : IsPair h₂ TO a b := hs₂.extBut _ _ D.TOi1 (hs₁.extBut _ _ D.TOz hTO)
  refine wpAny_bind (wpAny_seqItems hTO₂ rfl ?_)
  refine wpAny_bind (wpAny_updateSeq_pair hTO₂ fun h₃ hTO₃ hs₃ => ?_)
  replace hTO₃ : IsPair h₃ TO x b := hTO₃
  refine wpAny_bind (wpAny_letGo (wpAny_pure ?_))
  refine wpAny_bind (wpAny_bind (wpAny_onRaise ?_))
  show wpAny _ _ (SmallTypes.nextOrEnd (.ref i2)) _ _ _
  refine nx_item (s := { s with heap := h₃ }) (h2.at (fun o e => hs₃.extBut _ _ D.TOi2.symm (hs₂.extBut _ _ D.i12.symm (hs₁.extBut _ _ D.i2z e))) (fun o e => hs₃.extBut _ _ D.l2TO (hs₂.extBut _ _ D.l2i1 (hs₁.extBut _ _ D.l2z e)))) D.l2i2 hy fun h₄ h2₄ hs₄ => ?_
  have hTO₄ : IsPair h₄ TO x b := hs₄.extBut _ _ D.TOi2 hTO₃
  refine wpAny_bind (wpAny_seqItems hTO₄ rfl ?_)
  refine wpAny_bind (wpAny_updateSeq_pair hTO₄ fun h₅ hTO₅ hs₅ => ?_)
  replace hTO₅ : IsPair h₅ TO x y := hTO₅
  refine wpAny_bind (wpAny_letGo (wpAny_pure (wpAny_pure ?_)))
  refine wpAny_bind (wpAny_seqItems hTO₅ rfl ?_)
  refine wpAny_bind (wpAny_newTuple ?_)
  have hsz : h₅.objs.size = s.heap.objs.size := by rw [hs₅.1, hs₄.1, hs₃.1, hs₂.1, hs₁.1]
  have hz₅ : IsZs h₅ z TI TO .ellipsis := hs₅.extBut _ _ D.TOz.symm (hs₄.extBut _ _ D.i2z.symm (hs₃.extBut _ _ D.TOz.symm (hs₂.extBut _ _ D.i1z.symm hz₁)))
  have hk₅ : ∀ c o, c ≠ z → c ≠ TO → c ≠ i1 → c ≠ i2 → s.heap.get? c = some o → h₅.get? c = some o := fun c o c1 c2 c3 c4 e =>
    hs₅.extBut _ _ c2 (hs₄.extBut _ _ c4 (hs₃.extBut _ _ c2 (hs₂.extBut _ _ c3 (hs₁.extBut _ _ c1 e))))
  have h1₅ : SqIt h₅ i1 l1 (k + 1) xs d1 := h1₂.at (fun o e => hs₅.extBut _ _ D.TOi1.symm (hs₄.extBut _ _ D.i12 (hs₃.extBut _ _ D.TOi1.symm e))) (fun o e => hs₅.extBut _ _ D.l1TO (hs₄.extBut _ _ D.l1i2 (hs₃.extBut _ _ D.l1TO e)))
  have h2₅ : SqIt h₅ i2 l2 (k + 1) ys d2 := h2₄.at (fun o e => hs₅.extBut _ _ D.TOi2.symm e) (fun o e => hs₅.extBut _ _ D.l2TO e)
  have hzlt : z < h₅.objs.size := Heap.lt_size hz₅
  show wpAny _ _ (SmallTypes.ownedTupleHandOut (.ref z) (.ref h₅.objs.size) >>= _) _ _ _
  refine wpAny_bind ?_
  unfold SmallTypes.ownedTupleHandOut
  have hz₆ : IsZs (h₅.push { cls := .type "tuple", data := .seq #[x, y] }) z TI TO .ellipsis := Heap.get?_push_of_some _ hz₅
  refine wpAny_bind (wpAny_setField_rec hz₆ (by simp) fun h₇ hz₇ hs₇ => ?_)
  replace hz₇ : IsZs h₇ z TI TO (rawInt h₅.objs.size) := hz₇
  refine wpAny_setField_rec hz₇ (by simp) fun h₈ hz₈ hs₈ => ?_
  replace hz₈ : IsZs h₈ z TI TO (rawInt h₅.objs.size) := hz₈
  have up : ∀ c o, c ≠ z → h₅.get? c = some o → h₈.get? c = some o := fun c o c1 e => hs₈.extBut _ _ c1 (hs₇.extBut _ _ c1 (Heap.get?_push_of_some _ e))
  have hT₈ : IsPair h₈ h₅.objs.size x y := hs₈.extBut _ _ (Nat.ne_of_gt hzlt) (hs₇.extBut _ _ (Nat.ne_of_gt hzlt) (Heap.get?_push_size _ rfl))
  have hz8 : h₈.objs.size = h₅.objs.size + 1 := by rw [hs₈.1, hs₇.1, Heap.size_push]
  rw [hsz] at hz₈ hT₈ hz8
  refine wpAny_pure ⟨_, rfl, ?_⟩
  show Q (.ref h₅.objs.size) _
  rw [hsz]
  exact hQ h₈ hz₈ (up _ _ D.TOz hTO₅) (h1₅.at (fun o e => up _ o D.i1z e) (fun o e => up _ o D.l1z e)) (h2₅.at (fun o e => up _ o D.i2z e) (fun o e => up _ o D.l2z e)) hT₈ hz8 fun c o c1 c2 c3 c4 e => up c o c1 (hk₅ c o c1 c2 c3 c4 e)
end
end Zs
set_option Elab.async false
set_option linter.all false
set_option maxRecDepth 100000
set_option maxHeartbeats 4000000
namespace Zs
open PySem PySem.Spec PyProof.Rows L2 Builtin
section
variable {prog : Program} {w : World} {A : Around} {E : Value → Shared → Prop} {s : Shared}
theorem next_end {d1 d2 : Bool} {z TI TO i1 i2 l1 l2 : Addr} {k : Nat} {xs ys : Array Value} {a b : Value} {Q : Fin → Shared → Prop} (hh : A.handled = none) (D : ZipApart z TI TO i1 i2 l1 l2)
    (hz : IsZs s.heap z TI TO .none) (hTI : IsPair s.heap TI (.ref i1) (.ref i2)) (hTO : IsPair s.heap TO a b)
    (h1 : SqIt s.heap i1 l1 k xs d1) (h2 : SqIt s.heap i2 l2 k ys d2) (hx : xs[k]? = none) (hy : ys[k]? = none)
    (hE : ∀ h' e, (∀ c o, c ≠ z → c ≠ TO → c ≠ i1 → c ≠ i2 → s.heap.get? c = some o → h'.get? c = some o) → (∃ o, h'.get? e = some o ∧ o.cls = .type "StopIteration") → E (.ref e) { s with heap := h' }) :
    wpAny (model prog w) A (Builtin.«zip.__next__» ⟨[.ref z], []⟩) Q E s := by
  show wpAny _ _ (field (.ref z) 2 >>= _) _ _ _
  refine wpAny_bind (wpAny_field hz rfl (x := .bool true) rfl ?_)
  show wpAny _ _ (field (.ref z) 3 >>= _) _ _ _
  refine wpAny_bind (wpAny_field hz rfl (x := .ref TI) rfl ?_)
  refine wpAny_bind (wpAny_seqItems hTI rfl ?_)
  show wpAny _ _ (SmallTypes.ownedTupleIsFree (.ref z) >>= _) _ _ _
  refine wpAny_bind ?_
  unfold SmallTypes.ownedTupleIsFree
  refine wpAny_bind (wpAny_field hz rfl (x := .none) rfl (wpAny_pure ?_))
  simp only [if_true]
  refine wpAny_bind (wpAny_rule ?_)
  refine wpAny_bind (wpAny_field hz rfl (x := .ref TO) rfl ?_)
  refine wpAny_bind (wpAny_setField_rec hz (by simp) fun h₁ hz₁ hs₁ => ?_)
  replace hz₁ : IsZs h₁ z TI TO .ellipsis := hz₁
  refine wpAny_bind ?_
  simp only [List.zipIdx_cons, List.zipIdx_nil, List.forIn_cons, List.forIn_nil]
  refine wpAny_bind (wpAny_bind (wpAny_onRaise ?_))
  show wpAny _ _ (SmallTypes.nextOrEnd (.ref i1)) _ _ _
  refine nx_end (s := { s with heap := h₁ }) hh (h1.at (fun o e => hs₁.extBut _ _ D.i1z e) (fun o e => hs₁.extBut _ _ D.l1z e)) hx fun h₂ hs₂ => ?_
  have hz₂ : IsZs h₂ z TI TO .ellipsis := hs₂ _ _ D.i1z.symm hz₁
  refine wpAny_bind (wpAny_setField_rec hz₂ (by simp) fun h₃ _ hs₃ => ?_)
  refine wpAny_bind ?_
  show wpAny (model prog w) A (forIn [((.ref i2 : Value), 1)] PUnit.unit _ >>= _) _ _ _
  refine wpAny_bind ?_
  rw [List.forIn_cons]
  refine wpAny_bind (wpAny_bind ?_)
  refine nx_end (s := { s with heap := h₃ }) hh (h2.at (fun o e => hs₃.extBut _ _ D.i2z (hs₂ _ _ D.i12.symm (hs₁.extBut _ _ D.i2z e))) (fun o e => hs₃.extBut _ _ D.l2z (hs₂ _ _ D.l2i1 (hs₁.extBut _ _ D.l2z e)))) hy fun h₄ hs₄ => ?_
  refine wpAny_pure ?_
  show wpAny (model prog w) A (forIn ([] : List (Value × Nat)) PUnit.unit _) _ _ _
  rw [List.forIn_nil]
  refine wpAny_pure ?_
  refine wpAny_bind (wpAny_rule ?_)
  show wpAny _ _ (newExc (.type "StopIteration") [] >>= _) _ _ _
  refine wpAny_bind ?_
  simp only [newExc, newTuple]
  refine wpAny_bind (wpAny_newObj_type ?_ (by size_fits))
  refine wpAny_bind (m := firstArgMember _ _) (wpAny_of_eq (a := Value.none) (by first | rfl | (simp only [firstArgMember]; rfl)) ?_)
  refine wpAny_newObj_type ?_ (by size_fits)
  simp only [raiseNew]
  refine wpAny_bind (wpAny_handled ?_)
  rw [hh]
  refine wpAny_bind (wpAny_pure (wpAny_throw ?_))
  refine hE _ _ (fun c o c1 c2 c3 c4 x => ?_) ⟨_, Heap.get?_push_size _ rfl, rfl⟩
  exact Heap.get?_push_of_some _ (Heap.get?_push_of_some _ (hs₄ _ _ c4 (hs₃.extBut _ _ c1 (hs₂ _ _ c3 (hs₁.extBut _ _ c1 x)))))
theorem pyNext_item {d1 d2 : Bool} {z TI TO i1 i2 l1 l2 : Addr} {k : Nat} {xs ys : Array Value} {x y a b : Value} {Q : Option Value → Shared → Prop} (D : ZipApart z TI TO i1 i2 l1 l2)
    (hz : IsZs s.heap z TI TO .none) (hTI : IsPair s.heap TI (.ref i1) (.ref i2)) (hTO : IsPair s.heap TO a b)
    (h1 : SqIt s.heap i1 l1 k xs d1) (h2 : SqIt s.heap i2 l2 k ys d2) (hx : xs[k]? = some x) (hy : ys[k]? = some y)
    (hQ : ∀ h', IsZs h' z TI TO (rawInt s.heap.objs.size) → IsPair h' TO x y → SqIt h' i1 l1 (k + 1) xs d1 → SqIt h' i2 l2 (k + 1) ys d2 → IsPair h' s.heap.objs.size x y → h'.objs.size = s.heap.objs.size + 1 →
      (∀ c o, c ≠ z → c ≠ TO → c ≠ i1 → c ≠ i2 → s.heap.get? c = some o → h'.get? c = some o) → Q (some (.ref s.heap.objs.size)) { s with heap := h' }) :
    wpAny (model prog w) A (pyNext (.ref z)) Q E s := by
  have hT : s.TypeIs (.ref z) "zip" := ⟨_, hz, rfl⟩
  unfold pyNext
  exact wpAny_bind (wpAny_attempt (wpAny_callSpecial?_slot (name := Str.ofString "__next__") hT F.slot_zip_next
    (wpAny_call_entry F.slot_zip_next hT F.entry_zip_next
      (next_item D hz hTI hTO h1 h2 hx hy fun h' a1 a2 a3 a4 a5 a6 a7 => wpAny_pure (hQ h' a1 a2 a3 a4 a5 a6 a7)) (F.args_zip_next_1 _))))
theorem pyNext_end {d1 d2 : Bool} {z TI TO i1 i2 l1 l2 : Addr} {k : Nat} {xs ys : Array Value} {a b : Value} {Q : Option Value → Shared → Prop} (hh : A.handled = none) (D : ZipApart z TI TO i1 i2 l1 l2)
    (hz : IsZs s.heap z TI TO .none) (hTI : IsPair s.heap TI (.ref i1) (.ref i2)) (hTO : IsPair s.heap TO a b)
    (h1 : SqIt s.heap i1 l1 k xs d1) (h2 : SqIt s.heap i2 l2 k ys d2) (hx : xs[k]? = none) (hy : ys[k]? = none)
    (hQ : ∀ h', (∀ c o, c ≠ z → c ≠ TO → c ≠ i1 → c ≠ i2 → s.heap.get? c = some o → h'.get? c = some o) → Q none { s with heap := h' }) : wpAny (model prog w) A (pyNext (.ref z)) Q E s := by
  have hT : s.TypeIs (.ref z) "zip" := ⟨_, hz, rfl⟩
  unfold pyNext
  refine wpAny_bind (wpAny_attempt (wpAny_callSpecial?_slot (name := Str.ofString "__next__") hT F.slot_zip_next
    (wpAny_call_entry F.slot_zip_next hT F.entry_zip_next (next_end hh D hz hTI hTO h1 h2 hx hy fun h' e hk he => ?_) (F.args_zip_next_1 _))))
  obtain ⟨o, ho, hc⟩ := he
  refine wpAny_bind (wpAny_isInstance (T := "StopIteration") (b := true) ⟨o, ho, hc⟩ isSubtype_stop ?_)
  exact wpAny_pure (hQ _ hk)
theorem letGo_zs {elts : List Expr} {x1} {pos : Pos} {z TI TO T : Addr} {Q : Unit → Shared → Prop} (hz : IsZs s.heap z TI TO (rawInt T))
    (hQ : ∀ h', IsZs h' z TI TO .none → Heap.SameBut z s.heap h' → Q () { s with heap := h' }) :
    wpAny (model prog w) A (letOwnedTupleGo (.Tuple elts x1 pos) (.ref z) (.ref T)) Q E s := by
  unfold letOwnedTupleGo
  refine wpAny_bind (wpAny_load hz ?_)
  show wpAny _ _ (if (["enumerate", "zip", "dict_itemiterator", "dict_reverseitemiterator", "odict_iterator", "itertools.zip_longest", "itertools.pairwise"].contains "zip" &&
      (#[rawInt T, .bool false, .bool true, .ref TI, .ref TO] : Array Value)[0]? == some (rawInt T)) = true then _ else _) Q E s
  rw [if_pos (by simp)]
  refine wpAny_bind (wpAny_rule ?_)
  show wpAny _ _ (setField (.ref z) 0 .none) Q E s
  exact wpAny_setField_rec hz (by simp) fun h' hz' hs' => hQ h' hz' hs'
theorem pyIter_zs {z TI TO : Addr} {f0 : Value} {Q : Value → Shared → Prop} (hz : IsZs s.heap z TI TO f0) (h : Q (.ref z) s) : wpAny (model prog w) A (pyIter (.ref z)) Q E s := by
  have hT : s.TypeIs (.ref z) "zip" := ⟨_, hz, rfl⟩
  refine wpAny_pyIter_slot hT F.slot_zip_iter (wpAny_call_entry F.slot_zip_iter hT F.entry_zip_iter ?_ (F.args_zip_iter_1 _))
  show wpAny _ _ (ret (.ref z)) _ _ s
  exact wpAny_pure ⟨_, rfl, "zip", _, hT, F.slot_zip_next.lookup, h⟩
end
end Zs
set_option Elab.async false
set_option linter.all false
set_option maxRecDepth 100000
set_option maxHeartbeats 4000000
namespace Zs
open PySem PySem.Spec PyProof.Rows L2 Builtin
/-- a list (true) or a tuple (false) -/
def Sq (K : PySem.W.Frag) (H : Hp) (a : Addr) (xs : List V) : Bool → Prop
  | true => SqL K H a xs
  | false => SqT K H a xs
def ItA (h : Heap) (i a : Addr) (k : Nat) : Bool → Prop
  | true => h.IsListIter i a k
  | false => h.IsTupleIter i a k
theorem ItA.at {h h' : Heap} {i a : Addr} {k : Nat} : ∀ {d : Bool}, ItA h i a k d → (∀ o, h.get? i = some o → h'.get? i = some o) → ItA h' i a k d
  | true, x, e => Heap.IsListIter.at x e
  | false, x, e => Heap.IsTupleIter.at x e
theorem ItA.obj {h : Heap} {i a : Addr} {k : Nat} : ∀ {d : Bool}, ItA h i a k d → ∃ o, h.get? i = some o ∧ ∀ v, o.data ≠ .cell v
  | true, ⟨o, e, _, d⟩ => ⟨o, e, fun v q => by rw [d] at q; cases q⟩
  | false, ⟨o, e, _, d⟩ => ⟨o, e, fun v q => by rw [d] at q; cases q⟩
theorem ItA.lt {h : Heap} {i a : Addr} {k : Nat} {d : Bool} (x : ItA h i a k d) : i < h.objs.size := by
  obtain ⟨o, e, _⟩ := x.obj; exact Heap.lt_size e
def ObA (h : Heap) (a : Addr) (its : Array Value) : Bool → Prop
  | true => h.IsList a its
  | false => h.IsTuple a its
theorem ObA.lt {h : Heap} {a : Addr} {its : Array Value} : ∀ {d : Bool}, ObA h a its d → a < h.objs.size
  | true, x => by obtain ⟨o, e, _⟩ := x; exact Heap.lt_size e
  | false, x => by obtain ⟨o, e, _⟩ := x; exact Heap.lt_size e
theorem seqI {X : Cx} {pins : List (Addr × Obj)} {σ : L2.St} {H : Hp} {s : Shared} (I : Inv X pins σ H s) {a : Addr} {xs : List V} {d : Bool} (h : Sq X.K H a xs d) : ∃ its : List Value, Vals xs its ∧ ObA s.heap a its.toArray d := by
  cases d
  · obtain ⟨its, rv, p, _⟩ := I.tuple h; exact ⟨its, rv, p⟩
  · obtain ⟨its, rv, p, _⟩ := I.list h; exact ⟨its, rv, p.isList⟩
theorem seq_inj {X : Cx} {pins : List (Addr × Obj)} {σ : L2.St} {H : Hp} {s : Shared} (I : Inv X pins σ H s) {a : Addr} {xs ys : List V} {d : Bool} (h : Sq X.K H a xs d) (h' : Sq X.K H a ys d) : xs = ys := by
  cases d
  · exact I.tuple_inj h h'
  · exact I.list_inj h h'
theorem sq_it {h : Heap} {i a : Addr} {k : Nat} {its : Array Value} : ∀ {d : Bool}, ItA h i a k d → ObA h a its d → SqIt h i a k its d
  | true, x, y => ⟨x, y⟩
  | false, x, y => ⟨x, y⟩
theorem it_sq {h : Heap} {i a : Addr} {k : Nat} {its : Array Value} : ∀ {d : Bool}, SqIt h i a k its d → ItA h i a k d
  | true, x => x.1
  | false, x => x.1
/-- pairs of the items at a and b, as many there as here -/
def Itzs (K : PySem.W.Frag) (a b : Addr) (d1 d2 : Bool) : It :=
  ⟨fun i H => ∃ (xs ys : List V) (x y : V), Sq K H a xs d1 ∧ Sq K H b ys d2 ∧ xs[i]? = some x ∧ ys[i]? = some y,
    fun i H v H' => ∃ T x y, v = .ref T ∧ H T = none ∧ H' = upd H T (.tup [x, y]) ∧ (∀ xs, Sq K H a xs d1 → xs[i]? = some x) ∧ ∀ ys, Sq K H b ys d2 → ys[i]? = some y,
    fun i H => ∃ xs ys : List V, Sq K H a xs d1 ∧ Sq K H b ys d2 ∧ xs.length ≤ i ∧ ys.length ≤ i⟩
theorem turn_zs {P : Program} {w : World} {K : PySem.W.Frag} {elts : List Expr} {kk : Nat} {tpos : Pos} {a b z TI TO i1 i2 : Addr} {d1 d2 : Bool} (D : ZipApart z TI TO i1 i2 a b) :
    Turn P w K (.Tuple elts kk tpos) (Itzs K a b d1 d2) [z, TI, TO, i1, i2] z (fun i h => IsZs h z TI TO .none ∧ IsPair h TI (.ref i1) (.ref i2) ∧ (∃ x y, IsPair h TO x y) ∧ ItA h i1 a i d1 ∧ ItA h i2 b i d2) where
  mem := by simp
  obj := fun i h st c hc => by
    obtain ⟨hz, hTI, ⟨x, y, hTO⟩, q1, q2⟩ := st
    have e' : c = z ∨ c = TI ∨ c = TO ∨ c = i1 ∨ c = i2 := by simpa using hc
    rcases e' with q | q | q | q | q
    · rw [q]; exact ⟨_, hz, fun v q => nomatch q⟩
    · rw [q]; exact ⟨_, hTI, fun v q => nomatch q⟩
    · rw [q]; exact ⟨_, hTO, fun v q => nomatch q⟩
    · rw [q]; exact q1.obj
    · rw [q]; exact q2.obj
  keep := fun i h h' st k => by
    obtain ⟨hz, hTI, ⟨x, y, hTO⟩, h1, h2⟩ := st
    exact ⟨k z (by simp) _ hz, k TI (by simp) _ hTI, ⟨x, y, k TO (by simp) _ hTO⟩, h1.at fun o q => k i1 (by simp) o q, h2.at fun o q => k i2 (by simp) o q⟩
  item := by
    intro X hP hw hK hc i pins s σ H E I hf st hg
    subst hP hw hK
    obtain ⟨hz, hTI, ⟨x0, y0, hTO⟩, h1, h2⟩ := st
    obtain ⟨xs, ys, x, y, hqx, hqy, hx, hy⟩ := hg
    obtain ⟨its, rv, p⟩ := seqI I hqx
    obtain ⟨its2, rv2, p2⟩ := seqI I hqy
    obtain ⟨u, hu, ru⟩ := rv.get hx
    obtain ⟨u2, hu2, ru2⟩ := rv2.get hy
    have hzl : z < s.heap.objs.size := Heap.lt_size hz
    refine pyNext_item D hz hTI hTO (sq_it h1 p) (sq_it h2 p2) (x := u) (y := u2) (by simpa using hu) (by simpa using hu2) fun h' z' TO' h1' h2' hT hsz hk => ?_
    refine ⟨_, rfl, letGo_zs (s := { s with heap := h' }) z' fun h'' z'' sb => ?_⟩
    have hT2 : h''.get? s.heap.objs.size = some { cls := .type "tuple", data := .seq #[u, u2] } := (sb.2 _ (Nat.ne_of_gt hzl)).trans hT
    have new : ObjOk X.prog X.w (upd H s.heap.objs.size (.tup [x, y])) h'' s.heap.objs.size (.tup [x, y]) :=
      ⟨by show 2 ≤ sizeLine; decide, [u, u2], .cons ru (.cons ru2 .nil), ⟨_, hT2, rfl, _, rfl⟩⟩
    have I1 : Inv X pins σ (upd H s.heap.objs.size (.tup [x, y])) { s with heap := h'' } :=
      I.turnedNew (t' := s.toks) (ch := [z, TI, TO, i1, i2]) (fun c o hb q => (sb.2 c (fun q' => hb (by simp [q']))).trans (hk c o (fun q' => hb (by simp [q'])) (fun q' => hb (by simp [q'])) (fun q' => hb (by simp [q'])) (fun q' => hb (by simp [q'])) q)) hf (Nat.le_refl _) new
    refine ⟨.ref s.heap.objs.size, _, I1, rfl, ⟨_, x, y, rfl, I.hok.fresh (Nat.le_refl _), rfl, fun l hl => by rw [seq_inj I hl hqx]; exact hx, fun l hl => by rw [seq_inj I hl hqy]; exact hy⟩, ⟨z'', ?_, ⟨u, u2, ?_⟩, ?_, ?_⟩, fun c hcm => ?_⟩
    · exact (sb.2 _ D.TIz).trans (hk _ _ D.TIz D.TITO D.TIi1 D.TIi2 hTI)
    · exact (sb.2 _ D.TOz).trans TO'
    · exact (it_sq h1').at fun o q => (sb.2 _ D.i1z).trans q
    · exact (it_sq h2').at fun o q => (sb.2 _ D.i2z).trans q
    · have hlt : c < s.heap.objs.size := by
        have e' : c = z ∨ c = TI ∨ c = TO ∨ c = i1 ∨ c = i2 := by simpa using hcm
        rcases e' with q | q | q | q | q
        · rw [q]; exact hzl
        · rw [q]; exact Heap.lt_size hTI
        · rw [q]; exact Heap.lt_size hTO
        · rw [q]; exact h1.lt
        · rw [q]; exact h2.lt
      rw [upd_ne (Nat.ne_of_lt hlt)]
      exact (hf c hcm).1
  done := by
    intro X hP hw hK hc i pins s σ H E I hf st hg
    subst hP hw hK
    obtain ⟨hz, hTI, ⟨x0, y0, hTO⟩, h1, h2⟩ := st
    obtain ⟨xs, ys, hqx, hqy, e1, e2⟩ := hg
    obtain ⟨its, rv, p⟩ := seqI I hqx
    obtain ⟨its2, rv2, p2⟩ := seqI I hqy
    have l1 := rv.length
    have l2 := rv2.length
    exact pyNext_end (I.ok.hd hc) D hz hTI hTO (sq_it h1 p) (sq_it h2 p2) (by simp; omega) (by simp; omega) fun h' hk => ⟨rfl, I.turnedL (t' := s.toks) (ch := [z, TI, TO, i1, i2]) (fun c o hb q =>
      hk c o (fun q' => hb (by simp [q'])) (fun q' => hb (by simp [q'])) (fun q' => hb (by simp [q'])) (fun q' => hb (by simp [q'])) q) hf⟩
  self := fun A i s Q E st h => pyIter_zs st.1 h
end Zs
namespace Zs
open PySem PySem.Spec PyProof.Rows L2 Builtin
abbrev szZ2 (h : Heap) (o1 o2 : Obj) : Heap := (gzO2 h o1 o2).push { cls := .type "zip", data := .fields #[.none, .bool false, .bool true, .ref ((h.push o1).push o2).objs.size, .ref (gzT2 h o1 o2).objs.size] }
set_option maxHeartbeats 1000000 in
theorem meets_zs {v1 v2 : Value} {o1 o2 : Obj} {H1 H2 : Heap → Prop} (B1 : Begins v1 o1 H1) (B2 : Begins v2 o2 H2) :
    Meets (Builtin.«zip.__new__» ⟨[.type "zip", v1, v2], [(Str.ofString "strict", .bool true)]⟩) (fun _ R s => (H1 s.heap ∧ H2 s.heap) ∧
      R (.ok (.ret (.ref (gzO2 s.heap o1 o2).objs.size))) { s with heap := szZ2 s.heap o1 o2 }) :=
  .of_wp fun prog w A R s h => by
    obtain ⟨hp, g, d, tk, os⟩ := s; obtain ⟨⟨h1, h2⟩, h⟩ := h
    have hsub := sub_zip
    have q1 : ∀ {A' : Around} {E : Value → Shared → Prop} {Q : Value → Shared → Prop}, Q (.ref hp.objs.size) ⟨(hp.push o1), g, d, tk, os⟩ → wpAny (model prog w) A' (pyIter v1) Q E ⟨hp, g, d, tk, os⟩ :=
      fun q => B1.iter prog w _ _ ⟨hp, g, d, tk, os⟩ _ (B1.keeps _ _ h1 fun b o' e => e) q
    have q2 : ∀ {A' : Around} {E : Value → Shared → Prop} {Q : Value → Shared → Prop}, Q (.ref (hp.push o1).objs.size) ⟨((hp.push o1).push o2), g, d, tk, os⟩ → wpAny (model prog w) A' (pyIter v2) Q E ⟨(hp.push o1), g, d, tk, os⟩ :=
      fun q => B2.iter prog w _ _ ⟨(hp.push o1), g, d, tk, os⟩ _ (B2.keeps _ _ h2 fun b o' e => (Heap.get?_push_of_some _ e)) q
    have e1 : (Str.ofString "strict" == ("strict" : Str)) = true := by decide +kernel
    have e2 : (Str.ofString "strict" != ("strict" : Str)) = false := by decide +kernel
    wp_walk using q1, q2
    all_goals first | exact ⟨_, rfl, h⟩ | skip
theorem F.typeCall_zs (a b c : Value) : checkTypeCall "zip" ⟨[a, b], [(Str.ofString "strict", c)]⟩ = pure () := by kernel_rfl
theorem F.newCall_zs (a b c : Value) : checkBuiltinCall "zip.__new__" ⟨[.type "zip", a, b], [(Str.ofString "strict", c)]⟩ = pure () := by kernel_rfl
theorem F.init_zs (obj a b c : Value) : argsOk "object.__init__" ⟨[obj, a, b], [(Str.ofString "strict", c)]⟩ := by unfold argsOk; kernel_rfl
end Zs
set_option Elab.async false
set_option linter.all false
set_option maxRecDepth 100000
set_option maxHeartbeats 4000000
namespace Zs
open PySem PySem.Spec PyProof.Rows L2 Builtin
section
variable {prog : Program} {w : World} {A : Around} {E : Value → Shared → Prop} {s : Shared}
theorem zs_begins {v1 v2 : Value} {o1 o2 : Obj} {H1 H2 : Heap → Prop} {Q : Value → Shared → Prop} (B1 : Begins v1 o1 H1) (B2 : Begins v2 o2 H2) (h1 : H1 s.heap) (h2 : H2 s.heap)
    (h : ∀ h', IsZs h' (s.heap.objs.size + 4) (s.heap.objs.size + 2) (s.heap.objs.size + 3) .none → IsPair h' (s.heap.objs.size + 2) (.ref s.heap.objs.size) (.ref (s.heap.objs.size + 1)) →
      IsPair h' (s.heap.objs.size + 3) .none .none → h'.get? s.heap.objs.size = some o1 → h'.get? (s.heap.objs.size + 1) = some o2 → h'.objs.size = s.heap.objs.size + 5 →
      (∀ c o, s.heap.get? c = some o → h'.get? c = some o) → Q (.ref (s.heap.objs.size + 4)) { s with heap := h' }) :
    wpAny (model prog w) A (call (.type "zip") [v1, v2] [(Str.ofString "strict", .bool true)]) Q E s := by
  refine callType_newKw F.called_zip (by decide) (F.typeCall_zs _ _ _) (F.newCall_zs _ _ _) (fun obj => F.init_zs obj _ _ _) F.entry_zip_new
    (meets_zs B1 B2) ⟨⟨h1, h2⟩, ?_⟩
  have z1 : (s.heap.push o1).objs.size = s.heap.objs.size + 1 := by rw [Heap.size_push]
  have z2 : ((s.heap.push o1).push o2).objs.size = s.heap.objs.size + 2 := by rw [Heap.size_push, z1]
  have zT : (gzT2 s.heap o1 o2).objs.size = s.heap.objs.size + 3 := by rw [Heap.size_push, z2]
  have zO : (gzO2 s.heap o1 o2).objs.size = s.heap.objs.size + 4 := by rw [Heap.size_push, zT]
  have zZ : (szZ2 s.heap o1 o2).objs.size = s.heap.objs.size + 5 := by rw [Heap.size_push, zO]
  have gZ : (szZ2 s.heap o1 o2).get? (gzO2 s.heap o1 o2).objs.size = some { cls := .type "zip", data := .fields #[.none, .bool false, .bool true, .ref ((s.heap.push o1).push o2).objs.size, .ref (gzT2 s.heap o1 o2).objs.size] } := Heap.get?_push_size _ rfl
  have gO : (szZ2 s.heap o1 o2).get? (gzT2 s.heap o1 o2).objs.size = some { cls := .type "tuple", data := .seq #[.none, .none] } := Heap.get?_push_of_some _ (Heap.get?_push_size _ rfl)
  have gT : (szZ2 s.heap o1 o2).get? ((s.heap.push o1).push o2).objs.size = some { cls := .type "tuple", data := .seq #[.ref s.heap.objs.size, .ref (s.heap.push o1).objs.size] } := Heap.get?_push_of_some _ (Heap.get?_push_of_some _ (Heap.get?_push_size _ rfl))
  have g1 : (szZ2 s.heap o1 o2).get? s.heap.objs.size = some o1 := Heap.get?_push_of_some _ (Heap.get?_push_of_some _ (Heap.get?_push_of_some _ (Heap.get?_push_of_some _ (Heap.get?_push_size _ B1.free))))
  have g2 : (szZ2 s.heap o1 o2).get? (s.heap.push o1).objs.size = some o2 := Heap.get?_push_of_some _ (Heap.get?_push_of_some _ (Heap.get?_push_of_some _ (Heap.get?_push_size _ B2.free)))
  rw [zO, zT, z2] at gZ
  rw [zT] at gO
  rw [z2, z1] at gT
  rw [z1] at g2
  show _ ∧ _
  rw [zO]
  exact ⟨⟨_, gZ, rfl⟩, h _ gZ gT gO g1 g2 zZ fun c o e => Heap.get?_push_of_some _ (Heap.get?_push_of_some _ (Heap.get?_push_of_some _ (Heap.get?_push_of_some _ (Heap.get?_push_of_some _ e))))⟩
theorem callWith_tyKw {M : Model} {pos : Pos} {T : String} {first : List Value} {args : List (Bool × Sem Value)} {keywords : List (Option Str × Sem Value)} {Q : Value → Shared → Prop}
    (hplain : args.any (·.1) = false) (hkw : keywords.any (·.1.isNone) = false)
    (h : wpAny M A (evalArgs (.type T) true args keywords) (fun a s₁ => wpAny M A (call (.type T) (first ++ a.pos) a.kw) Q E s₁) E s) :
    wpAny M A (callWith pos (.type T) first args keywords) Q E s := by
  unfold callWith
  refine wpAny_bind (wpAny_holding (wpAny_mono h (fun a s₁ h₁ => wpAny_bind (wpAny_standAt ?_)) fun _ _ x => x))
  simp only [hplain, hkw, Bool.or_false]
  refine wpAny_bind (wpAny_pure ?_)
  exact wpAny_bind (wpAny_mono h₁ (fun r s₂ hr => wpAny_bind (wpAny_holding (wpAny_point (wpAny_pure hr)))) fun _ _ x => x)
end
def bob (a : Addr) : Bool → Obj
  | true => { cls := .type "list_iterator", data := .fields #[.ref a, .int 0 0] }
  | false => { cls := .type "tuple_iterator", data := .fields #[.ref a, .int 0 0] }
theorem begs (a : Addr) (its : Array Value) : ∀ d : Bool, Begins (.ref a) (bob a d) fun h => ObA h a its d
  | true => begins_list a its
  | false => begins_tuple a its
theorem bob_it {h : Heap} {i a : Addr} : ∀ {d : Bool}, h.get? i = some (bob a d) → ItA h i a 0 d
  | true, e => ⟨_, e, rfl, rfl⟩
  | false, e => ⟨_, e, rfl, rfl⟩
def iZs (K : PySem.W.Frag) (ta : TA) : TI := fun σ H R => ta σ H fun vs H1 => ∃ a b xs ys d1 d2, vs = [.ref a, .ref b] ∧ Sq K H1 a xs d1 ∧ Sq K H1 b ys d2 ∧ R (Itzs K a b d1 d2) H1
theorem pi_zs {X : Cx} {e e2 : Expr} {ta : TA} {p pos tpos kp cp : Pos} {j : Nat} {elts : List Expr} {kk : Nat} (hg : Gl X "zip") (hm : X.mg "zip" = none) (ha : PA X [e, e2] ta)
    (hs : starEach [e, e2] X.env = (false, eval e X.env) :: starEach [e2] X.env := by rfl) (hpl : (backTo pos (starEach [e2] X.env)).any (·.1) = false := by rfl) :
    PI X (.Tuple elts kk tpos) (.Call (.Name "zip" p) [e, e2] [⟨some "strict", .Constant (.bool true) j cp, kp⟩] pos) (iZs X.K ta) := by
  refine ⟨fun pins s σ H R I h => ?_⟩
  have he : eval (.Call (.Name "zip" p) [e, e2] [⟨some "strict", .Constant (.bool true) j cp, kp⟩] pos) X.env = (do callWith pos (← eval (.Name "zip" p) X.env) [] (backTo pos (starEach [e, e2] X.env)) (backToKw pos (keywordEach [⟨some "strict", .Constant (.bool true) j cp, kp⟩] X.env))) := by rfl
  rw [he]
  refine wpAny_bind (ld_blt I hg hm PyProof.Rows.boot_zip ?_)
  have hr := ha.run pos pins s σ H _ I h
  rw [hs] at hr ⊢
  refine callWith_tyKw (by show (false || (backTo pos (starEach [e2] X.env)).any (·.1)) = false; rw [hpl]; rfl) rfl (evalArgs_kwB rfl (thn hr fun us s1 ⟨vs, H1, I1, r1, q1⟩ => kws_cons ?_))
  refine wpAny_of_eq (a := Value.bool true) rfl ?_
  refine kws_nil ?_
  obtain ⟨a, b, xs, ys, d1, d2, ex, hqx, hqy, q⟩ := q1
  subst ex
  cases r1 with
  | cons r rr =>
    cases rr with
    | cons r' rr =>
      cases rr
      cases r
      cases r'
      have fresh5 : ∀ c, c ∈ [s1.heap.objs.size + 4, s1.heap.objs.size + 2, s1.heap.objs.size + 3, s1.heap.objs.size, s1.heap.objs.size + 1] → FpOk X pins H1 c := fun c hcm => by
        have e' : c = s1.heap.objs.size + 4 ∨ c = s1.heap.objs.size + 2 ∨ c = s1.heap.objs.size + 3 ∨ c = s1.heap.objs.size ∨ c = s1.heap.objs.size + 1 := by simpa using hcm
        have hle : s1.heap.objs.size ≤ c := by
          rcases e' with z | z | z | z | z
          · rw [z]; exact Nat.le_add_right _ _
          · rw [z]; exact Nat.le_add_right _ _
          · rw [z]; exact Nat.le_add_right _ _
          · rw [z]; exact Nat.le_refl _
          · rw [z]; exact Nat.le_add_right _ _
        exact I1.fpOk hle (I1.hok.fresh hle)
      obtain ⟨its, rv, p1⟩ := seqI I1 hqx
      obtain ⟨its2, rv2, p2⟩ := seqI I1 hqy
      refine zs_begins (begs a its.toArray d1) (begs b its2.toArray d2) p1 p2 fun h' hz hTI hTO g1 g2 hsz hk => pyIter_zs hz ?_
      have I2 : Inv X pins σ H1 { s1 with heap := h' } := I1.kept (t' := s1.toks) hk
      exact ⟨s1.heap.objs.size + 4, [s1.heap.objs.size + 4, s1.heap.objs.size + 2, s1.heap.objs.size + 3, s1.heap.objs.size, s1.heap.objs.size + 1], _, _, H1, rfl, I2, turn_zs (PySem.W.ktu_apart s1.heap.objs.size a b p1.lt p2.lt), ⟨hz, hTI, ⟨_, _, hTO⟩, bob_it g1, bob_it g2⟩, fresh5, q⟩
end Zs
namespace Dn
open PySem PySem.Spec PyProof.Rows L2
def zipI : List D → Option (List D)
  | [a, b] => match itD a, itD b with
    | some xs, some ys => if xs.length = ys.length then some (zipD xs ys) else none
    | _, _ => none
  | _ => none
theorem sq_of {K : PySem.W.Frag} {S : Hp} {d : D} {v : V} {xs : List D} (h : Rp K S d v) (e : itD d = some xs) : ∃ a vs k, v = .ref a ∧ Zs.Sq K S a vs k ∧ RpL K S xs vs := by
  unfold itD at e
  split at e <;> cases e
  · rw [rp_lst] at h
    obtain ⟨a, vs, rfl, h1, h2⟩ := h
    exact ⟨a, vs, true, rfl, .inl (.inl h1), h2⟩
  · rw [rp_tup] at h
    obtain ⟨a, vs, rfl, h1, h2⟩ := h
    exact ⟨a, vs, false, rfl, h1, h2⟩
  · rw [rp_scr] at h
    obtain ⟨a, rfl, h1⟩ := h
    exact ⟨a, _, true, rfl, h1, RpL.ints _⟩
theorem sb_sq {K : PySem.W.Frag} {S H : Hp} {a : Addr} {vs : List V} (e : Sb S H) : ∀ {k : Bool}, Zs.Sq K S a vs k → Zs.Sq K H a vs k
  | true, h => sb_l e h
  | false, h => sb_t e h
theorem js_zs {K : PySem.W.Frag} {S : Hp} {a b : Addr} {d1 d2 : Bool} {xs ys : List D} {vs us : List V} (h1 : Zs.Sq K S a vs d1) (h2 : Zs.Sq K S b us d2) (r1 : RpL K S xs vs) (r2 : RpL K S ys us) (hl : xs.length = ys.length) : JS K S (Zs.Itzs K a b d1 d2) (zipD xs ys) := by
  refine ⟨fun i d S' H e1 e2 e3 => ?_, fun i S' H e1 e2 e3 => ?_⟩
  · obtain ⟨x, y, g1, g2, rfl⟩ := zipD_get _ _ _ _ e3
    obtain ⟨v, k1, k2⟩ := r1.get g1
    obtain ⟨u, k3, k4⟩ := r2.get g2
    refine ⟨⟨vs, us, v, u, sb_sq (e1.trans e2) h1, sb_sq (e1.trans e2) h2, k1, k3⟩, fun z H' hy => ?_⟩
    obtain ⟨T, p, q, rfl, hT, rfl, hp, hq⟩ := hy
    have := hp vs (sb_sq (e1.trans e2) h1)
    rw [k1] at this; cases this
    have := hq us (sb_sq (e1.trans e2) h2)
    rw [k3] at this; cases this
    have nw := Nw.new (o := .tup [v, u]) e2 hT
    exact ⟨_, nw, rp_tup.mpr ⟨T, _, rfl, SqT.of upd_same, RpL.cons (k2.mono (e1.trans nw.s)) (RpL.cons (k4.mono (e1.trans nw.s)) RpL.nil)⟩⟩
  · rw [zipD_len, hl, Nat.min_self] at e3
    exact ⟨vs, us, sb_sq (e1.trans e2) h1, sb_sq (e1.trans e2) h2, by rw [r1.len]; omega, by rw [r2.len]; exact e3⟩
theorem if_zs {X : Cx} {e e2 : Expr} {m : AM} {p pos tpos kp cp : Pos} {j : Nat} {elts : List Expr} {kk : Nat} (hg : Gl X "zip") (hm : X.mg "zip" = none) (ha : AF X [e, e2] m) (hs : nst e = true := by rfl) (hs2 : nst e2 = true := by rfl) :
    IF X (.Tuple elts kk tpos) (.Call (.Name "zip" p) [e, e2] [⟨some "strict", .Constant (.bool true) j cp, kp⟩] pos) (mRng zipI m) := by
  obtain ⟨t, pa, s⟩ := ha
  have hb : (backTo pos (starEach [e2] X.env)).any (·.1) = false := back_nst (by simp only [nsts, hs2]; rfl)
  refine ⟨_, Zs.pi_zs hg hm pa (star_nst hs) hb, fun pp S H σ E pl ds pl' R I e q => ?_⟩
  obtain ⟨x, q1, e1, f1⟩ := seqM_some e
  obtain ⟨e3, rfl⟩ := lftM_some f1
  refine s pp S H σ E pl x _ _ I e1 fun v S1 H1 J a1 r1 => ?_
  unfold zipI at e3
  split at e3 <;> try cases e3
  split at e3 <;> try cases e3
  rename_i da db _ xs ys z1 z2
  split at e3 <;> cases e3
  rename_i hl
  obtain ⟨v1, v2, rfl, w1, w2⟩ := rpl_two r1
  obtain ⟨a, vs, k1, rfl, g1, g2⟩ := sq_of w1 z1
  obtain ⟨b, us, k2, rfl, g3, g4⟩ := sq_of w2 z2
  exact ⟨a, b, vs, us, k1, k2, rfl, sb_sq J.sub g1, sb_sq J.sub g3, q _ S1 H1 J a1 (js_zs g1 g3 g2 g4 hl)⟩
end Dn
set_option Elab.async false
set_option linter.all false
set_option maxRecDepth 100000
set_option maxHeartbeats 2000000
namespace Dn
open PySem PySem.Spec PyProof.Rows L2
/-! targets: a, b, .. = a tuple or a list of that length -/
section
variable {X : Cx} {K : PySem.W.Frag}
def gTL (n : Nat) (f : List D → Env → Option Env) : TM := fun d E => match d with
  | .tup ds => bM (ds.length == n) (f ds E) none
  | .lst ds => bM (ds.length == n) (f ds E) none
  | _ => none
def gOr (t u : TG) : TG := fun v σ H Q => t v σ H Q ∨ u v σ H Q
theorem pg_or {tg : Expr} {t u : TG} (h : PG X tg t) (g : PG X tg u) : PG X tg (gOr t u) :=
  ⟨fun pins s σ H v u' Q I r hw => hw.elim (h.run pins s σ H v u' Q I r) (g.run pins s σ H v u' Q I r)⟩
theorem gf_tl {es : List Expr} {k : Nat} {fs : List D → Env → Option Env} {pos : Pos} (n : Nat) (hc : X.calm = true) (h : GFs X es fs) (hn : (assignEach es X.env).length = n := by rfl) (hst : (assignEach es X.env).findIdx? (·.1) = none := by rfl) :
    GF X (.Tuple es k pos) (gTL n fs) := by
  obtain ⟨g, p, s⟩ := h
  refine ⟨_, pg_or (pg_tup hc p hn hst) (pg_lst hc p hn hst), fun C pp S H σ E pl d v E' Q I r e q => ?_⟩
  unfold gTL at e
  split at e
  · rename_i ds
    rw [rp_tup] at r
    obtain ⟨a, vs, rfl, h1, h2⟩ := r
    cases hz : ds.length == n with
    | false => rw [hz] at e; cases e
    | true =>
      rw [hz] at e
      exact .inl ⟨a, vs, rfl, sb_t I.sub h1, by rw [h2.len]; exact eq_of_beq hz, s C pp S H σ E pl ds vs E' Q I h2 e q⟩
  · rename_i ds
    rw [rp_lst] at r
    obtain ⟨a, vs, rfl, h1, h2⟩ := r
    cases hz : ds.length == n with
    | false => rw [hz] at e; cases e
    | true =>
      rw [hz] at e
      exact .inr ⟨a, vs, rfl, .inl (.inl (I.sub _ _ h1)), by rw [h2.len]; exact eq_of_beq hz, s C pp S H σ E pl ds vs E' Q I h2 e q⟩
  · cases e
theorem ge_tl {es : List Expr} {k : Nat} {fs : List D → Env → Option Env} {pos : Pos} {sl : List Nat} (n : Nat) (hc : X.calm = true) (h : GEFs X es fs sl) (hn : (assignEach es X.env).length = n := by rfl) (hst : (assignEach es X.env).findIdx? (·.1) = none := by rfl) :
    GEF X (.Tuple es k pos) (gTL n fs) sl := by
  obtain ⟨g, p, s⟩ := h
  refine ⟨_, pg_or (pg_tup hc p hn hst) (pg_lst hc p hn hst), fun pp S H σ E pl d v E' Q I r e q => ?_⟩
  unfold gTL at e
  split at e
  · rename_i ds
    rw [rp_tup] at r
    obtain ⟨a, vs, rfl, h1, h2⟩ := r
    cases hz : ds.length == n with
    | false => rw [hz] at e; cases e
    | true =>
      rw [hz] at e
      exact .inl ⟨a, vs, rfl, sb_t I.sub h1, by rw [h2.len]; exact eq_of_beq hz, s pp S H σ E pl ds vs E' Q I h2 e q⟩
  · rename_i ds
    rw [rp_lst] at r
    obtain ⟨a, vs, rfl, h1, h2⟩ := r
    cases hz : ds.length == n with
    | false => rw [hz] at e; cases e
    | true =>
      rw [hz] at e
      exact .inr ⟨a, vs, rfl, .inl (.inl (I.sub _ _ h1)), by rw [h2.len]; exact eq_of_beq hz, s pp S H σ E pl ds vs E' Q I h2 e q⟩
  · cases e
end
end Dn
set_option Elab.async false
set_option linter.all false
set_option maxRecDepth 100000
set_option maxHeartbeats 2000000
namespace Dn
open PySem PySem.Spec PyProof.Rows L2
/-! x.extend(list) -/
section
variable {X : Cx} {K : PySem.W.Frag}
def sExtF (F : List Nat) (i : Nat) (m : EM) : SM := fun E pl => match m (vw F E) pl with
  | some (.lst ys, p) => match (frz F E)[i]? with
    | some (.own xs) => bM (sized (xs.length + ys.length)) (some (.nx ((frz F E).set i (.own (xs ++ ys))) p)) none
    | _ => none
  | _ => none
theorem SS.extF {te : TE} {i : Nat} {m : EM} (F : List Nat) (s : ES K te m) : SS K (tDrop (tBM K "list" rExtend (tVar i) (tCons te tNil))) (sExtF F i m) := fun C pp S H σ E pl D' out I e q => by
  unfold sExtF at e
  cases h : m (vw F E) pl with
  | none => rw [h] at e; cases e
  | some r =>
    obtain ⟨d, p⟩ := r
    rw [h] at e
    cases d <;> dsimp only at e <;> try cases e
    rename_i ys
    split at e
    · rename_i xs hx
      cases hn : (sized (xs.length + ys.length)) with
      | false => rw [hn] at e; cases e
      | true =>
        rw [hn] at e; cases e
        have hx0 : E[i]? = some (.own xs) := by
          rw [frz_get] at hx
          by_cases hi : i ∈ F
          · rw [if_pos hi] at hx
            cases z : E[i]? with
            | none => rw [z] at hx; cases hx
            | some s1 => rw [z] at hx; cases s1 <;> cases hx
          · rw [if_neg hi] at hx; exact hx
        obtain ⟨a, vs, g1, g2, g3⟩ := I.ownL hx0
        refine ⟨_, g1, .inl ⟨rfl, _, .inl (.inl g2)⟩, ?_⟩
        refine s pp _ H σ _ pl (.lst ys) _ _ (I.er F) h fun v S1 H1 J a1 r1 => ?_
        have I1 := I.fin J a1
        obtain ⟨a', vs', k1, k2, k3⟩ := I1.ownL hx
        rw [g1] at k1; cases k1
        rw [rp_lst] at r1
        obtain ⟨b, us, rfl, w1, w2⟩ := r1
        refine ⟨a, b, vs', us, rfl, rfl, k2, J.sub _ _ w1, by rw [k3.len, w2.len]; exact sized_le hn, ?_⟩
        exact q pp _ _ σ PpS.refl (I1.upd hx rfl g1 (sl' := .own (xs ++ ys)) rfl ⟨_, rfl, k3.append w2⟩)
    · cases e
theorem sf_extF {st : Stmt} {i : Nat} {m : EM} (F : List Nat) (h : MtF X st rExtend i m) : SF X st (sExtF F i m) := let ⟨_, p, s⟩ := h; ⟨_, p, SS.extF F s⟩
end
end Dn
set_option Elab.async false
set_option linter.all false
set_option maxRecDepth 100000
set_option maxHeartbeats 2000000
namespace Dn
open PySem PySem.Spec PyProof.Rows L2
section
variable {X : Cx} {K : PySem.W.Frag}
theorem rpl_low {S S' : Hp} (low : ∀ d v, noL d = true → Rp K S d v → Rp K S' d v) : ∀ {ds : List D} {vs : List V}, noLL ds = true → RpL K S ds vs → RpL K S' ds vs
  | [], vs, _, r => by rw [r.nil_inv]; exact RpL.nil
  | d :: ds, vs, h, r => by
    obtain ⟨v, us, rfl, r1, r2⟩ := r.cons_inv
    simp only [noLL, Bool.and_eq_true] at h
    exact RpL.cons (low d v h.1 r1) (rpl_low low h.2 r2)
/-- x.extend(ys), the items know no list, the own slots stay own -/
def sExtS (i : Nat) (m : EM) : SM := fun E pl => match m E pl with
  | some (.lst ys, p) => match E[i]? with
    | some (.own xs) => bM (noLL ys && sized (xs.length + ys.length)) (some (.nx (E.set i (.own (xs ++ ys))) p)) none
    | _ => none
  | _ => none
theorem SS.extS {te : TE} {i : Nat} {m : EM} (s : ES K te m) : SS K (tDrop (tBM K "list" rExtend (tVar i) (tCons te tNil))) (sExtS i m) := fun C pp S H σ E pl D' out I e q => by
  unfold sExtS at e
  cases h : m E pl with
  | none => rw [h] at e; cases e
  | some r =>
    obtain ⟨d, p⟩ := r
    rw [h] at e
    cases d <;> dsimp only at e <;> try cases e
    rename_i ys
    split at e
    · rename_i xs hx
      cases hn : (noLL ys && sized (xs.length + ys.length)) with
      | false => rw [hn] at e; cases e
      | true =>
        rw [hn] at e; cases e
        rw [Bool.and_eq_true] at hn
        obtain ⟨a, vs, g1, g2, g3⟩ := I.ownL hx
        refine ⟨_, g1, .inl ⟨rfl, _, .inl (.inl g2)⟩, ?_⟩
        refine s pp _ H σ E pl (.lst ys) _ _ I.erA h fun v S1 H1 J a1 r1 => ?_
        obtain ⟨I1, low⟩ := I.back J a1
        obtain ⟨a', vs', k1, k2, k3⟩ := I1.ownL hx
        rw [g1] at k1; cases k1
        rw [rp_lst] at r1
        obtain ⟨b, us, rfl, w1, w2⟩ := r1
        refine ⟨a, b, vs', us, rfl, rfl, k2, J.sub _ _ w1, by rw [k3.len, w2.len]; exact sized_le hn.2, ?_⟩
        exact q pp _ _ σ PpS.refl (I1.upd hx rfl g1 (sl' := .own (xs ++ ys)) rfl ⟨_, rfl, k3.append (rpl_low low hn.1 w2)⟩)
    · cases e
theorem sf_extS {st : Stmt} {i : Nat} {m : EM} (h : MtF X st rExtend i m) : SF X st (sExtS i m) := let ⟨_, p, s⟩ := h; ⟨_, p, SS.extS s⟩
/-- x = a new list (own from here on) whose items know no list; the own slots stay own -/
def sOwnS (i : Nat) (m : AM) : SM := fun E pl => match m E pl with
  | some (ys, p) => bM (noLL ys) (some (.nx (E.set i (.own ys)) p)) none
  | none => none
theorem SS.ownS {te : TE} {m : AM} (i : Nat) (s : LS K te m) : SS K (tAsg te (gName i)) (sOwnS i m) := fun C pp S H σ E pl D' out I e q => by
  unfold sOwnS at e
  cases h : m E pl with
  | none => rw [h] at e; cases e
  | some r =>
    obtain ⟨xs, p⟩ := r
    rw [h] at e
    dsimp only at e
    cases hn : noLL xs with
    | false => rw [hn] at e; cases e
    | true =>
      rw [hn, bM_t] at e; cases e
      refine s pp _ H σ E pl xs p _ I.erA h fun a vs S1 H1 J a1 hp sp hq r1 => ?_
      obtain ⟨I1, low⟩ := I.back J a1
      have sm : Sminus S1 (allF E) E σ a = none := by unfold Sminus; split; rfl; exact sp
      exact q pp _ H1 _ PpS.refl (I1.newOwn i (sl := .own xs) rfl hq ⟨vs, rfl, rpl_low low hn r1⟩ sm (h0_none I hp) (pp_none I hp) (own_none I hp []))
theorem AsL.oS {st : Stmt} {i : Nat} {m : AM} (h : AsL X st i m) : SF X st (sOwnS i m) := let ⟨_, p, s⟩ := h; ⟨_, p, SS.ownS i s⟩
/-- x = a new list that nobody changes, whose items know no list -/
def sAsgLS (i : Nat) (m : AM) : SM := fun E pl => match m E pl with
  | some (ys, p) => bM (noLL ys) (some (.nx (E.set i (.val (.lst ys))) p)) none
  | none => none
theorem SS.asgLS {te : TE} {m : AM} (i : Nat) (s : LS K te m) : SS K (tAsg te (gName i)) (sAsgLS i m) := fun C pp S H σ E pl D' out I e q => by
  unfold sAsgLS at e
  cases h : m E pl with
  | none => rw [h] at e; cases e
  | some r =>
    obtain ⟨xs, p⟩ := r
    rw [h] at e
    dsimp only at e
    cases hn : noLL xs with
    | false => rw [hn] at e; cases e
    | true =>
      rw [hn, bM_t] at e; cases e
      refine s pp _ H σ E pl xs p _ I.erA h fun a vs S1 H1 J a1 hp sp hq r1 => ?_
      obtain ⟨J2, a2⟩ := I.erA.frz J a1 hp sp hq
      obtain ⟨I1, low⟩ := I.back J2 a2
      have r2 : RpL K (upd S1 a (.lst vs)) xs vs := r1.mono (sb_upd sp)
      have no : ¬ OwnA (allF E) E σ a := by
        rintro ⟨j, b, hj, e1, e2, e3⟩
        exact own_none I hp [] j b e1 e2 e3
      have sm : Sminus (upd S1 a (.lst vs)) (allF E) E σ a = some (.lst vs) := by unfold Sminus; rw [if_neg no]; exact upd_same
      exact GS.name i C pp _ H1 σ E p (.lst xs) (.ref a) _ _ I1 (rp_lst.mpr ⟨a, vs, rfl, sm, rpl_low low hn r2⟩) rfl fun σ' I2 => q pp _ H1 σ' PpS.refl I2
theorem AsL.sL {st : Stmt} {i : Nat} {m : AM} (h : AsL X st i m) : SF X st (sAsgLS i m) := let ⟨_, p, s⟩ := h; ⟨_, p, SS.asgLS i s⟩
end
end Dn
set_option Elab.async false
set_option linter.all false
set_option maxRecDepth 100000
set_option maxHeartbeats 2000000
namespace Dn
open PySem PySem.Spec PyProof.Rows L2
section
variable {X : Cx}
/-! x in (a, b): items of any depth -/
def rInT (K : PySem.W.Frag) : R2 := fun x y H Q => ∃ d ds, Dp K H x d ∧ Dp K H y (.tuple ds) ∧ SeqAt.shaped d = true ∧ SeqAt.shaped (.tuple ds) = true ∧ Q (.bl (ds.any fun z => PyData.eqv z d)) H
def rNotInT (K : PySem.W.Frag) : R2 := fun x y H Q => ∃ d ds, Dp K H x d ∧ Dp K H y (.tuple ds) ∧ SeqAt.shaped d = true ∧ SeqAt.shaped (.tuple ds) = true ∧ Q (.bl (!ds.any fun z => PyData.eqv z d)) H
theorem op_inTD (hu : X.A.units + 65 < cLine) : OpR X (compareOp .In) (rInT X.K) := by
  intro pins s σ H x y v u Q I rx ry h
  obtain ⟨d, ds, hd, he, sd, se, q⟩ := h
  obtain ⟨as, r1⟩ := Dp.reads I d x v hd rx
  obtain ⟨bs, r2⟩ := Dp.reads I (.tuple ds) y u he ry
  exact SeqAt.in_tuple_reads r2 r1 (SeqAt.canLay_of_shaped se) (SeqAt.canLay_of_shaped sd) (room_in_shaped sd hu) ⟨.bl _, H, I, rfl, q⟩
theorem op_notInTD (hu : X.A.units + 65 < cLine) : OpR X (compareOp .NotIn) (rNotInT X.K) := by
  intro pins s σ H x y v u Q I rx ry h
  obtain ⟨d, ds, hd, he, sd, se, q⟩ := h
  obtain ⟨as, r1⟩ := Dp.reads I d x v hd rx
  obtain ⟨bs, r2⟩ := Dp.reads I (.tuple ds) y u he ry
  exact SeqAt.notIn_tuple_reads r2 r1 (SeqAt.canLay_of_shaped se) (SeqAt.canLay_of_shaped sd) (room_in_shaped sd hu) ⟨.bl _, H, I, rfl, q⟩
def dInT : D → D → Option D := fun a b => match b with
  | .tup xs => if fl 20 a && xs.all (fl 20) then some (.bl (xs.any fun z => eqd z a)) else none
  | _ => none
def dNotInT : D → D → Option D := fun a b => match b with
  | .tup xs => if fl 20 a && xs.all (fl 20) then some (.bl (!xs.any fun z => eqd z a)) else none
  | _ => none
theorem od_inT (hu : X.A.units + 65 < cLine) : OpD X (compareOp .In) dInT := ⟨_, op_inTD hu, fun S H a b d v u Q hs ra rb e q => by
  unfold dInT at e; split at e <;> try cases e
  split at e <;> cases e
  rename_i xs h
  rw [Bool.and_eq_true] at h
  have g2 : fl 21 (.tup xs) = true := by rw [fl_tup]; exact h.2
  have dl := dp_py hs 21 _ u g2 rb
  have sl := shaped_py g2 (by decide)
  simp only [toPy] at dl sl
  refine ⟨toPy a, toPyL xs, dp_py hs 20 a v h.1 ra, dl, shaped_py h.1 (by decide), sl, ?_⟩
  rw [any_py h.1 h.2]
  exact q _ S H (Nw.refl hs) (rp_bl.mpr rfl)⟩
theorem od_notInT (hu : X.A.units + 65 < cLine) : OpD X (compareOp .NotIn) dNotInT := ⟨_, op_notInTD hu, fun S H a b d v u Q hs ra rb e q => by
  unfold dNotInT at e; split at e <;> try cases e
  split at e <;> cases e
  rename_i xs h
  rw [Bool.and_eq_true] at h
  have g2 : fl 21 (.tup xs) = true := by rw [fl_tup]; exact h.2
  have dl := dp_py hs 21 _ u g2 rb
  have sl := shaped_py g2 (by decide)
  simp only [toPy] at dl sl
  refine ⟨toPy a, toPyL xs, dp_py hs 20 a v h.1 ra, dl, shaped_py h.1 (by decide), sl, ?_⟩
  rw [any_py h.1 h.2]
  exact q _ S H (Nw.refl hs) (rp_bl.mpr rfl)⟩
end
end Dn
set_option Elab.async false
set_option linter.all false
set_option maxRecDepth 100000
set_option maxHeartbeats 2000000
namespace Dn
open PySem PySem.Spec PyProof.Rows L2
section
variable {X : Cx} {K : PySem.W.Frag}
/-! a = b = e -/
def g2M (f1 f2 : TM) : TM := fun d E => (f1 d E).bind (f2 d)
def gB (g1 g2 : TG) : TG := fun x σ H Q => g1 x σ H fun σ1 H1 => g2 x σ1 H1 Q
theorem GS.both {g1 g2 : TG} {f1 f2 : TM} (s1 : GS K g1 f1) (s2 : GS K g2 f2) : GS K (gB g1 g2) (g2M f1 f2) := fun C pp S H σ E pl d v E' Q I r e q => by
  unfold g2M at e
  cases h : f1 d E with
  | none => rw [h] at e; cases e
  | some E1 =>
    rw [h] at e
    exact s1 C pp S H σ E pl d v E1 _ I r h fun σ1 I1 => s2 C pp S H σ1 E1 pl d v E' Q I1 r e q
theorem sf_asg2 {t1 t2 e : Expr} {f1 f2 : TM} {m : EM} {pos : Pos} (F : List Nat) (hg1 : GF X t1 f1) (hg2 : GF X t2 f2) (he : EF X e m) (ha : (assignEach [t1, t2] X.env).map (·.2) = [assign t1 X.env, assign t2 X.env] := by rfl) (hw : swappedStores [t1, t2] e X.env = pure none := by rfl) :
    SF X (.Assign [t1, t2] e pos) (sAsgF F (g2M f1 f2) m) :=
  let ⟨_, p, s⟩ := he; let ⟨_, p1, s1⟩ := hg1; let ⟨_, p2, s2⟩ := hg2
  ⟨tAsg _ (gB _ _), ps_asg2 p p1 p2 ha hw, SS.asgF F s (GS.both s1 s2)⟩
@[simp] theorem x_g2M (f1 f2 : TM) (d : D) (E : Env) : g2M f1 f2 d E = (f1 d E).bind (f2 d) := rfl
/-! l.index(x) -/
def idxD (b : D) : List D → Option Nat
  | [] => none
  | x :: xs => if eqd x b then some 0 else (idxD b xs).map (· + 1)
def dIndex : D → D → Option D := fun a b => match a with
  | .lst xs => if fl 20 b && xs.all (fl 20) then (idxD b xs).map fun j => .int (j : Nat) else none
  | _ => none
theorem idx_py {n : Nat} {b : D} (hb : fl n b = true) : ∀ {xs : List D} {j : Nat}, xs.all (fl n) = true → idxD b xs = some j →
    ∃ z, (toPyL xs)[j]? = some z ∧ PyData.eqv z (toPy b) = true ∧ ∀ (m : Nat) (z' : PyData), m < j → (toPyL xs)[m]? = some z' → PyData.eqv z' (toPy b) = false
  | [], j, _, h => by cases h
  | x :: xs, j, hx, h => by
    simp only [List.all_cons, Bool.and_eq_true] at hx
    unfold idxD at h
    have e := eqd_py n x b hx.1 hb
    cases hq : eqd x b with
    | true =>
      rw [hq, if_pos rfl] at h; cases h
      exact ⟨toPy x, by simp [toPyL], by rw [e, hq], fun m z' hm => by omega⟩
    | false =>
      rw [hq, if_neg (by simp)] at h
      cases hi : idxD b xs with
      | none => rw [hi] at h; cases h
      | some i =>
        rw [hi] at h; cases h
        obtain ⟨z, h1, h2, h3⟩ := idx_py hb hx.2 hi
        refine ⟨z, by simp [toPyL, h1], h2, fun m z' hm hz => ?_⟩
        cases m with
        | zero => simp [toPyL] at hz; subst hz; rw [e, hq]
        | succ m => simp [toPyL] at hz; exact h3 m z' (by dsimp only at hm; omega) hz
theorem ES.index {to te : TE} {mo m : EM} (so : ES K to mo) (s : ES K te m) : ES K (tBM K "list" (rIndexD K) to (tCons te tNil)) (mOp dIndex mo m) := fun pp S H σ E pl d pl' Q I e q => by
  obtain ⟨x, p1, e1, f1⟩ := seqM_some e
  obtain ⟨y, p2, e2, f2⟩ := seqM_some f1
  obtain ⟨e3, rfl⟩ := lftM_some f2
  clear f1 f2 e
  cases x <;> try cases e3
  rename_i xs
  replace e3 : (if fl 20 y && xs.all (fl 20) then (idxD y xs).map fun j => D.int (j : Nat) else none) = some d := e3
  split at e3 <;> try cases e3
  rename_i h
  rw [Bool.and_eq_true] at h
  cases hi : idxD y xs with
  | none => rw [hi] at e3; cases e3
  | some j =>
  rw [hi] at e3; cases e3
  obtain ⟨z, z1, z2, z3⟩ := idx_py h.1 h.2 hi
  refine so pp S H σ E pl (.lst xs) p1 _ I e1 fun v S1 H1 I1 a1 r1 => ?_
  have r1' := r1
  rw [rp_lst] at r1'
  obtain ⟨a, vs, rfl, w1, w2⟩ := r1'
  refine ⟨.inl ⟨rfl, _, .inl (.inl (I1.sub _ _ w1))⟩, ?_⟩
  refine s pp S1 H1 σ E p1 y _ _ I1 e2 fun u S2 H2 I2 a2 r2 => ?_
  have g2 : fl 21 (.lst xs) = true := by rw [fl_lst]; exact h.2
  have dl := dp_py I2.sub 21 _ _ g2 (r1.mono a2.s)
  have sl := shaped_py g2 (by decide)
  simp only [toPy] at dl sl
  exact ⟨a, u, toPy y, toPyL xs, j, z, rfl, rfl, dl, dp_py I2.sub 20 y u h.1 r2, sl, shaped_py h.1 (by decide), z1, z2, z3, q _ S2 H2 I2 (a1.trans a2) (rp_int.mpr rfl)⟩
theorem ef_index {o e : Expr} {mo m : EM} {apos cpos : Pos} (hu : X.A.units + 65 < cLine) (ho : EF X o mo) (he : EF X e m)
    (hbase : attributeBase o "index" X.env (eval o X.env) = eval o X.env := by rfl)
    (hfew : ((backTo cpos (starEach [e] X.env)).all (fun x => !x.1) && (backToKw cpos (keywordEach [] X.env)).all (fun x => x.1.isSome)
      && decide ([e].length + ([] : List Keyword).length + (if ([] : List Keyword).isEmpty then 0 else 1) < 30)) = true := by rfl)
    (hline : (apos.endLine == cpos.line) = true := by rfl) (hs : starEach [e] X.env = (false, eval e X.env) :: starEach [] X.env := by rfl) (hplain : (backTo cpos (starEach [] X.env)).any (·.1) = false := by rfl) :
    EF X (.Call (.Attribute o "index" apos) [e] [] cpos) (mOp dIndex mo m) :=
  let ⟨_, p1, s1⟩ := ho; let ⟨_, p2, s2⟩ := he
  ⟨_, pe_bm PySem.F.plainAttrs_list PySem.F.slot_list_index PySem.F.type_list_index (mt_indexD hu) p1 (pa_cons p2 pa_nil hs) hbase hfew hline hs hplain, ES.index s1 s2⟩
end
end Dn
set_option Elab.async false
set_option linter.all false
set_option maxRecDepth 100000
set_option maxHeartbeats 4000000
/-! zip(a, b, strict=False) of lists -/
namespace Zs
open PySem PySem.Spec PyProof.Rows L2 Builtin
abbrev szF2 (h : Heap) (o1 o2 : Obj) : Heap := (gzO2 h o1 o2).push { cls := .type "zip", data := .fields #[.none, .bool false, .bool false, .ref ((h.push o1).push o2).objs.size, .ref (gzT2 h o1 o2).objs.size] }
set_option maxHeartbeats 1000000 in
theorem meets_zf {v1 v2 : Value} {o1 o2 : Obj} {H1 H2 : Heap → Prop} (B1 : Begins v1 o1 H1) (B2 : Begins v2 o2 H2) :
    Meets (Builtin.«zip.__new__» ⟨[.type "zip", v1, v2], [(Str.ofString "strict", .bool false)]⟩) (fun _ R s => (H1 s.heap ∧ H2 s.heap) ∧
      R (.ok (.ret (.ref (gzO2 s.heap o1 o2).objs.size))) { s with heap := szF2 s.heap o1 o2 }) :=
  .of_wp fun prog w A R s h => by
    obtain ⟨hp, g, d, tk, os⟩ := s; obtain ⟨⟨h1, h2⟩, h⟩ := h
    have hsub := sub_zip
    have q1 : ∀ {A' : Around} {E : Value → Shared → Prop} {Q : Value → Shared → Prop}, Q (.ref hp.objs.size) ⟨(hp.push o1), g, d, tk, os⟩ → wpAny (model prog w) A' (pyIter v1) Q E ⟨hp, g, d, tk, os⟩ :=
      fun q => B1.iter prog w _ _ ⟨hp, g, d, tk, os⟩ _ (B1.keeps _ _ h1 fun b o' e => e) q
    have q2 : ∀ {A' : Around} {E : Value → Shared → Prop} {Q : Value → Shared → Prop}, Q (.ref (hp.push o1).objs.size) ⟨((hp.push o1).push o2), g, d, tk, os⟩ → wpAny (model prog w) A' (pyIter v2) Q E ⟨(hp.push o1), g, d, tk, os⟩ :=
      fun q => B2.iter prog w _ _ ⟨(hp.push o1), g, d, tk, os⟩ _ (B2.keeps _ _ h2 fun b o' e => (Heap.get?_push_of_some _ e)) q
    have e1 : (Str.ofString "strict" == ("strict" : Str)) = true := by decide +kernel
    have e2 : (Str.ofString "strict" != ("strict" : Str)) = false := by decide +kernel
    wp_walk using q1, q2
    all_goals first | exact ⟨_, rfl, h⟩ | skip
section
variable {prog : Program} {w : World} {A : Around} {E : Value → Shared → Prop} {s : Shared}
theorem zf_begins {v1 v2 : Value} {o1 o2 : Obj} {H1 H2 : Heap → Prop} {Q : Value → Shared → Prop} (B1 : Begins v1 o1 H1) (B2 : Begins v2 o2 H2) (h1 : H1 s.heap) (h2 : H2 s.heap)
    (h : ∀ h', IsZip h' (s.heap.objs.size + 4) (s.heap.objs.size + 2) (s.heap.objs.size + 3) .none → IsPair h' (s.heap.objs.size + 2) (.ref s.heap.objs.size) (.ref (s.heap.objs.size + 1)) →
      IsPair h' (s.heap.objs.size + 3) .none .none → h'.get? s.heap.objs.size = some o1 → h'.get? (s.heap.objs.size + 1) = some o2 → h'.objs.size = s.heap.objs.size + 5 →
      (∀ c o, s.heap.get? c = some o → h'.get? c = some o) → Q (.ref (s.heap.objs.size + 4)) { s with heap := h' }) :
    wpAny (model prog w) A (call (.type "zip") [v1, v2] [(Str.ofString "strict", .bool false)]) Q E s := by
  refine callType_newKw F.called_zip (by decide) (F.typeCall_zs _ _ _) (F.newCall_zs _ _ _) (fun obj => F.init_zs obj _ _ _) F.entry_zip_new
    (meets_zf B1 B2) ⟨⟨h1, h2⟩, ?_⟩
  have z1 : (s.heap.push o1).objs.size = s.heap.objs.size + 1 := by rw [Heap.size_push]
  have z2 : ((s.heap.push o1).push o2).objs.size = s.heap.objs.size + 2 := by rw [Heap.size_push, z1]
  have zT : (gzT2 s.heap o1 o2).objs.size = s.heap.objs.size + 3 := by rw [Heap.size_push, z2]
  have zO : (gzO2 s.heap o1 o2).objs.size = s.heap.objs.size + 4 := by rw [Heap.size_push, zT]
  have zZ : (szF2 s.heap o1 o2).objs.size = s.heap.objs.size + 5 := by rw [Heap.size_push, zO]
  have gZ : (szF2 s.heap o1 o2).get? (gzO2 s.heap o1 o2).objs.size = some { cls := .type "zip", data := .fields #[.none, .bool false, .bool false, .ref ((s.heap.push o1).push o2).objs.size, .ref (gzT2 s.heap o1 o2).objs.size] } := Heap.get?_push_size _ rfl
  have gO : (szF2 s.heap o1 o2).get? (gzT2 s.heap o1 o2).objs.size = some { cls := .type "tuple", data := .seq #[.none, .none] } := Heap.get?_push_of_some _ (Heap.get?_push_size _ rfl)
  have gT : (szF2 s.heap o1 o2).get? ((s.heap.push o1).push o2).objs.size = some { cls := .type "tuple", data := .seq #[.ref s.heap.objs.size, .ref (s.heap.push o1).objs.size] } := Heap.get?_push_of_some _ (Heap.get?_push_of_some _ (Heap.get?_push_size _ rfl))
  have g1 : (szF2 s.heap o1 o2).get? s.heap.objs.size = some o1 := Heap.get?_push_of_some _ (Heap.get?_push_of_some _ (Heap.get?_push_of_some _ (Heap.get?_push_of_some _ (Heap.get?_push_size _ B1.free))))
  have g2 : (szF2 s.heap o1 o2).get? (s.heap.push o1).objs.size = some o2 := Heap.get?_push_of_some _ (Heap.get?_push_of_some _ (Heap.get?_push_of_some _ (Heap.get?_push_size _ B2.free)))
  rw [zO, zT, z2] at gZ
  rw [zT] at gO
  rw [z2, z1] at gT
  rw [z1] at g2
  show _ ∧ _
  rw [zO]
  exact ⟨⟨_, gZ, rfl⟩, h _ gZ gT gO g1 g2 zZ fun c o e => Heap.get?_push_of_some _ (Heap.get?_push_of_some _ (Heap.get?_push_of_some _ (Heap.get?_push_of_some _ (Heap.get?_push_of_some _ e))))⟩
end
theorem pi_zf {X : Cx} {e e2 : Expr} {ta : TA} {p pos tpos kp cp : Pos} {j : Nat} {elts : List Expr} {kk : Nat} (hg : Gl X "zip") (hm : X.mg "zip" = none) (ha : PA X [e, e2] ta)
    (hs : starEach [e, e2] X.env = (false, eval e X.env) :: starEach [e2] X.env := by rfl) (hpl : (backTo pos (starEach [e2] X.env)).any (·.1) = false := by rfl) :
    PI X (.Tuple elts kk tpos) (.Call (.Name "zip" p) [e, e2] [⟨some "strict", .Constant (.bool false) j cp, kp⟩] pos) (iZip X.K ta) := by
  refine ⟨fun pins s σ H R I h => ?_⟩
  have he : eval (.Call (.Name "zip" p) [e, e2] [⟨some "strict", .Constant (.bool false) j cp, kp⟩] pos) X.env = (do callWith pos (← eval (.Name "zip" p) X.env) [] (backTo pos (starEach [e, e2] X.env)) (backToKw pos (keywordEach [⟨some "strict", .Constant (.bool false) j cp, kp⟩] X.env))) := by rfl
  rw [he]
  refine wpAny_bind (ld_blt I hg hm PyProof.Rows.boot_zip ?_)
  have hr := ha.run pos pins s σ H _ I h
  rw [hs] at hr ⊢
  refine callWith_tyKw (by show (false || (backTo pos (starEach [e2] X.env)).any (·.1)) = false; rw [hpl]; rfl) rfl (evalArgs_kwB rfl (thn hr fun us s1 ⟨vs, H1, I1, r1, q1⟩ => kws_cons ?_))
  refine wpAny_of_eq (a := Value.bool false) rfl ?_
  refine kws_nil ?_
  obtain ⟨a, b, xs, ys, ex, hqx, hqy, q⟩ := q1
  subst ex
  cases r1 with
  | cons r rr =>
    cases rr with
    | cons r' rr =>
      cases rr
      cases r
      cases r'
      have fresh5 : ∀ c, c ∈ [s1.heap.objs.size + 4, s1.heap.objs.size + 2, s1.heap.objs.size + 3, s1.heap.objs.size, s1.heap.objs.size + 1] → FpOk X pins H1 c := fun c hcm => by
        have e' : c = s1.heap.objs.size + 4 ∨ c = s1.heap.objs.size + 2 ∨ c = s1.heap.objs.size + 3 ∨ c = s1.heap.objs.size ∨ c = s1.heap.objs.size + 1 := by simpa using hcm
        have hle : s1.heap.objs.size ≤ c := by
          rcases e' with z | z | z | z | z
          · rw [z]; exact Nat.le_add_right _ _
          · rw [z]; exact Nat.le_add_right _ _
          · rw [z]; exact Nat.le_add_right _ _
          · rw [z]; exact Nat.le_refl _
          · rw [z]; exact Nat.le_add_right _ _
        exact I1.fpOk hle (I1.hok.fresh hle)
      obtain ⟨its, rv, p1, _⟩ := I1.list hqx
      obtain ⟨its2, rv2, p2, _⟩ := I1.list hqy
      refine zf_begins (begs a its.toArray true) (begs b its2.toArray true) p1.isList p2.isList fun h' hz hTI hTO g1 g2 hsz hk => wpAny_pyIter_zip hz ?_
      have I2 : Inv X pins σ H1 { s1 with heap := h' } := I1.kept (t' := s1.toks) hk
      exact ⟨s1.heap.objs.size + 4, [s1.heap.objs.size + 4, s1.heap.objs.size + 2, s1.heap.objs.size + 3, s1.heap.objs.size, s1.heap.objs.size + 1], _, _, H1, rfl, I2, turn_zip (PySem.W.ktu_apart s1.heap.objs.size a b p1.lt p2.lt), ⟨hz, hTI, ⟨_, _, hTO⟩, bob_it (d := true) g1, bob_it (d := true) g2⟩, fresh5, q⟩
end Zs
namespace Dn
open PySem PySem.Spec PyProof.Rows L2
def zipF : List D → Option (List D)
  | [.lst xs, .lst ys] => some (zipD xs ys)
  | _ => none
theorem js_zf {K : PySem.W.Frag} {S : Hp} {a b : Addr} {xs ys : List D} {vs us : List V} (h1 : S a = some (.lst vs)) (h2 : S b = some (.lst us)) (r1 : RpL K S xs vs) (r2 : RpL K S ys us) : JS K S (Itz K a b) (zipD xs ys) := by
  have q1 : ∀ {S' : Hp}, Sb S S' → SqL K S' a vs := fun e => sb_l e (.inl (.inl h1))
  have q2 : ∀ {S' : Hp}, Sb S S' → SqL K S' b us := fun e => sb_l e (.inl (.inl h2))
  refine ⟨fun i d S' H e1 e2 e3 => ?_, fun i S' H e1 e2 e3 => ?_⟩
  · obtain ⟨x, y, g1, g2, rfl⟩ := zipD_get _ _ _ _ e3
    obtain ⟨v, k1, k2⟩ := r1.get g1
    obtain ⟨u, k3, k4⟩ := r2.get g2
    refine ⟨⟨vs, us, v, u, q1 (e1.trans e2), q2 (e1.trans e2), k1, k3⟩, fun z H' hy => ?_⟩
    obtain ⟨T, p, q, rfl, hT, rfl, hp, hq⟩ := hy
    have := hp vs (q1 (e1.trans e2))
    rw [k1] at this; cases this
    have := hq us (q2 (e1.trans e2))
    rw [k3] at this; cases this
    have nw := Nw.new (o := .tup [v, u]) e2 hT
    exact ⟨_, nw, rp_tup.mpr ⟨T, _, rfl, SqT.of upd_same, RpL.cons (k2.mono (e1.trans nw.s)) (RpL.cons (k4.mono (e1.trans nw.s)) RpL.nil)⟩⟩
  · rw [zipD_len] at e3
    exact ⟨vs, us, q1 (e1.trans e2), q2 (e1.trans e2), by rw [r1.len, r2.len]; omega⟩
theorem if_zf {X : Cx} {e e2 : Expr} {m : AM} {p pos tpos kp cp : Pos} {j : Nat} {elts : List Expr} {kk : Nat} (hg : Gl X "zip") (hm : X.mg "zip" = none) (ha : AF X [e, e2] m) (hs : nst e = true := by rfl) (hs2 : nst e2 = true := by rfl) :
    IF X (.Tuple elts kk tpos) (.Call (.Name "zip" p) [e, e2] [⟨some "strict", .Constant (.bool false) j cp, kp⟩] pos) (mRng zipF m) := by
  obtain ⟨t, pa, s⟩ := ha
  have hb : (backTo pos (starEach [e2] X.env)).any (·.1) = false := back_nst (by simp only [nsts, hs2]; rfl)
  refine ⟨_, Zs.pi_zf hg hm pa (star_nst hs) hb, fun pp S H σ E pl ds pl' R I e q => ?_⟩
  obtain ⟨x, q1, e1, f1⟩ := seqM_some e
  obtain ⟨e3, rfl⟩ := lftM_some f1
  refine s pp S H σ E pl x _ _ I e1 fun v S1 H1 J a1 r1 => ?_
  unfold zipF at e3
  split at e3 <;> try cases e3
  rename_i xs ys
  obtain ⟨v1, v2, rfl, w1, w2⟩ := rpl_two r1
  rw [rp_lst] at w1 w2
  obtain ⟨a, vs, rfl, g1, g2⟩ := w1
  obtain ⟨b, us, rfl, g3, g4⟩ := w2
  exact ⟨a, b, vs, us, rfl, sb_l J.sub (.inl (.inl g1)), sb_l J.sub (.inl (.inl g3)), q _ S1 H1 J a1 (js_zf g1 g3 g2 g4)⟩
/-! xs[::-1] -/
def lrev : D → Option (List D)
  | .lst xs => some xs.reverse
  | _ => none
def mRevL (m : EM) : AM := seqM m fun x => lftM (lrev x)
theorem RpL.rev {K : PySem.W.Frag} {S : Hp} : ∀ {ds : List D} {vs : List V}, RpL K S ds vs → RpL K S ds.reverse vs.reverse
  | [], vs, r => by rw [r.nil_inv]; exact RpL.nil
  | d :: ds, vs, r => by
    obtain ⟨v, us, rfl, r1, r2⟩ := r.cons_inv
    rw [List.reverse_cons, List.reverse_cons]
    exact r2.rev.append (RpL.cons r1 RpL.nil)
theorem lf_rev {X : Cx} {e : Expr} {m : EM} {k : Nat} {p1 p2 p3 pos : Pos} (he : EF X e m) : LF X (.Subscript e (.Slice none none (some (.UnaryOp .USub (.Constant (.int 1) k p1) p2)) p3) pos) (mRevL m) := by
  obtain ⟨t, p, s⟩ := he
  refine ⟨_, pe_revL p, fun pp S H σ E pl d pl' Q I e q => ?_⟩
  obtain ⟨x, q1, e1, f1⟩ := seqM_some e
  obtain ⟨e2, rfl⟩ := lftM_some f1
  refine s pp S H σ E pl x _ _ I e1 fun v S1 H1 I1 a1 r1 => ?_
  unfold lrev at e2
  split at e2 <;> cases e2
  rw [rp_lst] at r1
  obtain ⟨b, vs, rfl, g1, g2⟩ := r1
  exact ⟨b, vs, rfl, .inl (.inl (I1.sub _ _ g1)), fun p hp => q p _ S1 _ (I1.nw (nw_new I1.sub hp)) (a1.trans (nw_new I1.sub hp).ad) (none_ad a1 hp) (sb_none I1.sub hp) upd_same g2.rev⟩
/-! x.insert(i, y) -/
def rIns : V → List V → Hp → VK → Prop := fun x vs H Q => ∃ (l : Addr) (xs : List V) (i : Int) (y : V), x = .ref l ∧ vs = [.int i, y] ∧ H l = some (.lst xs) ∧ xs.length < sizeLine ∧ 0 ≤ i ∧ i < 2 ^ 63 ∧
    Q .non (upd H l (.lst (xs.take i.toNat ++ [y] ++ xs.drop i.toNat)))
def insD (xs : List D) (k : Int) (d : D) : List D := xs.take k.toNat ++ [d] ++ xs.drop k.toNat
def sInsF (i : Nat) (m : AM) : SM := fun E pl => match m (vw [] E) pl with
  | some ([.int k, d], p) => match E[i]? with
    | some (.own xs) => bM (sized xs.length && (decide (0 ≤ k) && decide (k < 2 ^ 60))) (some (.nx (E.set i (.own (insD xs k d))) p)) none
    | _ => none
  | _ => none
theorem SS.insF {K : PySem.W.Frag} {t : TA} {i : Nat} {m : AM} (s : AS K t m) : SS K (tDrop (tBM K "list" rIns (tVar i) t)) (sInsF i m) := fun C pp S H σ E pl D' out I e q => by
  unfold sInsF at e
  split at e <;> try cases e
  rename_i k d p hm
  split at e <;> try cases e
  rename_i xs hx
  cases hn : (sized xs.length && (decide (0 ≤ k) && decide (k < 2 ^ 60))) with
  | false => rw [hn] at e; cases e
  | true =>
    rw [hn] at e; cases e
    simp only [Bool.and_eq_true, decide_eq_true_eq] at hn
    obtain ⟨hz, hk0, hk1⟩ := hn
    have hx' : (frz [] E)[i]? = some (.own xs) := hx
    obtain ⟨a, vs, g1, g2, g3⟩ := I.ownL hx
    refine ⟨_, g1, .inl ⟨rfl, _, .inl (.inl g2)⟩, ?_⟩
    refine s pp _ H σ _ pl _ _ _ (I.er []) hm fun us S1 H1 J a1 r1 => ?_
    have I1 := I.fin J a1
    obtain ⟨a', vs', k1, k2, k3⟩ := I1.ownL hx'
    rw [g1] at k1; cases k1
    obtain ⟨v1, v2, rfl, w1, w2⟩ := rpl_two r1
    rw [rp_int] at w1
    subst w1
    refine ⟨a, vs', k, v2, rfl, rfl, k2, by rw [k3.len]; exact sized_lt hz, hk0, by omega, ?_⟩
    exact q pp _ _ σ PpS.refl (I1.upd hx' rfl g1 (sl' := .own (insD xs k d)) rfl ⟨_, rfl, ((k3.take _).append (RpL.cons w2 RpL.nil)).append (k3.drop _)⟩)
theorem sf_ins {X : Cx} {st : Stmt} {es : List Expr} {i : Nat} {m : AM} (ha : AF X es m) (mk : ∀ t, PA X es t → PS X st (tDrop (tBM X.K "list" rIns (tVar i) t))) : SF X st (sInsF i m) := let ⟨_, p, s⟩ := ha; ⟨_, mk _ p, SS.insF s⟩
/-! equations -/
@[simp] theorem x_mRevL (m : EM) (E : Env) (pl : Option Pl) : mRevL m E pl = (m E pl).bind fun a => (lrev a.1).map fun d => (d, a.2) := by
  unfold mRevL seqM
  cases m E pl with
  | none => rfl
  | some r => unfold lftM; rfl
@[simp] theorem x_lrev (xs : List D) : lrev (.lst xs) = some xs.reverse := rfl
@[simp] theorem x_zipF (xs ys : List D) : zipF [.lst xs, .lst ys] = some (zipD xs ys) := rfl
theorem ins_ok {i : Nat} {m : AM} {E : Env} {pl p : Option Pl} {k : Int} {d : D} {xs : List D} (h1 : m (vw [] E) pl = some ([.int k, d], p)) (h2 : E[i]? = some (.own xs)) (h3 : sized xs.length = true) (h4 : 0 ≤ k) (h5 : k < 2 ^ 60) : sInsF i m E pl = some (.nx (E.set i (.own (insD xs k d))) p) := by
  unfold sInsF
  rw [h1]
  dsimp only
  rw [h2]
  dsimp only
  rw [h3, decide_eq_true h4, decide_eq_true h5]; rfl
end Dn
set_option Elab.async false
set_option linter.all false
set_option maxRecDepth 100000
set_option maxHeartbeats 2000000
namespace Dn
open PySem PySem.Spec PyProof.Rows L2

/-! ### plain runs: equations -/
section
variable {α β : Type} {E : Env} {pl p1 p2 : Option Pl}
@[simp] theorem x_oks (d : α) : oks d E pl = some (d, pl) := rfl
theorem x_seq {m : Env → Option Pl → Option (α × Option Pl)} {f : α → Env → Option Pl → Option (β × Option Pl)} {a : α} (h : m E pl = some (a, p1)) : seqM m f E pl = f a E p1 := by unfold seqM; rw [h]
@[simp] theorem x_lft (o : Option α) : lftM o E pl = o.map fun d => (d, pl) := rfl
@[simp] theorem x_seqM (m : Env → Option Pl → Option (α × Option Pl)) (f : α → Env → Option Pl → Option (β × Option Pl)) : seqM m f E pl = (m E pl).bind fun r => f r.1 E r.2 := by
  unfold seqM; cases m E pl with
  | none => rfl
  | some r => rfl
@[simp] theorem x_mC (d : D) : mC d E pl = some (d, pl) := rfl
@[simp] theorem x_mOp (g : D → D → Option D) (ma mb : EM) : mOp g ma mb E pl = (ma E pl).bind fun a => (mb E a.2).bind fun b => (g a.1 b.1).map fun d => (d, b.2) := by
  unfold mOp; simp only [x_seqM, x_lft]
@[simp] theorem x_mUn (g : D → Option D) (ma : EM) : mUn g ma E pl = (ma E pl).bind fun a => (g a.1).map fun d => (d, a.2) := by
  unfold mUn; simp only [x_seqM, x_lft]
@[simp] theorem x_aNil : aNil E pl = some ([], pl) := rfl
@[simp] theorem x_aCons (ma : EM) (mr : AM) : aCons ma mr E pl = (ma E pl).bind fun a => (mr E a.2).bind fun b => some (a.1 :: b.1, b.2) := by
  unfold aCons; simp only [x_seqM, x_oks]
@[simp] theorem x_mCall (g : List D → Option D) (m : AM) : mCall g m E pl = (m E pl).bind fun a => (g a.1).map fun d => (d, a.2) := by
  unfold mCall; simp only [x_seqM, x_lft]
@[simp] theorem x_mCallL (g : List D → Option (List D)) (m : AM) : mCallL g m E pl = (m E pl).bind fun a => (g a.1).map fun d => (d, a.2) := by
  unfold mCallL; simp only [x_seqM, x_lft]
@[simp] theorem x_bT {m n : α} : bM true m n = m := rfl
@[simp] theorem x_bF {m n : α} : bM false m n = n := rfl
@[simp] theorem x_mTru (m : EM) : mTru m E pl = (m E pl).bind fun a => (tru a.1).map fun d => (d, a.2) := by unfold mTru; simp only [x_seqM, x_lft]
@[simp] theorem x_mTst (m : EM) : mTst m E pl = (m E pl).bind fun a => (blD a.1).map fun d => (d, a.2) := by unfold mTst; simp only [x_seqM, x_lft]
@[simp] theorem x_blD (b : Bool) : blD (.bl b) = some b := rfl
@[simp] theorem x_mNot (m : BM) : mNot m E pl = (m E pl).bind fun a => some (!a.1, a.2) := by unfold mNot; simp only [x_seqM, x_oks]
@[simp] theorem x_mAnd (m n : BM) : mAnd m n E pl = (m E pl).bind fun a => bM a.1 (n E a.2) (some (false, a.2)) := by
  unfold mAnd; simp only [x_seqM]
  cases m E pl with
  | none => rfl
  | some r => obtain ⟨b, p⟩ := r; cases b <;> rfl
@[simp] theorem x_mOr (m n : BM) : mOr m n E pl = (m E pl).bind fun a => bM a.1 (some (true, a.2)) (n E a.2) := by
  unfold mOr; simp only [x_seqM]
  cases m E pl with
  | none => rfl
  | some r => obtain ⟨b, p⟩ := r; cases b <;> rfl
@[simp] theorem x_mIte (c : BM) (a b : EM) : mIte c a b E pl = (c E pl).bind fun t => bM t.1 (a E t.2) (b E t.2) := by
  unfold mIte; simp only [x_seqM]
  cases c E pl with
  | none => rfl
  | some r => obtain ⟨t, p⟩ := r; cases t <;> rfl
@[simp] theorem x_mAndV (a b : EM) : mAndV a b E pl = (a E pl).bind fun x => (tru x.1).bind fun t => bM t (b E x.2) (some (x.1, x.2)) := by
  unfold mAndV; simp only [x_seqM, x_lft]
  cases a E pl with
  | none => rfl
  | some r =>
    obtain ⟨d, p⟩ := r
    simp only [Option.bind_some]
    cases tru d with
    | none => rfl
    | some t => cases t <;> rfl
@[simp] theorem x_mOrV (a b : EM) : mOrV a b E pl = (a E pl).bind fun x => (tru x.1).bind fun t => bM t (some (x.1, x.2)) (b E x.2) := by
  unfold mOrV; simp only [x_seqM, x_lft]
  cases a E pl with
  | none => rfl
  | some r =>
    obtain ⟨d, p⟩ := r
    simp only [Option.bind_some]
    cases tru d with
    | none => rfl
    | some t => cases t <;> rfl
@[simp] theorem x_mNotV (a : EM) : mNotV a E pl = (a E pl).bind fun x => (tru x.1).map fun t => (.bl (!t), x.2) := by
  unfold mNotV; simp only [x_seqM, x_lft, x_oks]
  cases a E pl with
  | none => rfl
  | some r =>
    obtain ⟨d, p⟩ := r
    simp only [Option.bind_some]
    cases tru d with
    | none => rfl
    | some t => cases t <;> rfl
@[simp] theorem x_mTup (m : AM) : mTup m E pl = (m E pl).bind fun a => bM (sized a.1.length) (some (.tup a.1, a.2)) none := by
  unfold mTup; simp only [x_seqM]
  cases m E pl with
  | none => rfl
  | some r => obtain ⟨xs, p⟩ := r; simp only [Option.bind_some]; cases sized xs.length <;> rfl
@[simp] theorem x_mLstL (m : AM) : mLstL m E pl = (m E pl).bind fun a => bM (sized a.1.length) (some (a.1, a.2)) none := by
  unfold mLstL; simp only [x_seqM]
  cases m E pl with
  | none => rfl
  | some r => obtain ⟨xs, p⟩ := r; simp only [Option.bind_some]; cases sized xs.length <;> rfl
@[simp] theorem x_mFrz (m : AM) : mFrz m E pl = (m E pl).bind fun a => some (.lst a.1, a.2) := by unfold mFrz; simp only [x_seqM, x_oks]
@[simp] theorem x_mIsi (T : String) (m : EM) : mIsi T m E pl = (m E pl).bind fun a => some (.bl (isTy T a.1), a.2) := by unfold mIsi; simp only [x_seqM, x_oks]
@[simp] theorem x_mIt (f : D → Option (List D)) (m : EM) : mIt f m E pl = (m E pl).bind fun a => (f a.1).map fun d => (d, a.2) := by unfold mIt; simp only [x_seqM, x_lft]
@[simp] theorem x_mRng (f : List D → Option (List D)) (m : AM) : mRng f m E pl = (m E pl).bind fun a => (f a.1).map fun d => (d, a.2) := by unfold mRng; simp only [x_seqM, x_lft]
theorem x_mV (i : Nat) {d : D} (h : E[i]? = some (.val d)) : mV i E pl = some (d, pl) := by unfold mV; rw [h]
/-- reading a slot -/
def rdS : Option Sl → Option Pl → Option (D × Option Pl)
  | some (.val d), pl => some (d, pl)
  | some (.own xs), pl => some (.lst xs, pl)
  | some (.owd ks vs), pl => some (.dct ks vs, pl)
  | _, _ => none
@[simp] theorem x_mVr (i : Nat) : mV i E pl = rdS E[i]? pl := by
  unfold mV rdS
  cases E[i]? with
  | none => rfl
  | some sl => cases sl <;> rfl
@[simp] theorem x_rdV (d : D) : rdS (some (.val d)) pl = some (d, pl) := rfl
@[simp] theorem x_rdO (xs : List D) : rdS (some (.own xs)) pl = some (.lst xs, pl) := rfl
@[simp] theorem x_rdD (ks vs : List D) : rdS (some (.owd ks vs)) pl = some (.dct ks vs, pl) := rfl
end
/-! statements -/
/-- what follows -/
def nxt : Option Out → SM → Option Out
  | some (.nx E p), b => b E p
  | o, _ => o
@[simp] theorem x_nxN (E : Env) (p : Option Pl) (b : SM) : nxt (some (.nx E p)) b = b E p := rfl
@[simp] theorem x_nxR (d : D) (E : Env) (p : Option Pl) (b : SM) : nxt (some (.rt d E p)) b = some (.rt d E p) := rfl
@[simp] theorem x_nxL (d : List D) (E : Env) (p : Option Pl) (b : SM) : nxt (some (.rtl d E p)) b = some (.rtl d E p) := rfl
@[simp] theorem x_nxB (E : Env) (p : Option Pl) (b : SM) : nxt (some (.bk E p)) b = some (.bk E p) := rfl
@[simp] theorem x_nxC (E : Env) (p : Option Pl) (b : SM) : nxt (some (.ct E p)) b = some (.ct E p) := rfl
@[simp] theorem x_nx0 (b : SM) : nxt none b = none := rfl
section
variable {E : Env} {pl p1 p2 : Option Pl}
@[simp] theorem x_sNil : sNil E pl = some (.nx E pl) := rfl
@[simp] theorem x_sBrk : sBrk E pl = some (.bk E pl) := rfl
@[simp] theorem x_sCnt : sCnt E pl = some (.ct E pl) := rfl
@[simp] theorem x_sRetN : sRetN E pl = some (.rt .non E pl) := rfl
@[simp] theorem x_sSeq (a b : SM) : sSeq a b E pl = nxt (a E pl) b := by
  unfold sSeq nxt
  cases a E pl with
  | none => rfl
  | some o => cases o <;> rfl
@[simp] theorem x_sIf (c : BM) (a b : SM) : sIf c a b E pl = (c E pl).bind fun t => bM t.1 (a E t.2) (b E t.2) := by
  unfold sIf
  cases c E pl with
  | none => rfl
  | some r => obtain ⟨t, p⟩ := r; cases t <;> rfl
@[simp] theorem x_sAsgS (g : TM) (m : EM) : sAsgS g m E pl = (m E pl).bind fun r => bM (noL r.1) ((g r.1 E).map fun E' => .nx E' r.2) none := by
  unfold sAsgS
  cases m E pl with
  | none => rfl
  | some r => rfl
@[simp] theorem x_sAsgF (F : List Nat) (g : TM) (m : EM) : sAsgF F g m E pl = (m (vw F E) pl).bind fun r => (g r.1 (frz F E)).map fun E' => .nx E' r.2 := by
  unfold sAsgF
  cases m (vw F E) pl with
  | none => rfl
  | some r => rfl
@[simp] theorem x_gN (i : Nat) (d : D) : gN i d E = some (E.set i (.val d)) := rfl
@[simp] theorem x_gT (f : List D → Env → Option Env) (ds : List D) : gT f (.tup ds) E = f ds E := rfl
@[simp] theorem x_gsN : gsN [] E = some E := rfl
@[simp] theorem x_gsC (f : TM) (fs : List D → Env → Option Env) (d : D) (ds : List D) : gsC f fs (d :: ds) E = (f d E).bind (fs ds) := rfl
@[simp] theorem x_sOwn (F : List Nat) (i : Nat) (m : AM) : sOwn F i m E pl = (m (vw F E) pl).bind fun r => some (.nx ((frz F E).set i (.own r.1)) r.2) := by
  unfold sOwn
  cases m (vw F E) pl with
  | none => rfl
  | some r => rfl
@[simp] theorem x_sDrop (m : EM) : sDrop m E pl = (m E pl).bind fun r => some (.nx E r.2) := by
  unfold sDrop
  cases m E pl with
  | none => rfl
  | some r => rfl
@[simp] theorem x_sRetS (m : EM) : sRetS m E pl = (m E pl).bind fun r => bM (noL r.1) (some (.rt r.1 E r.2)) none := by
  unfold sRetS
  cases m E pl with
  | none => rfl
  | some r => rfl
@[simp] theorem x_sRetF (F : List Nat) (m : EM) : sRetF F m E pl = (m (vw F E) pl).bind fun r => some (.rt r.1 (frz F E) r.2) := by
  unfold sRetF
  cases m (vw F E) pl with
  | none => rfl
  | some r => rfl
@[simp] theorem x_sRetL (F : List Nat) (m : AM) : sRetL F m E pl = (m (vw F E) pl).bind fun r => some (.rtl r.1 (frz F E) r.2) := by
  unfold sRetL
  cases m (vw F E) pl with
  | none => rfl
  | some r => rfl
/-- an own list at a slot -/
def ownS : Option Sl → Option (List D)
  | some (.own xs) => some xs
  | _ => none
@[simp] theorem x_ownS (xs : List D) : ownS (some (.own xs)) = some xs := rfl
@[simp] theorem x_sRetO (i : Nat) : sRetO i E pl = (ownS E[i]?).bind fun xs => some (.rtl xs (E.set i .un) pl) := by
  unfold sRetO ownS
  cases E[i]? with
  | none => rfl
  | some sl => cases sl <;> rfl
@[simp] theorem x_sAppS (i : Nat) (m : EM) : sAppS i m E pl = (m E pl).bind fun r => (ownS E[i]?).bind fun xs => bM (noL r.1 && sized xs.length) (some (.nx (E.set i (.own (xs ++ [r.1]))) r.2)) none := by
  unfold sAppS ownS
  cases m E pl with
  | none => rfl
  | some r =>
    simp only [Option.bind_some]
    cases E[i]? with
    | none => rfl
    | some sl => cases sl <;> rfl
@[simp] theorem x_sAppF (F : List Nat) (i : Nat) (m : EM) : sAppF F i m E pl = (m (vw F E) pl).bind fun r => (ownS (frz F E)[i]?).bind fun xs => bM (sized xs.length) (some (.nx ((frz F E).set i (.own (xs ++ [r.1]))) r.2)) none := by
  unfold sAppF ownS
  cases m (vw F E) pl with
  | none => rfl
  | some r =>
    simp only [Option.bind_some]
    cases (frz F E)[i]? with
    | none => rfl
    | some sl => cases sl <;> rfl
@[simp] theorem x_sPar (F : List Nat) (i j : Nat) (a b : EM) : sPar F i j (aCons a (aCons b aNil)) E pl = (a (vw F E) pl).bind fun x => (b (vw F E) x.2).bind fun y => some (.nx (((frz F E).set i (.val x.1)).set j (.val y.1)) y.2) := by
  unfold sPar
  simp only [x_aCons, x_aNil]
  cases a (vw F E) pl with
  | none => rfl
  | some r =>
    simp only [Option.bind_some]
    cases b (vw F E) r.2 with
    | none => rfl
    | some q => rfl
@[simp] theorem x_sFor (F : List Nat) (g : TM) (m : AM) (b : SM) : sFor F g m b E pl = (m (vw F E) pl).bind fun r => forL g b r.1 (frz F E) r.2 := by
  unfold sFor
  cases m (vw F E) pl with
  | none => rfl
  | some r => rfl
/-! the slots seen -/
@[simp] theorem x_h1u : hide1 .un = .un := rfl
@[simp] theorem x_h1v (d : D) : hide1 (.val d) = .val d := rfl
@[simp] theorem x_h1o (xs : List D) : hide1 (.own xs) = .un := rfl
@[simp] theorem x_h1d (ks vs : List D) : hide1 (.owd ks vs) = .un := rfl
@[simp] theorem x_h1p : hide1 .pool = .pool := rfl
@[simp] theorem x_f1u : frz1 .un = .un := rfl
@[simp] theorem x_f1v (d : D) : frz1 (.val d) = .val d := rfl
@[simp] theorem x_f1o (xs : List D) : frz1 (.own xs) = .val (.lst xs) := rfl
@[simp] theorem x_f1d (ks vs : List D) : frz1 (.owd ks vs) = .val (.dct ks vs) := rfl
@[simp] theorem x_f1p : frz1 .pool = .pool := rfl
@[simp] theorem x_vw0 : vw [] E = E.map hide1 := rfl
@[simp] theorem x_frz0 : frz [] E = E := rfl
/-! the pool -/
/-- what a place of the pool holds -/
def pixS : Option Sl → Option Pl → Int → Option (D × Option Pl)
  | some .pool, some P, j => (plIx P j).map fun d => (d, some P)
  | _, _, _ => none
@[simp] theorem x_pixS (P : Pl) (j : Int) : pixS (some .pool) (some P) j = (plIx P j).map fun d => (d, some P) := rfl
@[simp] theorem x_mPix (i : Nat) (j : Int) : mPix i j E pl = pixS E[i]? pl j := by
  unfold mPix pixS
  cases E[i]? with
  | none => rfl
  | some sl => cases sl <;> first | rfl | (cases pl <;> rfl)
@[simp] theorem x_plIx0 (P : Pl) : plIx P 0 = some (.scr P.scr) := rfl
@[simp] theorem x_plIx1 (P : Pl) : plIx P 1 = some (.int P.i) := rfl
@[simp] theorem x_plIx2 (P : Pl) : plIx P 2 = some (.int P.n) := rfl
@[simp] theorem x_plIx3 (P : Pl) : plIx P 3 = some (.int P.k) := rfl
/-- a place of the pool is set -/
def psetS (E : Env) (j : Int) : D → Option Pl → Option Sl → Option Out
  | .int z, some P, some .pool => (plSet P j z).map fun P' => .nx E (some P')
  | _, _, _ => none
@[simp] theorem x_psetS (j z : Int) (P : Pl) : psetS E j (.int z) (some P) (some .pool) = (plSet P j z).map fun P' => .nx E (some P') := rfl
@[simp] theorem x_sPset (i : Nat) (j : Int) (m : EM) : sPset i j m E pl = (m E pl).bind fun r => psetS E j r.1 r.2 E[i]? := by
  unfold sPset psetS
  cases m E pl with
  | none => rfl
  | some r =>
    obtain ⟨d, p⟩ := r
    simp only [Option.bind_some]
    cases d <;> cases p <;> first | rfl | skip
    cases E[i]? with
    | none => rfl
    | some sl => cases sl <;> rfl
@[simp] theorem x_plSet1 (P : Pl) (z : Int) : plSet P 1 z = some { P with i := z } := rfl
@[simp] theorem x_plSet2 (P : Pl) (z : Int) : plSet P 2 z = some { P with n := z } := rfl
@[simp] theorem x_plSet3 (P : Pl) (z : Int) : plSet P 3 z = some { P with k := z } := rfl
def callPS {α : Type} (g : Pl → List D → Option (α × Pl)) : Option Sl → Option (List D × Option Pl) → Option (α × Option Pl)
  | some .pool, some (xs, some P) => (g P xs).map fun r => (r.1, some r.2)
  | _, _ => none
@[simp] theorem x_callPS {α : Type} (g : Pl → List D → Option (α × Pl)) (xs : List D) (P : Pl) : callPS g (some .pool) (some (xs, some P)) = (g P xs).map fun r => (r.1, some r.2) := rfl
@[simp] theorem x_mCallP (i : Nat) (g : Pl → List D → Option (D × Pl)) (m : AM) : mCallP i g m E pl = callPS g E[i]? (m E pl) := by
  unfold mCallP callPS
  cases E[i]? with
  | none => rfl
  | some sl =>
    cases sl <;> try rfl
    cases m E pl with
    | none => rfl
    | some r => obtain ⟨xs, p⟩ := r; cases p <;> rfl
@[simp] theorem x_mCallPL (i : Nat) (g : Pl → List D → Option (List D × Pl)) (m : AM) : mCallPL i g m E pl = callPS g E[i]? (m E pl) := by
  unfold mCallPL callPS
  cases E[i]? with
  | none => rfl
  | some sl =>
    cases sl <;> try rfl
    cases m E pl with
    | none => rfl
    | some r => obtain ⟨xs, p⟩ := r; cases p <;> rfl
def pnewS (E : Env) (i : Nat) : Option (List D × Option Pl) → Option Out
  | some ([.scr ns, .int a, .int b, .int c], none) => some (.nx (E.set i .pool) (some ⟨ns, a, b, c⟩))
  | _ => none
@[simp] theorem x_pnewS (i : Nat) (ns : List Int) (a b c : Int) : pnewS E i (some ([.scr ns, .int a, .int b, .int c], none)) = some (.nx (E.set i .pool) (some ⟨ns, a, b, c⟩)) := rfl
@[simp] theorem x_sPnew (i : Nat) (m : AM) : sPnew i m E pl = pnewS (frz [] E) i (m (vw [] E) pl) := rfl
end
/-! operators at known kinds -/
@[simp] theorem x_addI (a b : Int) : dAdd (.int a) (.int b) = some (.int (a + b)) := rfl
@[simp] theorem x_addL (a b : List D) : dAdd (.lst a) (.lst b) = if sized (a.length + b.length) then some (.lst (a ++ b)) else none := rfl
@[simp] theorem x_addT (a b : List D) : dAdd (.tup a) (.tup b) = if sized (a.length + b.length) then some (.tup (a ++ b)) else none := rfl
@[simp] theorem x_sub (a b : Int) : dSub (.int a) (.int b) = some (.int (a - b)) := rfl
theorem x_mul (a b : Int) (h : ((wideB a && wideB b) || decide (a.natAbs < 2 ^ 63) || decide (b.natAbs < 2 ^ 63)) = true) : dMul (.int a) (.int b) = some (.int (a * b)) := by
  exact if_pos h
theorem x_mulS1 (a b : Int) (h : a.natAbs < 2 ^ 63) : dMul (.int a) (.int b) = some (.int (a * b)) := x_mul a b (by simp [h])
theorem x_mulS2 (a b : Int) (h : b.natAbs < 2 ^ 63) : dMul (.int a) (.int b) = some (.int (a * b)) := x_mul a b (by simp [h])
theorem x_mulW (a b : Int) (h : a.natAbs.log2 < 490000) (g : b.natAbs.log2 < 490000) : dMul (.int a) (.int b) = some (.int (a * b)) := x_mul a b (by simp [wideB, h, g])
theorem x_fdiv (a b : Int) (h : 0 < b) (g : b.natAbs.log2 < 9000) : dFdiv (.int a) (.int b) = some (.int (a / b)) := by
  exact if_pos (by simp [h, g])
theorem x_mod (a b : Int) (h : 0 < b) : dMod (.int a) (.int b) = some (.int (a % b)) := if_pos h
@[simp] theorem x_neg (a : Int) : dNeg (.int a) = some (.int (-a)) := rfl
@[simp] theorem x_lt (a b : Int) : dLt (.int a) (.int b) = some (.bl (decide (a < b))) := rfl
@[simp] theorem x_le (a b : Int) : dLe (.int a) (.int b) = some (.bl (decide (a ≤ b))) := rfl
@[simp] theorem x_gt (a b : Int) : dGt (.int a) (.int b) = some (.bl (decide (b < a))) := rfl
@[simp] theorem x_ge (a b : Int) : dGe (.int a) (.int b) = some (.bl (decide (b ≤ a))) := rfl
@[simp] theorem x_eqI (a b : Int) : dEq (.int a) (.int b) = some (.bl (decide (a = b))) := by
  unfold dEq; rw [if_pos (by simp [fl_int])]; simp only [eqd]; rfl
@[simp] theorem x_neI (a b : Int) : dNe (.int a) (.int b) = some (.bl (!decide (a = b))) := by
  unfold dNe; rw [if_pos (by simp [fl_int])]; simp only [eqd]; rfl
@[simp] theorem x_isN (a : D) : dIs a .non = some (.bl (isN a)) := rfl
@[simp] theorem x_isB (a : D) (b : Bool) : dIs a (.bl b) = some (.bl (isB b a)) := rfl
@[simp] theorem x_notN (a : D) : dIsNot a .non = some (.bl (!isN a)) := rfl
@[simp] theorem x_isNN : isN .non = true := rfl
@[simp] theorem x_isNI (i : Int) : isN (.int i) = false := rfl
@[simp] theorem x_isNB (i : Bool) : isN (.bl i) = false := rfl
@[simp] theorem x_isNT (xs : List D) : isN (.tup xs) = false := rfl
@[simp] theorem x_isNL (xs : List D) : isN (.lst xs) = false := rfl
@[simp] theorem x_isNS (xs : Str) : isN (.str xs) = false := rfl
@[simp] theorem x_isBN (b : Bool) : isB b .non = false := rfl
@[simp] theorem x_isBB (b c : Bool) : isB b (.bl c) = (c == b) := rfl
@[simp] theorem x_isBI (b : Bool) (i : Int) : isB b (.int i) = false := rfl
@[simp] theorem x_isBT (b : Bool) (i : List D) : isB b (.tup i) = false := rfl
@[simp] theorem x_isBL (b : Bool) (i : List D) : isB b (.lst i) = false := rfl
@[simp] theorem x_isBS (b : Bool) (i : Str) : isB b (.str i) = false := rfl
@[simp] theorem x_gcd (a b : Int) : gGcd [.int a, .int b] = some (.int (Nat.gcd a.natAbs b.natAbs : Nat)) := rfl
@[simp] theorem x_abs (a : Int) : gAbs [.int a] = some (.int (if a < 0 then -a else a)) := rfl
@[simp] theorem x_max (a b : Int) : gMax [.int a, .int b] = some (.int (if b > a then b else a)) := rfl
@[simp] theorem x_min (a b : Int) : gMin [.int a, .int b] = some (.int (if b < a then b else a)) := rfl
@[simp] theorem x_int (a : Int) : gInt [.int a] = some (.int a) := rfl
@[simp] theorem x_lenL (a : List D) : gLen [.lst a] = some (.int a.length) := rfl
@[simp] theorem x_lenT (a : List D) : gLen [.tup a] = some (.int a.length) := rfl
@[simp] theorem x_lenS (a : List Int) : gLen [.scr a] = some (.int a.length) := rfl
@[simp] theorem x_ixL (a : List D) (i : Int) : dIx (.lst a) (.int i) = atI a i := rfl
@[simp] theorem x_ixT (a : List D) (i : Int) : dIx (.tup a) (.int i) = atI a i := rfl
@[simp] theorem x_ixS (a : List Int) (i : Int) : dIx (.scr a) (.int i) = (atI a i).map D.int := rfl
@[simp] theorem x_at0 {α : Type} (a : α) (l : List α) : atI (a :: l) 0 = some a := by
  have h : ((0 : Int) < ((l.length + 1 : Nat) : Int)) := by omega
  unfold atI ixN
  simp only [List.length_cons]
  rw [if_pos (by decide), if_pos h]
  rfl
@[simp] theorem x_at1 {α : Type} (a b : α) (l : List α) : atI (a :: b :: l) 1 = some b := by
  have h : ((1 : Int) < ((l.length + 1 + 1 : Nat) : Int)) := by omega
  unfold atI ixN
  simp only [List.length_cons]
  rw [if_pos (by decide), if_pos h]
  rfl
@[simp] theorem x_at2 {α : Type} (a b c : α) (l : List α) : atI (a :: b :: c :: l) 2 = some c := by
  have h : ((2 : Int) < ((l.length + 1 + 1 + 1 : Nat) : Int)) := by omega
  unfold atI ixN
  simp only [List.length_cons]
  rw [if_pos (by decide), if_pos h]
  rfl
@[simp] theorem x_truI (i : Int) : tru (.int i) = some (i != 0) := rfl
@[simp] theorem x_truB (i : Bool) : tru (.bl i) = some i := rfl
@[simp] theorem x_truL (i : List D) : tru (.lst i) = some (!i.isEmpty) := rfl
@[simp] theorem x_truT (i : List D) : tru (.tup i) = some (!i.isEmpty) := rfl
@[simp] theorem x_truN : tru .non = some false := rfl
@[simp] theorem x_itL (i : List D) : itD (.lst i) = some i := rfl
@[simp] theorem x_itT (i : List D) : itD (.tup i) = some i := rfl
@[simp] theorem x_noI (i : Int) : noL (.int i) = true := by simp only [noL]
@[simp] theorem x_noB (i : Bool) : noL (.bl i) = true := by simp only [noL]
@[simp] theorem x_noN : noL .non = true := by simp only [noL]
@[simp] theorem x_noS (i : Str) : noL (.str i) = true := by simp only [noL]
@[simp] theorem x_noT (i : List D) : noL (.tup i) = noLL i := by simp only [noL]
@[simp] theorem x_noLL0 : noLL [] = true := by simp only [noLL]
@[simp] theorem x_noLLc (d : D) (ds : List D) : noLL (d :: ds) = (noL d && noLL ds) := by simp only [noLL]
theorem x_rng1 (n : Int) (h : -(2 ^ 60) < n) (g : n < 2 ^ 60) : rng1 [.int n] = some (rangeD 0 n.toNat) := by
  exact if_pos (decide_eq_true (by omega))
theorem x_rng2 (a b : Int) (h : -(2 ^ 60) < a) (g : a < 2 ^ 60) (h' : -(2 ^ 60) < b) (g' : b < 2 ^ 60) : rng2 [.int a, .int b] = some (rangeD a (b - a).toNat) := by
  exact if_pos (by simp only [Bool.and_eq_true, decide_eq_true_eq]; exact ⟨by omega, by omega⟩)
theorem x_sized {n : Nat} (h : n ≤ 1000000) : sized n = true := decide_eq_true h
/-! what a def hands back -/
def outF : Option Out → Option D
  | some (.rt d _ _) => some d
  | some (.rtl xs _ _) => some (.lst xs)
  | some (.nx _ _) => some .non
  | _ => none
def outL : Option Out → Option (List D)
  | some (.rtl xs _ _) => some xs
  | _ => none
def outP : Option Out → Option (D × Pl)
  | some (.rt d _ (some P')) => some (d, P')
  | some (.rtl xs _ (some P')) => some (.lst xs, P')
  | some (.nx _ (some P')) => some (.non, P')
  | _ => none
def outPL : Option Out → Option (List D × Pl)
  | some (.rtl xs _ (some P')) => some (xs, P')
  | _ => none
theorem x_runF (n : Nat) (m : SM) (ds : List D) : runF n m ds = outF (m (env0 n ds) none) := rfl
theorem x_runL (n : Nat) (m : SM) (ds : List D) : runL n m ds = outL (m (env0 n ds) none) := rfl
theorem x_runP (n : Nat) (m : SM) (P : Pl) (ds : List D) : runP n m P ds = outP (m (Sl.pool :: env0 (n - 1) ds) (some P)) := rfl
theorem x_runPL (n : Nat) (m : SM) (P : Pl) (ds : List D) : runPL n m P ds = outPL (m (Sl.pool :: env0 (n - 1) ds) (some P)) := rfl
@[simp] theorem x_oF1 (d : D) (E : Env) (p : Option Pl) : outF (some (.rt d E p)) = some d := rfl
@[simp] theorem x_oF2 (xs : List D) (E : Env) (p : Option Pl) : outF (some (.rtl xs E p)) = some (.lst xs) := rfl
@[simp] theorem x_oF3 (E : Env) (p : Option Pl) : outF (some (.nx E p)) = some .non := rfl
@[simp] theorem x_oL2 (xs : List D) (E : Env) (p : Option Pl) : outL (some (.rtl xs E p)) = some xs := rfl
@[simp] theorem x_oP1 (d : D) (E : Env) (p : Pl) : outP (some (.rt d E (some p))) = some (d, p) := rfl
@[simp] theorem x_oP2 (xs : List D) (E : Env) (p : Pl) : outP (some (.rtl xs E (some p))) = some (.lst xs, p) := rfl
@[simp] theorem x_oP3 (E : Env) (p : Pl) : outP (some (.nx E (some p))) = some (.non, p) := rfl
@[simp] theorem x_oPL2 (xs : List D) (E : Env) (p : Pl) : outPL (some (.rtl xs E (some p))) = some (xs, p) := rfl
/-! loops -/
/-- a loop, by what holds after each turn -/
theorem for_inv {g : TM} {b : SM} {α : Type} (f : α → D) (Pv : Nat → Env → Option Pl → Prop) : ∀ (xs : List α) (i : Nat) (E : Env) (pl : Option Pl), Pv i E pl →
    (∀ (j : Nat) (x : α) (E : Env) (pl : Option Pl), xs[j]? = some x → Pv (i + j) E pl → ∃ E1, g (f x) E = some E1 ∧ ∃ E2 p2, (b E1 pl = some (.nx E2 p2) ∨ b E1 pl = some (.ct E2 p2)) ∧ Pv (i + j + 1) E2 p2) →
    ∃ E' pl', forL g b (xs.map f) E pl = some (.nx E' pl') ∧ Pv (i + xs.length) E' pl'
  | [], i, E, pl, h, _ => ⟨E, pl, rfl, h⟩
  | x :: xs, i, E, pl, h, hs => by
    obtain ⟨E1, e1, E2, p2, e2, h2⟩ := hs 0 x E pl rfl h
    obtain ⟨E', pl', e3, h3⟩ := for_inv f Pv xs (i + 1) E2 p2 h2 (fun j y E pl hy hp => by
      have z := hs (j + 1) y E pl (by simpa using hy) (by rw [show i + (j + 1) = i + 1 + j by omega]; exact hp)
      rw [show i + (j + 1) = i + 1 + j by omega] at z
      exact z)
    refine ⟨E', pl', ?_, by rw [List.length_cons, show i + (xs.length + 1) = i + 1 + xs.length by omega]; exact h3⟩
    rw [List.map_cons]
    unfold forL
    rw [e1]
    rcases e2 with e2 | e2 <;> (dsimp only; rw [e2]; exact e3)
/-- behind a turn -/
def aft (o : Option Out) (k : SM) : Option Out := match o with
  | some (.nx E p) => k E p
  | some (.ct E p) => k E p
  | some (.bk E p) => some (.nx E p)
  | some (.rt d E p) => some (.rt d E p)
  | some (.rtl d E p) => some (.rtl d E p)
  | none => none
@[simp] theorem x_afN (E : Env) (p : Option Pl) (k : SM) : aft (some (.nx E p)) k = k E p := rfl
@[simp] theorem x_afC (E : Env) (p : Option Pl) (k : SM) : aft (some (.ct E p)) k = k E p := rfl
@[simp] theorem x_afB (E : Env) (p : Option Pl) (k : SM) : aft (some (.bk E p)) k = some (.nx E p) := rfl
@[simp] theorem x_afR (d : D) (E : Env) (p : Option Pl) (k : SM) : aft (some (.rt d E p)) k = some (.rt d E p) := rfl
@[simp] theorem x_afL (d : List D) (E : Env) (p : Option Pl) (k : SM) : aft (some (.rtl d E p)) k = some (.rtl d E p) := rfl
theorem x_for0 (g : TM) (b : SM) (E : Env) (pl : Option Pl) : forL g b [] E pl = some (.nx E pl) := rfl
theorem x_forC (g : TM) (b : SM) (d : D) (ds : List D) (E : Env) (pl : Option Pl) : forL g b (d :: ds) E pl = (g d E).bind fun E1 => aft (b E1 pl) (forL g b ds) := by
  show (match g d E with | none => none | some E1 => _) = _
  cases g d E with
  | none => rfl
  | some E1 =>
    simp only [Option.bind_some]
    cases b E1 pl with
    | none => rfl
    | some o => cases o <;> rfl
theorem x_whS (c : BM) (b : SM) (n : Nat) (E : Env) (pl : Option Pl) : whL c b (n + 1) E pl = (c E pl).bind fun r => bM r.1 (aft (b E r.2) (whL c b n)) (some (.nx E r.2)) := by
  show (match c E pl with | none => none | some (false, p) => some (Out.nx E p) | some (true, p) => _) = _
  cases c E pl with
  | none => rfl
  | some r =>
    obtain ⟨t, p⟩ := r
    simp only [Option.bind_some]
    cases t with
    | false => rfl
    | true =>
      simp only [x_bT]
      cases b E p with
      | none => rfl
      | some o => cases o <;> rfl
theorem rangeD_map (lo : Int) (n : Nat) : rangeD lo n = (List.range n).map fun i => D.int (lo + (i : Nat)) := rfl
/-! what DLA .. DLC add -/
section
variable {E : Env} {pl : Option Pl}
@[simp] theorem x_tYes : tYesM E pl = some (true, pl) := rfl
@[simp] theorem x_mOpL (g : D → D → Option (List D)) (ma mb : EM) : mOpL g ma mb E pl = (ma E pl).bind fun a => (mb E a.2).bind fun b => (g a.1 b.1).map fun d => (d, b.2) := by
  unfold mOpL; simp only [x_seqM, x_lft]
@[simp] theorem x_oNo : oNo E pl = some (none, pl) := rfl
@[simp] theorem x_oSome (m : EM) : oSome m E pl = (m E pl).bind fun a => (intD a.1).map fun i => (some i, a.2) := by
  unfold oSome; simp only [x_seqM, x_lft]
  cases m E pl with
  | none => rfl
  | some r => simp only [Option.bind_some]; cases intD r.1 <;> rfl
@[simp] theorem x_intD (i : Int) : intD (.int i) = some i := rfl
@[simp] theorem x_mSl (m : EM) (lo hi : OM) : mSl m lo hi E pl = (m E pl).bind fun a => (lo E a.2).bind fun l => (hi E l.2).bind fun h => (dSl a.1 l.1 h.1).map fun d => (d, h.2) := by
  unfold mSl; simp only [x_seqM, x_lft]
@[simp] theorem x_mSlL (m : EM) (lo hi : OM) : mSlL m lo hi E pl = (m E pl).bind fun a => (lo E a.2).bind fun l => (hi E l.2).bind fun h => (dSlL a.1 l.1 h.1).map fun d => (d, h.2) := by
  unfold mSlL; simp only [x_seqM, x_lft]
@[simp] theorem x_dSlL (xs : List D) (lo hi : Option Int) : dSl (.lst xs) lo hi = some (.lst (cutD xs lo hi)) := rfl
@[simp] theorem x_dSlT (xs : List D) (lo hi : Option Int) : dSl (.tup xs) lo hi = some (.tup (cutD xs lo hi)) := rfl
@[simp] theorem x_dSlLL (xs : List D) (lo hi : Option Int) : dSlL (.lst xs) lo hi = some (cutD xs lo hi) := rfl
@[simp] theorem x_gListL (xs : List D) : gList [.lst xs] = some xs := rfl
@[simp] theorem x_gListT (xs : List D) : gList [.tup xs] = some xs := rfl
@[simp] theorem x_gTupleL (xs : List D) : gTuple [.lst xs] = some (.tup xs) := rfl
@[simp] theorem x_gTupleT (xs : List D) : gTuple [.tup xs] = some (.tup xs) := rfl
@[simp] theorem x_catL (a b : List D) : catL (.lst a) (.lst b) = if sized (a.length + b.length) then some (a ++ b) else none := rfl
@[simp] theorem x_enumI (xs : List D) : enumI [.lst xs] = some (enumD 0 xs) := rfl
theorem x_any (bs : List Bool) : gAny [.lst (bs.map D.bl)] = some (.bl (bs.any id)) := by unfold gAny; dsimp only; rw [blsOf_map]; rfl
theorem x_all (bs : List Bool) : gAll [.lst (bs.map D.bl)] = some (.bl (bs.all id)) := by unfold gAll; dsimp only; rw [blsOf_map]; rfl
theorem x_sum (is : List Int) : gSum [.lst (is.map D.int)] = some (.int is.sum) := by unfold gSum; dsimp only; rw [intsOf_map]; rfl
@[simp] theorem x_mLc (vs : List Nat) (src : AM) (f : TM) (mt : BM) (me : EM) : mLc vs src f mt me E pl = (src E pl).bind fun r => bM (sized r.1.length) (lcL f mt me (wipeE E vs) r.1 r.2) none := by
  unfold mLc
  cases src E pl with
  | none => rfl
  | some r => rfl
@[simp] theorem x_wipe0 : wipeE E [] = E := rfl
@[simp] theorem x_wipeC (v : Nat) (vs : List Nat) : wipeE E (v :: vs) = (wipeE E vs).set v .un := rfl
theorem x_lc0 (f : TM) (mt : BM) (me : EM) : lcL f mt me E [] pl = some ([], pl) := rfl
/-- a comprehension without tests: each item by itself -/
theorem lc_map {α : Type} (f : TM) (me : EM) (d : α → D) (g : α → D) : ∀ (xs : List α), (∀ x ∈ xs, ∃ E1, f (d x) E = some E1 ∧ me E1 pl = some (g x, pl)) → lcL f tYesM me E (xs.map d) pl = some (xs.map g, pl)
  | [], _ => rfl
  | x :: xs, h => by
    obtain ⟨E1, h1, h2⟩ := h x List.mem_cons_self
    rw [List.map_cons, List.map_cons]
    unfold lcL
    rw [h1]
    dsimp only [x_tYes]
    rw [h2]
    dsimp only
    rw [lc_map f me d g xs fun y hy => h y (List.mem_cons_of_mem _ hy)]
/-- .. with a test -/
theorem lc_filter {α : Type} (f : TM) (mt : BM) (me : EM) (d : α → D) (t : α → Bool) (g : α → D) : ∀ (xs : List α), (∀ x ∈ xs, ∃ E1, f (d x) E = some E1 ∧ mt E1 pl = some (t x, pl) ∧ (t x = true → me E1 pl = some (g x, pl))) → lcL f mt me E (xs.map d) pl = some ((xs.filter t).map g, pl)
  | [], _ => rfl
  | x :: xs, h => by
    obtain ⟨E1, h1, h2, h3⟩ := h x List.mem_cons_self
    have ih := lc_filter f mt me d t g xs fun y hy => h y (List.mem_cons_of_mem _ hy)
    rw [List.map_cons]
    unfold lcL
    rw [h1]
    dsimp only
    rw [h2]
    cases ht : t x with
    | false => rw [List.filter_cons_of_neg (by simp [ht])]; exact ih
    | true =>
      rw [List.filter_cons_of_pos ht, List.map_cons]
      dsimp only
      rw [h3 ht]
      dsimp only
      rw [ih]
end
@[simp] theorem sz0 : sized 0 = true := by decide
@[simp] theorem sz1 : sized 1 = true := by decide
@[simp] theorem sz2 : sized 2 = true := by decide
@[simp] theorem sz3 : sized 3 = true := by decide
@[simp] theorem sz4 : sized 4 = true := by decide
@[simp] theorem sz5 : sized 5 = true := by decide
@[simp] theorem sz6 : sized 6 = true := by decide
@[simp] theorem sz7 : sized 7 = true := by decide
@[simp] theorem sz8 : sized 8 = true := by decide
@[simp] theorem sz9 : sized 9 = true := by decide
@[simp] theorem sz10 : sized 10 = true := by decide
@[simp] theorem sz11 : sized 11 = true := by decide
@[simp] theorem sz12 : sized 12 = true := by decide
@[simp] theorem sz13 : sized 13 = true := by decide
@[simp] theorem sz14 : sized 14 = true := by decide
@[simp] theorem sz15 : sized 15 = true := by decide
@[simp] theorem sz16 : sized 16 = true := by decide
theorem x_lcC (f : TM) (me : EM) (E : Env) (d : D) (ds : List D) (pl : Option Pl) : lcL f tYesM me E (d :: ds) pl = (f d E).bind fun E1 => (me E1 pl).bind fun r => (lcL f tYesM me E ds r.2).map fun q => (r.1 :: q.1, q.2) := by
  conv => lhs; unfold lcL
  cases f d E with
  | none => rfl
  | some E1 =>
    simp only [Option.bind_some, x_tYes]
    cases me E1 pl with
    | none => rfl
    | some r =>
      simp only [Option.bind_some]
      cases lcL f tYesM me E ds r.2 with
      | none => rfl
      | some q => rfl
/-- a comprehension that draws: each item has what each drawn one has -/
theorem lc_draw {f : TM} {me : EM} {E : Env} (Q : D → Prop) (h : ∀ (d : D) (P : Pl), ∃ E1 v P', f d E = some E1 ∧ me E1 (some P) = some (v, some P') ∧ Q v) : ∀ (ds : List D) (P : Pl), ∃ vs P', lcL f tYesM me E ds (some P) = some (vs, some P') ∧ vs.length = ds.length ∧ ∀ v ∈ vs, Q v
  | [], P => ⟨[], P, rfl, rfl, by simp⟩
  | d :: ds, P => by
    obtain ⟨E1, v, P1, e1, e2, q⟩ := h d P
    obtain ⟨vs, P2, e3, l, a⟩ := lc_draw Q h ds P1
    refine ⟨v :: vs, P2, ?_, by simp [l], fun x hx => ?_⟩
    · rw [x_lcC, e1, Option.bind_some, e2, Option.bind_some, e3]; rfl
    · rcases List.mem_cons.mp hx with rfl | hx
      · exact q
      · exact a x hx
@[simp] theorem x_at3 {α : Type} (a b c d : α) (l : List α) : atI (a :: b :: c :: d :: l) 3 = some d := atI_nat (j := 3) rfl
@[simp] theorem x_notB (a : D) (b : Bool) : dIsNot a (.bl b) = some (.bl (!isB b a)) := rfl
/-- the slots at a def's start -/
@[simp] theorem e0c (n : Nat) (d : D) (ds : List D) : env0 (n + 1) (d :: ds) = .val d :: env0 n ds := by
  unfold env0; rw [List.map_cons, List.length_cons, show n + 1 - (ds.length + 1) = n - ds.length by omega]; rfl
@[simp] theorem e0n (n : Nat) : env0 (n + 1) [] = .un :: env0 n [] := by
  unfold env0; rw [List.map_nil, List.length_nil, Nat.sub_zero, Nat.sub_zero, List.replicate_succ]; rfl
@[simp] theorem e00 : env0 0 [] = [] := rfl
@[simp] theorem x_gTLt (n : Nat) (f : List D → Env → Option Env) (ds : List D) (E : Env) : gTL n f (.tup ds) E = bM (ds.length == n) (f ds E) none := rfl
@[simp] theorem x_gTLl (n : Nat) (f : List D → Env → Option Env) (ds : List D) (E : Env) : gTL n f (.lst ds) E = bM (ds.length == n) (f ds E) none := rfl
/-- the items of a list -/
def lstD : D → Option (List D) | .lst ys => some ys | _ => none
@[simp] theorem x_lstD (ys : List D) : lstD (.lst ys) = some ys := rfl
@[simp] theorem x_sExtF (F : List Nat) (i : Nat) (m : EM) (E : Env) (pl : Option Pl) : sExtF F i m E pl = (m (vw F E) pl).bind fun r => (lstD r.1).bind fun ys => (ownS (frz F E)[i]?).bind fun xs => bM (sized (xs.length + ys.length)) (some (.nx ((frz F E).set i (.own (xs ++ ys))) r.2)) none := by
  unfold sExtF ownS
  cases m (vw F E) pl with
  | none => rfl
  | some r =>
    obtain ⟨d, p⟩ := r
    cases d <;> try rfl
    simp only [Option.bind_some, x_lstD]
    cases (frz F E)[i]? with
    | none => rfl
    | some sl => cases sl <;> rfl
@[simp] theorem x_sExtS (i : Nat) (m : EM) (E : Env) (pl : Option Pl) : sExtS i m E pl = (m E pl).bind fun r => (lstD r.1).bind fun ys => (ownS E[i]?).bind fun xs => bM (noLL ys && sized (xs.length + ys.length)) (some (.nx (E.set i (.own (xs ++ ys))) r.2)) none := by
  unfold sExtS ownS
  cases m E pl with
  | none => rfl
  | some r =>
    obtain ⟨d, p⟩ := r
    cases d <;> try rfl
    simp only [Option.bind_some, x_lstD]
    cases E[i]? with
    | none => rfl
    | some sl => cases sl <;> rfl
@[simp] theorem x_sOwnS (i : Nat) (m : AM) (E : Env) (pl : Option Pl) : sOwnS i m E pl = (m E pl).bind fun r => bM (noLL r.1) (some (.nx (E.set i (.own r.1)) r.2)) none := by
  unfold sOwnS
  cases m E pl with
  | none => rfl
  | some r => rfl
@[simp] theorem x_sAsgLS (i : Nat) (m : AM) (E : Env) (pl : Option Pl) : sAsgLS i m E pl = (m E pl).bind fun r => bM (noLL r.1) (some (.nx (E.set i (.val (.lst r.1))) r.2)) none := by
  unfold sAsgLS
  cases m E pl with
  | none => rfl
  | some r => rfl
end Dn
set_option Elab.async false
set_option linter.all false
set_option maxRecDepth 100000
set_option maxHeartbeats 4000000
/-! zip(a, b, c, strict=False) of lists -/
namespace Zs
open PySem PySem.Spec PyProof.Rows L2 Builtin
set_option maxHeartbeats 2000000 in
theorem meets_zf3 {v1 v2 v3 : Value} {o1 o2 o3 : Obj} {H1 H2 H3 : Heap → Prop} (B1 : Begins v1 o1 H1) (B2 : Begins v2 o2 H2) (B3 : Begins v3 o3 H3) :
    Meets (Builtin.«zip.__new__» ⟨[.type "zip", v1, v2, v3], [(Str.ofString "strict", .bool false)]⟩) (fun _ R s => (H1 s.heap ∧ H2 s.heap ∧ H3 s.heap) ∧
      R (.ok (.ret (.ref (gzO3 s.heap o1 o2 o3).objs.size))) { s with heap := gzZ3 s.heap o1 o2 o3 }) :=
  .of_wp fun prog w A R s h => by
    obtain ⟨hp, g, d, tk, os⟩ := s; obtain ⟨⟨h1, h2, h3⟩, h⟩ := h
    have hsub := sub_zip
    have q1 : ∀ {A' : Around} {E : Value → Shared → Prop} {Q : Value → Shared → Prop}, Q (.ref hp.objs.size) ⟨(hp.push o1), g, d, tk, os⟩ → wpAny (model prog w) A' (pyIter v1) Q E ⟨hp, g, d, tk, os⟩ :=
      fun q => B1.iter prog w _ _ ⟨hp, g, d, tk, os⟩ _ (B1.keeps _ _ h1 fun b o' e => e) q
    have q2 : ∀ {A' : Around} {E : Value → Shared → Prop} {Q : Value → Shared → Prop}, Q (.ref (hp.push o1).objs.size) ⟨((hp.push o1).push o2), g, d, tk, os⟩ → wpAny (model prog w) A' (pyIter v2) Q E ⟨(hp.push o1), g, d, tk, os⟩ :=
      fun q => B2.iter prog w _ _ ⟨(hp.push o1), g, d, tk, os⟩ _ (B2.keeps _ _ h2 fun b o' e => (Heap.get?_push_of_some _ e)) q
    have q3 : ∀ {A' : Around} {E : Value → Shared → Prop} {Q : Value → Shared → Prop}, Q (.ref ((hp.push o1).push o2).objs.size) ⟨(((hp.push o1).push o2).push o3), g, d, tk, os⟩ → wpAny (model prog w) A' (pyIter v3) Q E ⟨((hp.push o1).push o2), g, d, tk, os⟩ :=
      fun q => B3.iter prog w _ _ ⟨((hp.push o1).push o2), g, d, tk, os⟩ _ (B3.keeps _ _ h3 fun b o' e => (Heap.get?_push_of_some _ (Heap.get?_push_of_some _ e))) q
    have e1 : (Str.ofString "strict" == ("strict" : Str)) = true := by decide +kernel
    have e2 : (Str.ofString "strict" != ("strict" : Str)) = false := by decide +kernel
    wp_walk using q1, q2, q3
    all_goals first | exact ⟨_, rfl, h⟩ | skip
theorem F.typeCall_z3 (a b c d : Value) : checkTypeCall "zip" ⟨[a, b, c], [(Str.ofString "strict", d)]⟩ = pure () := by kernel_rfl
theorem F.newCall_z3 (a b c d : Value) : checkBuiltinCall "zip.__new__" ⟨[.type "zip", a, b, c], [(Str.ofString "strict", d)]⟩ = pure () := by kernel_rfl
theorem F.init_z3 (obj a b c d : Value) : argsOk "object.__init__" ⟨[obj, a, b, c], [(Str.ofString "strict", d)]⟩ := by unfold argsOk; kernel_rfl
section
variable {prog : Program} {w : World} {A : Around} {E : Value → Shared → Prop} {s : Shared}
theorem zf3_begins {v1 v2 v3 : Value} {o1 o2 o3 : Obj} {H1 H2 H3 : Heap → Prop} {Q : Value → Shared → Prop} (B1 : Begins v1 o1 H1) (B2 : Begins v2 o2 H2) (B3 : Begins v3 o3 H3) (h1 : H1 s.heap) (h2 : H2 s.heap) (h3 : H3 s.heap)
    (h : ∀ h', IsZip h' (s.heap.objs.size + 5) (s.heap.objs.size + 3) (s.heap.objs.size + 4) .none → IsTupOf3 h' (s.heap.objs.size + 3) (.ref s.heap.objs.size) (.ref (s.heap.objs.size + 1)) (.ref (s.heap.objs.size + 2)) →
      IsTupOf3 h' (s.heap.objs.size + 4) .none .none .none → h'.get? s.heap.objs.size = some o1 → h'.get? (s.heap.objs.size + 1) = some o2 → h'.get? (s.heap.objs.size + 2) = some o3 → h'.objs.size = s.heap.objs.size + 6 →
      (∀ c o, s.heap.get? c = some o → h'.get? c = some o) → Q (.ref (s.heap.objs.size + 5)) { s with heap := h' }) :
    wpAny (model prog w) A (call (.type "zip") [v1, v2, v3] [(Str.ofString "strict", .bool false)]) Q E s := by
  refine callType_newKw F.called_zip (by decide) (F.typeCall_z3 _ _ _ _) (F.newCall_z3 _ _ _ _) (fun obj => F.init_z3 obj _ _ _ _) F.entry_zip_new
    (meets_zf3 B1 B2 B3) ⟨⟨h1, h2, h3⟩, ?_⟩
  have z1 : (s.heap.push o1).objs.size = s.heap.objs.size + 1 := by rw [Heap.size_push]
  have z2 : ((s.heap.push o1).push o2).objs.size = s.heap.objs.size + 2 := by rw [Heap.size_push, z1]
  have z3 : (((s.heap.push o1).push o2).push o3).objs.size = s.heap.objs.size + 3 := by rw [Heap.size_push, z2]
  have zT : (gzT3 s.heap o1 o2 o3).objs.size = s.heap.objs.size + 4 := by rw [Heap.size_push, z3]
  have zO : (gzO3 s.heap o1 o2 o3).objs.size = s.heap.objs.size + 5 := by rw [Heap.size_push, zT]
  have zZ : (gzZ3 s.heap o1 o2 o3).objs.size = s.heap.objs.size + 6 := by rw [Heap.size_push, zO]
  have gZ : (gzZ3 s.heap o1 o2 o3).get? (gzO3 s.heap o1 o2 o3).objs.size = some { cls := .type "zip", data := .fields #[.none, .bool false, .bool false, .ref (((s.heap.push o1).push o2).push o3).objs.size, .ref (gzT3 s.heap o1 o2 o3).objs.size] } := Heap.get?_push_size _ rfl
  have gO : (gzZ3 s.heap o1 o2 o3).get? (gzT3 s.heap o1 o2 o3).objs.size = some { cls := .type "tuple", data := .seq #[.none, .none, .none] } := Heap.get?_push_of_some _ (Heap.get?_push_size _ rfl)
  have gT : (gzZ3 s.heap o1 o2 o3).get? (((s.heap.push o1).push o2).push o3).objs.size = some { cls := .type "tuple", data := .seq #[.ref s.heap.objs.size, .ref (s.heap.push o1).objs.size, .ref ((s.heap.push o1).push o2).objs.size] } := Heap.get?_push_of_some _ (Heap.get?_push_of_some _ (Heap.get?_push_size _ rfl))
  have g1 : (gzZ3 s.heap o1 o2 o3).get? s.heap.objs.size = some o1 := Heap.get?_push_of_some _ (Heap.get?_push_of_some _ (Heap.get?_push_of_some _ (Heap.get?_push_of_some _ (Heap.get?_push_of_some _ (Heap.get?_push_size _ B1.free)))))
  have g2 : (gzZ3 s.heap o1 o2 o3).get? (s.heap.push o1).objs.size = some o2 := Heap.get?_push_of_some _ (Heap.get?_push_of_some _ (Heap.get?_push_of_some _ (Heap.get?_push_of_some _ (Heap.get?_push_size _ B2.free))))
  have g3 : (gzZ3 s.heap o1 o2 o3).get? ((s.heap.push o1).push o2).objs.size = some o3 := Heap.get?_push_of_some _ (Heap.get?_push_of_some _ (Heap.get?_push_of_some _ (Heap.get?_push_size _ B3.free)))
  rw [zO, zT, z3] at gZ
  rw [zT] at gO
  rw [z3, z2, z1] at gT
  rw [z1] at g2
  rw [z2] at g3
  show _ ∧ _
  rw [zO]
  exact ⟨⟨_, gZ, rfl⟩, h _ gZ gT gO g1 g2 g3 zZ fun c o e => Heap.get?_push_of_some _ (Heap.get?_push_of_some _ (Heap.get?_push_of_some _ (Heap.get?_push_of_some _ (Heap.get?_push_of_some _ (Heap.get?_push_of_some _ e)))))⟩
/-- an iterator at turn i: it draws, or it is at its end -/
theorem draws_at (hh : A.handled = none) (it l : Addr) (hne : l ≠ it) (its : Array Value) (i : Nat) : ∃ (n : Nat) (P : Nat → Value → Prop) (St : Nat → Heap → Prop), Draws prog w A it [it, l] n P St ∧ i ≤ n ∧ (its.size ≤ i → i = n) ∧ ∀ h : Heap, h.IsListIter it l i → h.IsList l its → St i h := by
  by_cases hi : i < its.size
  · exact ⟨_, _, _, Draws.list hh it l hne its, by omega, fun h => by omega, fun h a b => ⟨a, b⟩⟩
  · refine ⟨i, fun _ _ => False, fun j h => j = i ∧ h.IsListIter it l i ∧ h.IsList l its, ?_, Nat.le_refl _, fun _ => rfl, fun h a b => ⟨rfl, a, b⟩⟩
    exact {
      live := fun _ _ st => let ⟨o, ho, _⟩ := st.2.1; ⟨o, ho⟩
      frame := fun _ _ _ st hk => ⟨st.1, st.2.1.at fun o e => hk it (by simp) o e, st.2.2.at fun o e => hk l (by simp) o e⟩
      item := fun j s Q E hj st hQ => by have := st.1; omega
      done := fun s Q E st hE => wpAny_nextOf_list_end hh st.2.1 st.2.2 (by simp; omega) hE }
end
/-- triples of the items at a, b and c -/
def Itz3 (K : PySem.W.Frag) (a b c : Addr) : It :=
  ⟨fun i H => ∃ (xs ys zs : List V) (x y z : V), SqL K H a xs ∧ SqL K H b ys ∧ SqL K H c zs ∧ xs[i]? = some x ∧ ys[i]? = some y ∧ zs[i]? = some z,
    fun i H v H' => ∃ T x y z, v = .ref T ∧ H T = none ∧ H' = upd H T (.tup [x, y, z]) ∧ (∀ xs, SqL K H a xs → xs[i]? = some x) ∧ (∀ ys, SqL K H b ys → ys[i]? = some y) ∧ ∀ zs, SqL K H c zs → zs[i]? = some z,
    fun i H => ∃ xs ys zs : List V, SqL K H a xs ∧ SqL K H b ys ∧ SqL K H c zs ∧ (xs.length ≤ i ∨ ys.length ≤ i ∨ zs.length ≤ i)⟩
theorem turn_z3 {P : Program} {w : World} {K : PySem.W.Frag} {elts : List Expr} {kk : Nat} {tpos : Pos} {a b c z TI TO i1 i2 i3 : Addr} (S : ZipSep3 z TI TO i1 i2 i3 [i1, a] [i2, b] [i3, c]) (n1 : a ≠ i1) (n2 : b ≠ i2) (n3 : c ≠ i3) :
    Turn P w K (.Tuple elts kk tpos) (Itz3 K a b c) [z, TI, TO, i1, i2, i3] z (fun i h => IsZip h z TI TO .none ∧ IsTupOf3 h TI (.ref i1) (.ref i2) (.ref i3) ∧ (∃ x y u, IsTupOf3 h TO x y u) ∧ h.IsListIter i1 a i ∧ h.IsListIter i2 b i ∧ h.IsListIter i3 c i) where
  mem := by simp
  obj := fun i h st d hd => by
    obtain ⟨hz, hTI, ⟨x, y, u, hTO⟩, ⟨o1, e1, _, d1⟩, ⟨o2, e2, _, d2⟩, ⟨o3, e3, _, d3⟩⟩ := st
    have e' : d = z ∨ d = TI ∨ d = TO ∨ d = i1 ∨ d = i2 ∨ d = i3 := by simpa using hd
    rcases e' with q | q | q | q | q | q
    · rw [q]; exact ⟨_, hz, fun v q => nomatch q⟩
    · rw [q]; exact ⟨_, hTI, fun v q => nomatch q⟩
    · rw [q]; exact ⟨_, hTO, fun v q => nomatch q⟩
    · rw [q]; exact ⟨o1, e1, fun v q => by rw [d1] at q; cases q⟩
    · rw [q]; exact ⟨o2, e2, fun v q => by rw [d2] at q; cases q⟩
    · rw [q]; exact ⟨o3, e3, fun v q => by rw [d3] at q; cases q⟩
  keep := fun i h h' st k => by
    obtain ⟨hz, hTI, ⟨x, y, u, hTO⟩, h1, h2, h3⟩ := st
    exact ⟨k z (by simp) _ hz, k TI (by simp) _ hTI, ⟨x, y, u, k TO (by simp) _ hTO⟩, h1.at fun o q => k i1 (by simp) o q, h2.at fun o q => k i2 (by simp) o q, h3.at fun o q => k i3 (by simp) o q⟩
  item := by
    intro X hP hw hK hc i pins s σ H E I hf st hg
    subst hP hw hK
    obtain ⟨hz, hTI, ⟨x0, y0, u0, hTO⟩, h1, h2, h3⟩ := st
    obtain ⟨xs, ys, zs, x, y, u, hqx, hqy, hqz, hx, hy, hu⟩ := hg
    obtain ⟨its, rv, p, _⟩ := I.list hqx
    obtain ⟨its2, rv2, p2, _⟩ := I.list hqy
    obtain ⟨its3, rv3, p3, _⟩ := I.list hqz
    obtain ⟨v1, hv1, ru1⟩ := rv.get hx
    obtain ⟨v2, hv2, ru2⟩ := rv2.get hy
    obtain ⟨v3, hv3, ru3⟩ := rv3.get hu
    have hh : X.A.in1.handled = none := I.ok.hd hc
    have hzl : z < s.heap.objs.size := Heap.lt_size hz
    have l1 : i < its.toArray.size := by
      have := (List.getElem?_eq_some_iff.mp hv1).1; simpa using this
    have l2 : i < its2.toArray.size := by
      have := (List.getElem?_eq_some_iff.mp hv2).1; simpa using this
    have l3 : i < its3.toArray.size := by
      have := (List.getElem?_eq_some_iff.mp hv3).1; simpa using this
    refine wpAny_pyNext_zipD3_item S (Draws.list hh i1 a n1 its.toArray) (Draws.list hh i2 b n2 its2.toArray) (Draws.list hh i3 c n3 its3.toArray) hz hTI hTO ⟨h1, p.isList⟩ ⟨h2, p2.isList⟩ ⟨h3, p3.isList⟩ l1 l2 l3 fun w1 w2 w3 h' tk e1 e2 e3 z' TO' s1 s2 s3 hT hsz hk => ?_
    have e1' : w1 = v1 := by
      have : its.toArray[i]? = some v1 := by simpa using hv1
      rw [this] at e1; cases e1; rfl
    have e2' : w2 = v2 := by
      have : its2.toArray[i]? = some v2 := by simpa using hv2
      rw [this] at e2; cases e2; rfl
    have e3' : w3 = v3 := by
      have : its3.toArray[i]? = some v3 := by simpa using hv3
      rw [this] at e3; cases e3; rfl
    subst e1' e2' e3'
    refine ⟨_, rfl, wpAny_letOwnedTupleGo_zip (s := { s with heap := h', toks := tk }) z' fun h'' z'' sb => ?_⟩
    have hT2 : h''.get? s.heap.objs.size = some { cls := .type "tuple", data := .seq #[w1, w2, w3] } := (sb.2 _ (Nat.ne_of_gt hzl)).trans hT
    have new : ObjOk X.prog X.w (upd H s.heap.objs.size (.tup [x, y, u])) h'' s.heap.objs.size (.tup [x, y, u]) :=
      ⟨by show 3 ≤ sizeLine; decide, [w1, w2, w3], .cons ru1 (.cons ru2 (.cons ru3 .nil)), ⟨_, hT2, rfl, _, rfl⟩⟩
    have I1 : Inv X pins σ (upd H s.heap.objs.size (.tup [x, y, u])) { s with heap := h'', toks := tk } :=
      I.turnedNew (t' := tk) (ch := [z, TI, TO, i1, i2, i3]) (fun d o hb q => (sb.2 d (fun q' => hb (by simp [q']))).trans (hk d o (fun q' => hb (by simp [q'])) (fun q' => hb (by simp [q'])) (fun q' => hb (by simp [q'])) (fun q' => hb (by simp [q'])) (fun q' => hb (by simp [q'])) q)) hf (Nat.le_refl _) new
    refine ⟨.ref s.heap.objs.size, _, I1, rfl, ⟨_, x, y, u, rfl, I.hok.fresh (Nat.le_refl _), rfl, fun l hl => by rw [I.list_inj hl hqx]; exact hx, fun l hl => by rw [I.list_inj hl hqy]; exact hy, fun l hl => by rw [I.list_inj hl hqz]; exact hu⟩, ⟨z'', ?_, ⟨w1, w2, w3, ?_⟩, ?_, ?_, ?_⟩, fun d hdm => ?_⟩
    · exact (sb.2 _ S.TIz).trans (hk _ _ S.TIz S.TITO S.TIi1 S.TIi2 S.TIi3 hTI)
    · exact (sb.2 _ S.TOz).trans TO'
    · exact s1.1.at fun o q => (sb.2 _ S.zi1.symm).trans q
    · exact s2.1.at fun o q => (sb.2 _ S.zi2.symm).trans q
    · exact s3.1.at fun o q => (sb.2 _ S.zi3.symm).trans q
    · have hlt : d < s.heap.objs.size := by
        have e' : d = z ∨ d = TI ∨ d = TO ∨ d = i1 ∨ d = i2 ∨ d = i3 := by simpa using hdm
        rcases e' with q | q | q | q | q | q
        · rw [q]; exact hzl
        · rw [q]; exact Heap.lt_size hTI
        · rw [q]; exact Heap.lt_size hTO
        · rw [q]; obtain ⟨_, e1, _⟩ := h1; exact Heap.lt_size e1
        · rw [q]; obtain ⟨_, e1, _⟩ := h2; exact Heap.lt_size e1
        · rw [q]; obtain ⟨_, e1, _⟩ := h3; exact Heap.lt_size e1
      rw [upd_ne (Nat.ne_of_lt hlt)]
      exact (hf d hdm).1
  done := by
    intro X hP hw hK hc i pins s σ H E I hf st hg
    subst hP hw hK
    obtain ⟨hz, hTI, ⟨x0, y0, u0, hTO⟩, h1, h2, h3⟩ := st
    obtain ⟨xs, ys, zs, hqx, hqy, hqz, hend⟩ := hg
    obtain ⟨its, rv, p, _⟩ := I.list hqx
    obtain ⟨its2, rv2, p2, _⟩ := I.list hqy
    obtain ⟨its3, rv3, p3, _⟩ := I.list hqz
    have l1 := rv.length
    have l2 := rv2.length
    have l3 := rv3.length
    have hh : X.A.in1.handled = none := I.ok.hd hc
    obtain ⟨m1, P1, St1, D1, a1, b1, s1⟩ := draws_at (prog := X.prog) (w := X.w) hh i1 a n1 its.toArray i
    obtain ⟨m2, P2, St2, D2, a2, b2, s2⟩ := draws_at (prog := X.prog) (w := X.w) hh i2 b n2 its2.toArray i
    obtain ⟨m3, P3, St3, D3, a3, b3, s3⟩ := draws_at (prog := X.prog) (w := X.w) hh i3 c n3 its3.toArray i
    have he : i = m1 ∨ i = m2 ∨ i = m3 := by
      rcases hend with q | q | q
      · exact .inl (b1 (by simp; omega))
      · exact .inr (.inl (b2 (by simp; omega)))
      · exact .inr (.inr (b3 (by simp; omega)))
    exact wpAny_pyNext_zipD3_end S D1 D2 D3 hz hTI hTO (s1 _ h1 p.isList) (s2 _ h2 p2.isList) (s3 _ h3 p3.isList) a1 a2 a3 he fun h' tk hk => ⟨rfl, I.turnedL (t' := tk) (ch := [z, TI, TO, i1, i2, i3]) (fun d o hb q =>
      hk d o (fun q' => hb (by simp [q'])) (fun q' => hb (by simp [q'])) (fun q' => hb (by simp [q'])) (fun q' => hb (by simp [q'])) (fun q' => hb (by simp [q'])) q) hf⟩
  self := fun A i s Q E st h => wpAny_pyIter_zip st.1 h
def iZ3 (K : PySem.W.Frag) (ta : TA) : TI := fun σ H R => ta σ H fun vs H1 => ∃ a b c xs ys zs, vs = [.ref a, .ref b, .ref c] ∧ SqL K H1 a xs ∧ SqL K H1 b ys ∧ SqL K H1 c zs ∧ R (Itz3 K a b c) H1
theorem pi_z3 {X : Cx} {e e2 e3 : Expr} {ta : TA} {p pos tpos kp cp : Pos} {j : Nat} {elts : List Expr} {kk : Nat} (hg : Gl X "zip") (hm : X.mg "zip" = none) (ha : PA X [e, e2, e3] ta)
    (hs : starEach [e, e2, e3] X.env = (false, eval e X.env) :: starEach [e2, e3] X.env := by rfl) (hpl : (backTo pos (starEach [e2, e3] X.env)).any (·.1) = false := by rfl) :
    PI X (.Tuple elts kk tpos) (.Call (.Name "zip" p) [e, e2, e3] [⟨some "strict", .Constant (.bool false) j cp, kp⟩] pos) (iZ3 X.K ta) := by
  refine ⟨fun pins s σ H R I h => ?_⟩
  have he : eval (.Call (.Name "zip" p) [e, e2, e3] [⟨some "strict", .Constant (.bool false) j cp, kp⟩] pos) X.env = (do callWith pos (← eval (.Name "zip" p) X.env) [] (backTo pos (starEach [e, e2, e3] X.env)) (backToKw pos (keywordEach [⟨some "strict", .Constant (.bool false) j cp, kp⟩] X.env))) := by rfl
  rw [he]
  refine wpAny_bind (ld_blt I hg hm PyProof.Rows.boot_zip ?_)
  have hr := ha.run pos pins s σ H _ I h
  rw [hs] at hr ⊢
  refine callWith_tyKw (by show (false || (backTo pos (starEach [e2, e3] X.env)).any (·.1)) = false; rw [hpl]; rfl) rfl (evalArgs_kwB rfl (thn hr fun us s1 ⟨vs, H1, I1, r1, q1⟩ => kws_cons ?_))
  refine wpAny_of_eq (a := Value.bool false) rfl ?_
  refine kws_nil ?_
  obtain ⟨a, b, c, xs, ys, zs, ex, hqx, hqy, hqz, q⟩ := q1
  subst ex
  cases r1 with
  | cons r rr =>
    cases rr with
    | cons r' rr =>
      cases rr with
      | cons r'' rr =>
        cases rr
        cases r
        cases r'
        cases r''
        have fresh6 : ∀ d, d ∈ [s1.heap.objs.size + 5, s1.heap.objs.size + 3, s1.heap.objs.size + 4, s1.heap.objs.size, s1.heap.objs.size + 1, s1.heap.objs.size + 2] → FpOk X pins H1 d := fun d hdm => by
          have e' : d = s1.heap.objs.size + 5 ∨ d = s1.heap.objs.size + 3 ∨ d = s1.heap.objs.size + 4 ∨ d = s1.heap.objs.size ∨ d = s1.heap.objs.size + 1 ∨ d = s1.heap.objs.size + 2 := by simpa using hdm
          have hle : s1.heap.objs.size ≤ d := by
            rcases e' with z | z | z | z | z | z
            · rw [z]; exact Nat.le_add_right _ _
            · rw [z]; exact Nat.le_add_right _ _
            · rw [z]; exact Nat.le_add_right _ _
            · rw [z]; exact Nat.le_refl _
            · rw [z]; exact Nat.le_add_right _ _
            · rw [z]; exact Nat.le_add_right _ _
          exact I1.fpOk hle (I1.hok.fresh hle)
        obtain ⟨its, rv, p1, _⟩ := I1.list hqx
        obtain ⟨its2, rv2, p2, _⟩ := I1.list hqy
        obtain ⟨its3, rv3, p3, _⟩ := I1.list hqz
        have lt1 : a < s1.heap.objs.size := p1.lt
        have lt2 : b < s1.heap.objs.size := p2.lt
        have lt3 : c < s1.heap.objs.size := p3.lt
        refine zf3_begins (begins_list a its.toArray) (begins_list b its2.toArray) (begins_list c its3.toArray) p1.isList p2.isList p3.isList fun h' hz hTI hTO g1 g2 g3 hsz hk => wpAny_pyIter_zip hz ?_
        have I2 : Inv X pins σ H1 { s1 with heap := h' } := I1.kept (t' := s1.toks) hk
        have S := zip_sep3 (N := s1.heap.objs.size) (fp1 := [a]) (fp2 := [b]) (fp3 := [c]) (by simpa using lt1) (by simpa using lt2) (by simpa using lt3)
        exact ⟨s1.heap.objs.size + 5, [s1.heap.objs.size + 5, s1.heap.objs.size + 3, s1.heap.objs.size + 4, s1.heap.objs.size, s1.heap.objs.size + 1, s1.heap.objs.size + 2], _, _, H1, rfl, I2, turn_z3 S (Nat.ne_of_lt lt1) (Nat.ne_of_lt (Nat.lt_of_lt_of_le lt2 (Nat.le_add_right _ _))) (Nat.ne_of_lt (Nat.lt_of_lt_of_le lt3 (Nat.le_add_right _ _))), ⟨hz, hTI, ⟨_, _, _, hTO⟩, ⟨_, g1, rfl, rfl⟩, ⟨_, g2, rfl, rfl⟩, ⟨_, g3, rfl, rfl⟩⟩, fresh6, q⟩
end Zs
namespace Dn
open PySem PySem.Spec PyProof.Rows L2
def zipD3 : List D → List D → List D → List D
  | x :: xs, y :: ys, z :: zs => .tup [x, y, z] :: zipD3 xs ys zs
  | _, _, _ => []
def zipF3 : List D → Option (List D)
  | [.lst xs, .lst ys, .lst zs] => some (zipD3 xs ys zs)
  | _ => none
theorem zipD3_get : ∀ (xs ys zs : List D) (i : Nat) {d : D}, (zipD3 xs ys zs)[i]? = some d → ∃ x y z, xs[i]? = some x ∧ ys[i]? = some y ∧ zs[i]? = some z ∧ d = .tup [x, y, z]
  | x :: xs, y :: ys, z :: zs, 0, d, e => by cases e; exact ⟨x, y, z, rfl, rfl, rfl, rfl⟩
  | x :: xs, y :: ys, z :: zs, i + 1, d, e => zipD3_get xs ys zs i (by simpa [zipD3] using e)
  | [], _, _, i, d, e => by simp [zipD3] at e
  | _ :: _, [], _, i, d, e => by simp [zipD3] at e
  | _ :: _, _ :: _, [], i, d, e => by simp [zipD3] at e
theorem zipD3_len : ∀ (xs ys zs : List D), (zipD3 xs ys zs).length = min xs.length (min ys.length zs.length)
  | x :: xs, y :: ys, z :: zs => by simp only [zipD3, List.length_cons, zipD3_len xs ys zs]; omega
  | [], _, _ => by simp [zipD3]
  | _ :: _, [], _ => by simp [zipD3]
  | _ :: _, _ :: _, [] => by simp [zipD3]
theorem js_z3 {K : PySem.W.Frag} {S : Hp} {a b c : Addr} {xs ys zs : List D} {vs us ws : List V} (h1 : S a = some (.lst vs)) (h2 : S b = some (.lst us)) (h3 : S c = some (.lst ws)) (r1 : RpL K S xs vs) (r2 : RpL K S ys us) (r3 : RpL K S zs ws) : JS K S (Zs.Itz3 K a b c) (zipD3 xs ys zs) := by
  have q1 : ∀ {S' : Hp}, Sb S S' → SqL K S' a vs := fun e => sb_l e (.inl (.inl h1))
  have q2 : ∀ {S' : Hp}, Sb S S' → SqL K S' b us := fun e => sb_l e (.inl (.inl h2))
  have q3 : ∀ {S' : Hp}, Sb S S' → SqL K S' c ws := fun e => sb_l e (.inl (.inl h3))
  refine ⟨fun i d S' H e1 e2 e3 => ?_, fun i S' H e1 e2 e3 => ?_⟩
  · obtain ⟨x, y, z, g1, g2, g3, rfl⟩ := zipD3_get _ _ _ _ e3
    obtain ⟨v, k1, k2⟩ := r1.get g1
    obtain ⟨u, k3, k4⟩ := r2.get g2
    obtain ⟨w, k5, k6⟩ := r3.get g3
    refine ⟨⟨vs, us, ws, v, u, w, q1 (e1.trans e2), q2 (e1.trans e2), q3 (e1.trans e2), k1, k3, k5⟩, fun t H' hy => ?_⟩
    obtain ⟨T, p, q, r, rfl, hT, rfl, hp, hq, hr⟩ := hy
    have := hp vs (q1 (e1.trans e2))
    rw [k1] at this; cases this
    have := hq us (q2 (e1.trans e2))
    rw [k3] at this; cases this
    have := hr ws (q3 (e1.trans e2))
    rw [k5] at this; cases this
    have nw := Nw.new (o := .tup [v, u, w]) e2 hT
    exact ⟨_, nw, rp_tup.mpr ⟨T, _, rfl, SqT.of upd_same, RpL.cons (k2.mono (e1.trans nw.s)) (RpL.cons (k4.mono (e1.trans nw.s)) (RpL.cons (k6.mono (e1.trans nw.s)) RpL.nil))⟩⟩
  · rw [zipD3_len] at e3
    exact ⟨vs, us, ws, q1 (e1.trans e2), q2 (e1.trans e2), q3 (e1.trans e2), by rw [r1.len, r2.len, r3.len]; omega⟩
theorem rpl_three {K : PySem.W.Frag} {S : Hp} {a b c : D} {vs : List V} (r : RpL K S [a, b, c] vs) : ∃ v u w, vs = [v, u, w] ∧ Rp K S a v ∧ Rp K S b u ∧ Rp K S c w := by
  obtain ⟨v, t, rfl, h1, h2⟩ := r.cons_inv
  obtain ⟨u, w, rfl, h3, h4⟩ := rpl_two h2
  exact ⟨v, u, w, rfl, h1, h3, h4⟩
theorem if_z3 {X : Cx} {e e2 e3 : Expr} {m : AM} {p pos tpos kp cp : Pos} {j : Nat} {elts : List Expr} {kk : Nat} (hg : Gl X "zip") (hm : X.mg "zip" = none) (ha : AF X [e, e2, e3] m) (hs : nst e = true := by rfl) (hs2 : nst e2 = true := by rfl) (hs3 : nst e3 = true := by rfl) :
    IF X (.Tuple elts kk tpos) (.Call (.Name "zip" p) [e, e2, e3] [⟨some "strict", .Constant (.bool false) j cp, kp⟩] pos) (mRng zipF3 m) := by
  obtain ⟨t, pa, s⟩ := ha
  have hb : (backTo pos (starEach [e2, e3] X.env)).any (·.1) = false := back_nst (by simp only [nsts, hs2, hs3]; rfl)
  refine ⟨_, Zs.pi_z3 hg hm pa (star_nst hs) hb, fun pp S H σ E pl ds pl' R I e q => ?_⟩
  obtain ⟨x, q1, e1, f1⟩ := seqM_some e
  obtain ⟨e3, rfl⟩ := lftM_some f1
  refine s pp S H σ E pl x _ _ I e1 fun v S1 H1 J a1 r1 => ?_
  unfold zipF3 at e3
  split at e3 <;> try cases e3
  rename_i xs ys zs
  obtain ⟨v1, v2, v3, rfl, w1, w2, w3⟩ := rpl_three r1
  rw [rp_lst] at w1 w2 w3
  obtain ⟨a, vs, rfl, g1, g2⟩ := w1
  obtain ⟨b, us, rfl, g3, g4⟩ := w2
  obtain ⟨c, ws, rfl, g5, g6⟩ := w3
  exact ⟨a, b, c, vs, us, ws, rfl, sb_l J.sub (.inl (.inl g1)), sb_l J.sub (.inl (.inl g3)), sb_l J.sub (.inl (.inl g5)), q _ S1 H1 J a1 (js_z3 g1 g3 g5 g2 g4 g6)⟩
@[simp] theorem x_zipF3 (xs ys zs : List D) : zipF3 [.lst xs, .lst ys, .lst zs] = some (zipD3 xs ys zs) := rfl
end Dn
set_option Elab.async false
set_option linter.all false
set_option maxRecDepth 100000
set_option maxHeartbeats 4000000
namespace Lw
open PySem PySem.Spec PyProof.Rows L2 Dn
def b__law_mixed : SM := sSeq (sAsgF [] (gN 2) (mOp dMod (mCall gInt (aCons (mOp dAdd (mOp dAdd (mOp dMul (mV 0) (mC (.int 48271))) (mOp dMul (mV 1) (mC (.int 69621)))) (mC (.int 11))) (aNil))) (mC (.int 618970019642690137449562111)))) (sSeq (sAsgF [] (gN 3) (mOp dMod (mCall gInt (aCons (mOp dAdd (mOp dAdd (mOp dMul (mV 2) (mV 2)) (mOp dMul (mC (.int 7)) (mV 2))) (mV 1)) (aNil))) (mC (.int 162259276829213363391578010288127)))) (sSeq (sAsgF [] (gN 4) (mOp dMod (mCall gInt (aCons (mOp dAdd (mOp dMul (mV 3) (mV 3)) (mV 2)) (aNil))) (mC (.int 618970019642690137449562111)))) (sRetF [] (mOp dAdd (mOp dMul (mV 3) (mC (.int 618970019642690137449562111))) (mV 4)))))
def m__law_mixed : List D → Option D := runF 5 b__law_mixed
def b__law_rest : SM := sSeq (sAsgF [] (gN 3) (mC (.int 0))) (sSeq (sIf (mTst (mOp dGt (mCall gLen (aCons (mV 0) (aNil))) (mC (.int 0)))) (sAsgF [] (gN 3) (mCall gInt (aCons (mOp dIx (mV 0) (mOp dMod (mCall gInt (aCons (mV 1) (aNil))) (mCall gLen (aCons (mV 0) (aNil))))) (aNil)))) (sNil)) (sSeq (sIf (mTst (mOp dLt (mV 3) (mC (.int 0)))) (sAsgF [] (gN 3) (mOp dSub (mC (.int 1)) (mOp dMul (mC (.int 2)) (mV 3)))) (sNil)) (sSeq (sIf (mAnd (mTst (mOp dEq (mV 2) (mC (.int 0)))) (mAnd (mTst (mOp dLt (mV 1) (mCall gLen (aCons (mV 0) (aNil))))) (mTst (mOp dGe (mV 3) (mOp dPow (mC (.int 10)) (mC (.int 18))))))) (sRetF [] (mOp dSub (mV 3) (mOp dPow (mC (.int 10)) (mC (.int 18))))) (sNil)) (sRetF [] (mCall m__law_mixed (aCons (mOp dAdd (mV 3) (mOp dMul (mV 2) (mC (.int 1000003)))) (aCons (mV 1) (aNil))))))))
def m__law_rest : List D → Option D := runF 4 b__law_rest
def b__law_pool : SM := sRetL [] (mLstL (aCons (mV 0) (aCons (mC (.int 0)) (aCons (mCall m__law_rest (aCons (mV 0) (aCons (mC (.int 0)) (aCons (mC (.int 0)) (aNil))))) (aCons (mC (.int 0)) (aNil))))))
def m__law_pool : List D → Option (List D) := runL 1 b__law_pool
def b__law_next : SM := sSeq (sPset 0 1 (mOp dAdd (mPix 0 1) (mC (.int 1)))) (sSeq (sPset 0 2 (mCall m__law_rest (aCons (mPix 0 0) (aCons (mPix 0 1) (aCons (mC (.int 0)) (aNil)))))) (sPset 0 3 (mC (.int 0))))
def m__law_next : Pl → List D → Option (D × Pl) := runP 1 b__law_next
def b__law_draw : SM := sSeq (sIf (mTst (mOp dLe (mPix 0 2) (mC (.int 1)))) (sSeq (sPset 0 3 (mOp dAdd (mPix 0 3) (mC (.int 1)))) (sPset 0 2 (mCall m__law_rest (aCons (mPix 0 0) (aCons (mPix 0 1) (aCons (mPix 0 3) (aNil))))))) (sNil)) (sSeq (sAsgF [] (gN 2) (mOp dMod (mCall gInt (aCons (mPix 0 2) (aNil))) (mV 1))) (sSeq (sPset 0 2 (mOp dFdiv (mCall gInt (aCons (mPix 0 2) (aNil))) (mV 1))) (sRetF [] (mV 2))))
def m__law_draw : Pl → List D → Option (D × Pl) := runP 3 b__law_draw
theorem log2_lt {a : Int} {n : Nat} (h0 : 0 ≤ a) (h : a < 2 ^ n) (hn : 0 < n) : a.natAbs.log2 < n := by
  have : a.natAbs < 2 ^ n := by
    have := Int.toNat_of_nonneg h0
    have e : ((a.natAbs : Nat) : Int) < ((2 ^ n : Nat) : Int) := by rw [Int.natAbs_of_nonneg h0]; simpa using h
    exact_mod_cast e
  exact PySem.Flt.log2_lt_of hn this
theorem mixed_ok (n p : Int) : ∃ z, m__law_mixed [.int n, .int p] = some (.int z) := by
  have h1 := Int.emod_nonneg (n * 48271 + p * 69621 + 11) (b := 618970019642690137449562111) (by decide)
  have h2 := Int.emod_lt_of_pos (n * 48271 + p * 69621 + 11) (b := 618970019642690137449562111) (by decide)
  generalize hf : (n * 48271 + p * 69621 + 11) % 618970019642690137449562111 = f at h1 h2
  have g1 := Int.emod_nonneg (f * f + 7 * f + p) (b := 162259276829213363391578010288127) (by decide)
  have g2 := Int.emod_lt_of_pos (f * f + 7 * f + p) (b := 162259276829213363391578010288127) (by decide)
  generalize hs : (f * f + 7 * f + p) % 162259276829213363391578010288127 = s at g1 g2
  have lf : f.natAbs.log2 < 490000 := Nat.lt_of_lt_of_le (log2_lt h1 (n := 100) (Int.lt_trans h2 (by decide)) (by decide)) (by decide)
  have ls : s.natAbs.log2 < 490000 := Nat.lt_of_lt_of_le (log2_lt g1 (n := 120) (Int.lt_trans g2 (by decide)) (by decide)) (by decide)
  have lc := x_mulW s 618970019642690137449562111 ls (by decide +kernel)
  refine ⟨s * 618970019642690137449562111 + (s * s + f) % 618970019642690137449562111, ?_⟩
  unfold m__law_mixed b__law_mixed
  simp [x_runF, env0, x_mulS2, x_mod, hf, hs, x_mulW, x_mulS1, lf, ls, lc]
theorem at_in {α : Type} {xs : List α} {i : Int} (h : 0 ≤ i) (g : i < xs.length) : ∃ x, atI xs i = some x := by
  obtain ⟨n, rfl⟩ := Int.eq_ofNat_of_zero_le h
  have hn : n < xs.length := by omega
  exact ⟨xs[n], atI_nat (List.getElem?_eq_getElem hn)⟩
theorem rest_ok (ns : List Int) (place fills : Int) : ∃ z, m__law_rest [.scr ns, .int place, .int fills] = some (.int z) := by
  have pw : dPow (.int 10) (.int 18) = some (.int 1000000000000000000) := by unfold dPow; simp
  have key : ∀ z, ∃ y, outF (sSeq (sIf (mTst (mOp dLt (mV 3) (mC (.int 0)))) (sAsgF [] (gN 3) (mOp dSub (mC (.int 1)) (mOp dMul (mC (.int 2)) (mV 3)))) (sNil)) (sSeq (sIf (mAnd (mTst (mOp dEq (mV 2) (mC (.int 0)))) (mAnd (mTst (mOp dLt (mV 1) (mCall gLen (aCons (mV 0) (aNil))))) (mTst (mOp dGe (mV 3) (mOp dPow (mC (.int 10)) (mC (.int 18))))))) (sRetF [] (mOp dSub (mV 3) (mOp dPow (mC (.int 10)) (mC (.int 18))))) (sNil)) (sRetF [] (mCall m__law_mixed (aCons (mOp dAdd (mV 3) (mOp dMul (mV 2) (mC (.int 1000003)))) (aCons (mV 1) (aNil)))))) [.val (.scr ns), .val (.int place), .val (.int fills), .val (.int z)] none) = some (.int y) := by
    intro z
    have k2 : ∀ z, ∃ y, outF (sSeq (sIf (mAnd (mTst (mOp dEq (mV 2) (mC (.int 0)))) (mAnd (mTst (mOp dLt (mV 1) (mCall gLen (aCons (mV 0) (aNil))))) (mTst (mOp dGe (mV 3) (mOp dPow (mC (.int 10)) (mC (.int 18))))))) (sRetF [] (mOp dSub (mV 3) (mOp dPow (mC (.int 10)) (mC (.int 18))))) (sNil)) (sRetF [] (mCall m__law_mixed (aCons (mOp dAdd (mV 3) (mOp dMul (mV 2) (mC (.int 1000003)))) (aCons (mV 1) (aNil))))) [.val (.scr ns), .val (.int place), .val (.int fills), .val (.int z)] none) = some (.int y) := by
      intro z
      obtain ⟨y, hy⟩ := mixed_ok (z + fills * 1000003) place
      by_cases h1 : fills = 0
      · by_cases h2 : place < ns.length
        · by_cases h3 : 1000000000000000000 ≤ z
          · exact ⟨z - 1000000000000000000, by simp [pw, h1, h2, h3]⟩
          · exact ⟨y, by subst h1; simp at hy; simp [pw, h2, h3, x_mulS2, hy]⟩
        · exact ⟨y, by subst h1; simp at hy; simp [pw, h2, x_mulS2, hy]⟩
      · exact ⟨y, by simp [pw, h1, x_mulS2, hy]⟩
    by_cases h0 : z < 0
    · obtain ⟨y, hy⟩ := k2 (1 - 2 * z)
      refine ⟨y, ?_⟩
      rw [← hy]
      simp [h0, x_mulS1]
    · obtain ⟨y, hy⟩ := k2 z
      refine ⟨y, ?_⟩
      rw [← hy]
      simp [h0]
  unfold m__law_rest b__law_rest
  by_cases hl : 0 < ns.length
  · have p0 : (0 : Int) < ns.length := by omega
    obtain ⟨z, hz⟩ := at_in (xs := ns) (Int.emod_nonneg place (b := ns.length) (by omega)) (Int.emod_lt_of_pos place p0)
    obtain ⟨y, hy⟩ := key z
    refine ⟨y, ?_⟩
    rw [← hy]
    simp [x_runF, env0, hl, x_mod, p0, hz]
  · obtain ⟨y, hy⟩ := key 0
    refine ⟨y, ?_⟩
    rw [← hy]
    simp [x_runF, env0, hl]
theorem pool_ok (ns : List Int) : ∃ z, m__law_pool [.scr ns] = some [.scr ns, .int 0, .int z, .int 0] := by
  obtain ⟨z, hz⟩ := rest_ok ns 0 0
  refine ⟨z, ?_⟩
  unfold m__law_pool b__law_pool
  simp [x_runL, env0, hz, x_sized]
theorem next_ok (P : Pl) : ∃ P', m__law_next P [] = some (.non, P') := by
  obtain ⟨z, hz⟩ := rest_ok P.scr (P.i + 1) 0
  unfold m__law_next b__law_next
  simp [x_runP, env0, hz]
theorem draw_ok (P : Pl) (n : Int) (h : 0 < n) (g : n < 2 ^ 60) : ∃ v P', m__law_draw P [.int n] = some (.int v, P') ∧ 0 ≤ v ∧ v < n := by
  have lg : n.natAbs.log2 < 9000 := Nat.lt_of_lt_of_le (log2_lt (by omega) g (by decide)) (by decide)
  obtain ⟨z, hz⟩ := rest_ok P.scr P.i (P.k + 1)
  unfold m__law_draw b__law_draw
  by_cases h1 : P.n ≤ 1
  · exact ⟨z % n, _, by simp [x_runP, env0, hz, h1, x_mod, x_fdiv, h, lg]; rfl, Int.emod_nonneg _ (by omega), Int.emod_lt_of_pos _ h⟩
  · exact ⟨P.n % n, _, by simp [x_runP, env0, hz, h1, x_mod, x_fdiv, h, lg]; rfl, Int.emod_nonneg _ (by omega), Int.emod_lt_of_pos _ h⟩
noncomputable instance : DecidableEq D := fun a b => Classical.propDecidable (a = b)
theorem for_all {g : TM} {b : SM} {α : Type} (f : α → D) (d : D) (p : α → Bool) (Pv : Dn.Env → Option Pl → Prop) : ∀ (xs : List α) (E : Dn.Env) (pl : Option Pl), Pv E pl →
    (∀ (x : α) (E : Dn.Env) (pl : Option Pl), x ∈ xs → Pv E pl → ∃ E1, g (f x) E = some E1 ∧ (p x = true → ∃ E2 p2, b E1 pl = some (.nx E2 p2) ∧ Pv E2 p2) ∧ (p x = false → ∃ E2, b E1 pl = some (.rt d E2 pl))) →
    (xs.all p = true → ∃ E' pl', forL g b (xs.map f) E pl = some (.nx E' pl') ∧ Pv E' pl') ∧ (xs.all p = false → ∃ E' pl', forL g b (xs.map f) E pl = some (.rt d E' pl'))
  | [], E, pl, h, _ => ⟨(fun _ => ⟨E, pl, rfl, h⟩), (fun z => by cases z)⟩
  | x :: xs, E, pl, h, hs => by
    obtain ⟨E1, e1, h1, h2⟩ := hs x E pl List.mem_cons_self h
    have ih := fun E pl hp => for_all f d p Pv xs E pl hp (fun y E pl hy hp => hs y E pl (List.mem_cons_of_mem _ hy) hp)
    rw [List.map_cons, List.all_cons]
    unfold forL
    rw [e1]
    dsimp only
    cases hx : p x with
    | true =>
      obtain ⟨E2, p2, e2, h3⟩ := h1 hx
      rw [e2]
      simp only [Bool.true_and]
      exact ih E2 p2 h3
    | false =>
      obtain ⟨E2, e2⟩ := h2 hx
      rw [e2]
      exact ⟨(fun z => by cases z), (fun _ => ⟨E2, pl, rfl⟩)⟩
theorem isTy_eq (T : String) (d : D) : isTy T d = isTyS (tyD d) T := rfl
@[simp] theorem y1 : isTyS "NoneType" "int" = false := by decide
@[simp] theorem y2 : isTyS "NoneType" "bool" = false := by decide
@[simp] theorem y3 : isTyS "NoneType" "str" = false := by decide
@[simp] theorem y4 : isTyS "NoneType" "dict" = false := by decide
@[simp] theorem y5 : isTyS "NoneType" "tuple" = false := by decide
@[simp] theorem y6 : isTyS "NoneType" "list" = false := by decide
@[simp] theorem yb1 : isTyS "bool" "int" = true := by decide
@[simp] theorem yb2 : isTyS "bool" "bool" = true := by decide
@[simp] theorem yb3 : isTyS "bool" "str" = false := by decide
@[simp] theorem yb4 : isTyS "bool" "dict" = false := by decide
@[simp] theorem yb5 : isTyS "bool" "tuple" = false := by decide
@[simp] theorem yb6 : isTyS "bool" "list" = false := by decide
@[simp] theorem yi1 : isTyS "int" "int" = true := by decide
@[simp] theorem yi2 : isTyS "int" "bool" = false := by decide
@[simp] theorem yi3 : isTyS "int" "str" = false := by decide
@[simp] theorem yi4 : isTyS "int" "dict" = false := by decide
@[simp] theorem yi5 : isTyS "int" "tuple" = false := by decide
@[simp] theorem yi6 : isTyS "int" "list" = false := by decide
@[simp] theorem ys1 : isTyS "str" "int" = false := by decide
@[simp] theorem ys2 : isTyS "str" "bool" = false := by decide
@[simp] theorem ys3 : isTyS "str" "str" = true := by decide
@[simp] theorem ys4 : isTyS "str" "dict" = false := by decide
@[simp] theorem ys5 : isTyS "str" "tuple" = false := by decide
@[simp] theorem ys6 : isTyS "str" "list" = false := by decide
@[simp] theorem yt1 : isTyS "tuple" "int" = false := by decide
@[simp] theorem yt2 : isTyS "tuple" "bool" = false := by decide
@[simp] theorem yt3 : isTyS "tuple" "str" = false := by decide
@[simp] theorem yt4 : isTyS "tuple" "dict" = false := by decide
@[simp] theorem yt5 : isTyS "tuple" "tuple" = true := by decide
@[simp] theorem yt6 : isTyS "tuple" "list" = false := by decide
@[simp] theorem yl1 : isTyS "list" "int" = false := by decide
@[simp] theorem yl2 : isTyS "list" "bool" = false := by decide
@[simp] theorem yl3 : isTyS "list" "str" = false := by decide
@[simp] theorem yl4 : isTyS "list" "dict" = false := by decide
@[simp] theorem yl5 : isTyS "list" "tuple" = false := by decide
@[simp] theorem yl6 : isTyS "list" "list" = true := by decide
@[simp] theorem yd1 : isTyS "dict" "int" = false := by decide
@[simp] theorem yd2 : isTyS "dict" "bool" = false := by decide
@[simp] theorem yd3 : isTyS "dict" "str" = false := by decide
@[simp] theorem yd4 : isTyS "dict" "dict" = true := by decide
@[simp] theorem yd5 : isTyS "dict" "tuple" = false := by decide
@[simp] theorem yd6 : isTyS "dict" "list" = false := by decide
@[simp] theorem tyN : tyD .non = "NoneType" := rfl
@[simp] theorem tyB (b : Bool) : tyD (.bl b) = "bool" := rfl
@[simp] theorem tyI (b : Int) : tyD (.int b) = "int" := rfl
@[simp] theorem tyS (b : Str) : tyD (.str b) = "str" := rfl
@[simp] theorem tyT (b : List D) : tyD (.tup b) = "tuple" := rfl
@[simp] theorem tyL (b : List D) : tyD (.lst b) = "list" := rfl
@[simp] theorem x_neB (a b : Bool) : dNe (.bl a) (.bl b) = some (.bl (!(a == b))) := by
  unfold dNe; rw [if_pos (by simp [fl_bl])]; simp only [eqd]
@[simp] theorem x_eqB (a b : Bool) : dEq (.bl a) (.bl b) = some (.bl (a == b)) := by
  unfold dEq; rw [if_pos (by simp [fl_bl])]; simp only [eqd]

/-- data that a law may compare -/
def pd : Nat → D → Bool
  | _, .non => true
  | _, .bl _ => true
  | _, .int _ => true
  | _, .str s => s.cps.all (· < 0x110000)
  | n + 1, .tup xs => decide (xs.length < 1000000) && xs.all (pd n)
  | n + 1, .lst xs => decide (xs.length < 1000000) && xs.all (pd n)
  | _, _ => false
theorem eqd_self_str (x : Str) (h : x.cps.all (· < 0x110000) = true) : dEq (.str x) (.str x) = some (.bl true) := by
  unfold dEq; rw [if_pos (by simp [fl_str, h])]; simp [eqd]
@[simp] theorem x_isBS' (b : Bool) (i : Str) : isB b (.str i) = false := rfl
/-- a loop over a range whose turns change nothing -/
theorem rng_stay {b : SM} {E : Dn.Env} {pl : Option Pl} {g : TM} (E1 : Nat → Dn.Env) : ∀ (n lo : Nat) (E0 : Dn.Env), (∀ k, lo ≤ k → k < lo + n → ∀ E0 : Dn.Env, (E0 = E ∨ ∃ j, E0 = E1 j) → g (.int (k : Nat)) E0 = some (E1 k) ∧ b (E1 k) pl = some (.nx (E1 k) pl)) → (E0 = E ∨ ∃ j, E0 = E1 j) → ∃ E', forL g b (rangeD lo n) E0 pl = some (.nx E' pl) ∧ (E' = E ∨ ∃ j, E' = E1 j)
  | 0, lo, E0, h, h0 => ⟨E0, rfl, h0⟩
  | n + 1, lo, E0, h, h0 => by
    obtain ⟨e1, e2⟩ := h lo (Nat.le_refl _) (by omega) E0 h0
    obtain ⟨E', e3, e4⟩ := rng_stay E1 n (lo + 1) (E1 lo) (fun k k1 k2 => h k (by omega) (by omega)) (.inr ⟨lo, rfl⟩)
    refine ⟨E', ?_, e4⟩
    have hr : rangeD (lo : Nat) (n + 1) = D.int (lo : Nat) :: rangeD ((lo + 1 : Nat) : Int) n := by
      unfold rangeD
      rw [List.range_succ_eq_map, List.map_cons, List.map_map]
      congr 1
      simp; intro a _; omega
    rw [hr, x_forC, e1]
    simp only [Option.bind_some, e2, x_afN, e3]
end Lw
set_option Elab.async false
set_option linter.all false
set_option maxRecDepth 100000
set_option maxHeartbeats 4000000
namespace Lw
open PySem PySem.Spec PyProof.Rows L2 Dn
def b__law_same (m_rec : List D → Option D) : SM := sSeq (sIf (mOr (mTst (mOp dIs (mV 1) (mC .non))) (mOr (mTst (mOp dIs (mV 1) (mC (.bl true)))) (mTst (mOp dIs (mV 1) (mC (.bl false)))))) (sRetF [] (mOrV (mAndV (mOp dIs (mV 1) (mC .non)) (mOp dIs (mV 0) (mC .non))) (mOrV (mAndV (mOp dIs (mV 1) (mC (.bl true))) (mOp dIs (mV 0) (mC (.bl true)))) (mAndV (mOp dIs (mV 1) (mC (.bl false))) (mOp dIs (mV 0) (mC (.bl false))))))) (sNil)) (sSeq (sIf (mTru (mIsi "int" (mV 1))) (sRetF [] (mAndV (mIsi "int" (mV 0)) (mAndV (mNotV (mIsi "bool" (mV 0))) (mOp dEq (mV 0) (mV 1))))) (sNil)) (sSeq (sIf (mTru (mIsi "str" (mV 1))) (sRetF [] (mAndV (mIsi "str" (mV 0)) (mOp dEq (mV 0) (mV 1)))) (sNil)) (sSeq (sIf (mTru (mIsi "dict" (mV 1))) (sSeq (sIf (mOr (mNot (mTru (mIsi "dict" (mV 0)))) (mTst (mOp dNe (mCall gLen (aCons (mV 0) (aNil))) (mCall gLen (aCons (mV 1) (aNil)))))) (sRetF [] (mC (.bl false))) (sNil)) (sSeq (sFor [] (gN 3) (mIt itD (mV 1)) (sIf (mOr (mTst (mOp dNotIn (mV 3) (mV 0))) (mNot (mTru (mCall m_rec (aCons (mOp dIx (mV 0) (mV 3)) (aCons (mOp dIx (mV 1) (mV 3)) (aNil))))))) (sRetF [] (mC (.bl false))) (sNil))) (sRetF [] (mC (.bl true))))) (sNil)) (sSeq (sIf (mAnd (mTru (mIsi "tuple" (mV 1))) (mNot (mTru (mIsi "tuple" (mV 0))))) (sRetF [] (mC (.bl false))) (sNil)) (sSeq (sIf (mAnd (mTru (mIsi "list" (mV 1))) (mNot (mTru (mIsi "list" (mV 0))))) (sRetF [] (mC (.bl false))) (sNil)) (sSeq (sIf (mTst (mOp dNe (mCall gLen (aCons (mV 0) (aNil))) (mCall gLen (aCons (mV 1) (aNil))))) (sRetF [] (mC (.bl false))) (sNil)) (sSeq (sFor [] (gN 2) (mRng rng1 (aCons (mCall gLen (aCons (mV 1) (aNil))) (aNil))) (sIf (mNot (mTru (mCall m_rec (aCons (mOp dIx (mV 0) (mV 2)) (aCons (mOp dIx (mV 1) (mV 2)) (aNil)))))) (sRetF [] (mC (.bl false))) (sNil))) (sRetF [] (mC (.bl true))))))))))
def m__law_same : Nat → List D → Option D
  | 0 => fun _ => none
  | n + 1 => runF 4 (b__law_same (m__law_same n))
theorem same_non (n : Nat) : m__law_same (n + 1) [.non, .non] = some (.bl true) := by
  simp [m__law_same, b__law_same, x_runF, env0]
theorem same_bl (n : Nat) (b : Bool) : m__law_same (n + 1) [.bl b, .bl b] = some (.bl true) := by
  cases b <;> simp [m__law_same, b__law_same, x_runF, env0]
theorem same_int (n : Nat) (i : Int) : m__law_same (n + 1) [.int i, .int i] = some (.bl true) := by
  simp [m__law_same, b__law_same, x_runF, env0, isTy_eq, tyD]
theorem same_seq (n : Nat) (xs : List D) (hl : xs.length < 2 ^ 59) (h : ∀ d ∈ xs, m__law_same n [d, d] = some (.bl true)) : m__law_same (n + 1) [.tup xs, .tup xs] = some (.bl true) ∧ m__law_same (n + 1) [.lst xs, .lst xs] = some (.bl true) := by
  have key : ∀ d : D, (d = .tup xs ∨ d = .lst xs) → ∃ E', forL (gN 2) (sIf (mNot (mTru (mCall (m__law_same n) (aCons (mOp dIx (mV 0) (mV 2)) (aCons (mOp dIx (mV 1) (mV 2)) (aNil)))))) (sRetF [] (mC (.bl false))) (sNil)) (rangeD 0 xs.length) [.val d, .val d, .un, .un] none = some (.nx E' none) := by
    intro d hd
    obtain ⟨E', e, _⟩ := rng_stay (b := (sIf (mNot (mTru (mCall (m__law_same n) (aCons (mOp dIx (mV 0) (mV 2)) (aCons (mOp dIx (mV 1) (mV 2)) (aNil)))))) (sRetF [] (mC (.bl false))) (sNil))) (E := [.val d, .val d, .un, .un]) (pl := none) (g := gN 2) (fun k => [.val d, .val d, .val (.int (k : Nat)), .un]) xs.length 0 _ (fun k _ k2 E0 h0 => by
      have hx : atI xs (k : Int) = some xs[k] := atI_nat (List.getElem?_eq_getElem (by omega))
      have hd' := h xs[k] (List.getElem_mem _)
      refine ⟨?_, ?_⟩
      · rcases h0 with rfl | ⟨j, rfl⟩ <;> simp
      · rcases hd with rfl | rfl <;> simp [hx, hd']) (.inl rfl)
    exact ⟨E', e⟩
  obtain ⟨E1, e1⟩ := key _ (.inl rfl)
  obtain ⟨E2, e2⟩ := key _ (.inr rfl)
  have hr := x_rng1 xs.length (by omega) (by omega)
  constructor <;> simp [m__law_same, b__law_same, x_runF, env0, isTy_eq, hr, e1, e2]
theorem same_refl : ∀ (n : Nat) (d : D), pd n d = true → m__law_same (n + 1) [d, d] = some (.bl true) := by
  intro n
  induction n with
  | zero =>
    intro d h
    cases d with
    | non => simp [same_non]
    | bl b => simp [same_bl]
    | int i => simp [same_int]
    | str s => simp [m__law_same, b__law_same, x_runF, env0, isTy_eq, eqd_self_str s (by simpa only [pd] using h)]
    | _ => simp [pd] at h
  | succ n ih =>
    intro d h
    cases d with
    | non => simp [same_non]
    | bl b => simp [same_bl]
    | int i => simp [same_int]
    | str s => simp [m__law_same, b__law_same, x_runF, env0, isTy_eq, eqd_self_str s (by simpa only [pd] using h)]
    | tup xs =>
      simp only [pd, Bool.and_eq_true, decide_eq_true_eq, List.all_eq_true] at h
      exact (same_seq (n + 1) xs (by have := h.1; omega) fun d hd => ih d (h.2 d hd)).1
    | lst xs =>
      simp only [pd, Bool.and_eq_true, decide_eq_true_eq, List.all_eq_true] at h
      exact (same_seq (n + 1) xs (by have := h.1; omega) fun d hd => ih d (h.2 d hd)).2
    | _ => simp [pd] at h
end Lw
set_option Elab.async false
set_option linter.all false
set_option maxRecDepth 100000
set_option maxHeartbeats 4000000
namespace Lw
open PySem PySem.Spec PyProof.Rows L2 Dn
def b_frac : SM := sSeq (sIf (mTst (mOp dLt (mV 1) (mC (.int 0)))) (sPar [] 0 1 (aCons (mUn dNeg (mV 0)) (aCons (mUn dNeg (mV 1)) (aNil)))) (sNil)) (sSeq (sAsgF [] (gN 2) (mCall gGcd (aCons (mV 0) (aCons (mV 1) (aNil))))) (sRetF [] (mTup (aCons (mOp dFdiv (mV 0) (mV 2)) (aCons (mOp dFdiv (mV 1) (mV 2)) (aNil))))))
def m_frac : List D → Option D := runF 3 b_frac
def b_plus : SM := sRetF [] (mCall m_frac (aCons (mOp dAdd (mOp dMul (mOp dIx (mV 0) (mC (.int 0))) (mOp dIx (mV 1) (mC (.int 1)))) (mOp dMul (mOp dIx (mV 1) (mC (.int 0))) (mOp dIx (mV 0) (mC (.int 1))))) (aCons (mOp dMul (mOp dIx (mV 0) (mC (.int 1))) (mOp dIx (mV 1) (mC (.int 1)))) (aNil))))
def m_plus : List D → Option D := runF 2 b_plus
def b_minus : SM := sRetF [] (mCall m_frac (aCons (mOp dSub (mOp dMul (mOp dIx (mV 0) (mC (.int 0))) (mOp dIx (mV 1) (mC (.int 1)))) (mOp dMul (mOp dIx (mV 1) (mC (.int 0))) (mOp dIx (mV 0) (mC (.int 1))))) (aCons (mOp dMul (mOp dIx (mV 0) (mC (.int 1))) (mOp dIx (mV 1) (mC (.int 1)))) (aNil))))
def m_minus : List D → Option D := runF 2 b_minus
def b_times : SM := sRetF [] (mCall m_frac (aCons (mOp dMul (mOp dIx (mV 0) (mC (.int 0))) (mOp dIx (mV 1) (mC (.int 0)))) (aCons (mOp dMul (mOp dIx (mV 0) (mC (.int 1))) (mOp dIx (mV 1) (mC (.int 1)))) (aNil))))
def m_times : List D → Option D := runF 2 b_times
def b_over : SM := sRetF [] (mCall m_frac (aCons (mOp dMul (mOp dIx (mV 0) (mC (.int 0))) (mOp dIx (mV 1) (mC (.int 1)))) (aCons (mOp dMul (mOp dIx (mV 0) (mC (.int 1))) (mOp dIx (mV 1) (mC (.int 0)))) (aNil))))
def m_over : List D → Option D := runF 2 b_over
def b_less : SM := sRetF [] (mOp dLt (mOp dMul (mOp dIx (mV 0) (mC (.int 0))) (mOp dIx (mV 1) (mC (.int 1)))) (mOp dMul (mOp dIx (mV 1) (mC (.int 0))) (mOp dIx (mV 0) (mC (.int 1)))))
def m_less : List D → Option D := runF 2 b_less
def b__law_gcd : SM := sSeq (sFor [] (gN 2) (mRng rng1 (aCons (mC (.int 400000)) (aNil))) (sSeq (sIf (mTst (mOp dEq (mV 1) (mC (.int 0)))) (sBrk) (sNil)) (sPar [] 0 1 (aCons (mV 1) (aCons (mOp dMod (mCall gInt (aCons (mV 0) (aNil))) (mV 1)) (aNil)))))) (sRetF [] (mV 0))
def m__law_gcd : List D → Option D := runF 3 b__law_gcd
def b__law_ratio : SM := sSeq (sIf (mTst (mOp dLt (mV 1) (mC (.int 0)))) (sPar [] 0 1 (aCons (mUn dNeg (mV 0)) (aCons (mUn dNeg (mV 1)) (aNil)))) (sNil)) (sSeq (sAsgF [] (gN 2) (mCall m__law_gcd (aCons (mCall gAbs (aCons (mV 0) (aNil))) (aCons (mV 1) (aNil))))) (sRetF [] (mTup (aCons (mOp dFdiv (mV 0) (mV 2)) (aCons (mOp dFdiv (mV 1) (mV 2)) (aNil))))))
def m__law_ratio : List D → Option D := runF 3 b__law_ratio
def b__law_add : SM := sRetF [] (mCall m__law_ratio (aCons (mOp dAdd (mOp dMul (mOp dIx (mV 0) (mC (.int 0))) (mOp dIx (mV 1) (mC (.int 1)))) (mOp dMul (mOp dIx (mV 1) (mC (.int 0))) (mOp dIx (mV 0) (mC (.int 1))))) (aCons (mOp dMul (mOp dIx (mV 0) (mC (.int 1))) (mOp dIx (mV 1) (mC (.int 1)))) (aNil))))
def m__law_add : List D → Option D := runF 2 b__law_add
def b__law_sub : SM := sRetF [] (mCall m__law_ratio (aCons (mOp dSub (mOp dMul (mOp dIx (mV 0) (mC (.int 0))) (mOp dIx (mV 1) (mC (.int 1)))) (mOp dMul (mOp dIx (mV 1) (mC (.int 0))) (mOp dIx (mV 0) (mC (.int 1))))) (aCons (mOp dMul (mOp dIx (mV 0) (mC (.int 1))) (mOp dIx (mV 1) (mC (.int 1)))) (aNil))))
def m__law_sub : List D → Option D := runF 2 b__law_sub
def b__law_mul : SM := sRetF [] (mCall m__law_ratio (aCons (mOp dMul (mOp dIx (mV 0) (mC (.int 0))) (mOp dIx (mV 1) (mC (.int 0)))) (aCons (mOp dMul (mOp dIx (mV 0) (mC (.int 1))) (mOp dIx (mV 1) (mC (.int 1)))) (aNil))))
def m__law_mul : List D → Option D := runF 2 b__law_mul
def b__law_div : SM := sRetF [] (mCall m__law_ratio (aCons (mOp dMul (mOp dIx (mV 0) (mC (.int 0))) (mOp dIx (mV 1) (mC (.int 1)))) (aCons (mOp dMul (mOp dIx (mV 0) (mC (.int 1))) (mOp dIx (mV 1) (mC (.int 0)))) (aNil))))
def m__law_div : List D → Option D := runF 2 b__law_div
def b__law_less : SM := sRetF [] (mOp dLt (mOp dMul (mOp dIx (mV 0) (mC (.int 0))) (mOp dIx (mV 1) (mC (.int 1)))) (mOp dMul (mOp dIx (mV 1) (mC (.int 0))) (mOp dIx (mV 0) (mC (.int 1)))))
def m__law_less : List D → Option D := runF 2 b__law_less
def b__law_frac : SM := sSeq (sAsgF [] (gN 2) (mCall gAbs (aCons (mV 0) (aNil)))) (sSeq (sAsgF [] (gN 3) (mCall gAbs (aCons (mV 1) (aNil)))) (sSeq (sFor [] (gN 4) (mRng rng1 (aCons (mC (.int 400000)) (aNil))) (sSeq (sIf (mTst (mOp dEq (mV 3) (mC (.int 0)))) (sBrk) (sNil)) (sPar [] 2 3 (aCons (mV 3) (aCons (mOp dMod (mCall gInt (aCons (mV 2) (aNil))) (mV 3)) (aNil)))))) (sSeq (sAsgF [] (gN 5) (mIte (mTst (mOp dLt (mV 1) (mC (.int 0)))) (mUn dNeg (mC (.int 1))) (mC (.int 1)))) (sRetF [] (mTup (aCons (mOp dFdiv (mOp dMul (mV 5) (mV 0)) (mV 2)) (aCons (mOp dFdiv (mOp dMul (mV 5) (mV 1)) (mV 2)) (aNil))))))))
def m__law_frac : List D → Option D := runF 6 b__law_frac
def b__law_plus : SM := sRetF [] (mCall m__law_frac (aCons (mOp dAdd (mOp dMul (mOp dIx (mV 0) (mC (.int 0))) (mOp dIx (mV 1) (mC (.int 1)))) (mOp dMul (mOp dIx (mV 1) (mC (.int 0))) (mOp dIx (mV 0) (mC (.int 1))))) (aCons (mOp dMul (mOp dIx (mV 0) (mC (.int 1))) (mOp dIx (mV 1) (mC (.int 1)))) (aNil))))
def m__law_plus : List D → Option D := runF 2 b__law_plus
def b__law_minus : SM := sRetF [] (mCall m__law_frac (aCons (mOp dSub (mOp dMul (mOp dIx (mV 0) (mC (.int 0))) (mOp dIx (mV 1) (mC (.int 1)))) (mOp dMul (mOp dIx (mV 1) (mC (.int 0))) (mOp dIx (mV 0) (mC (.int 1))))) (aCons (mOp dMul (mOp dIx (mV 0) (mC (.int 1))) (mOp dIx (mV 1) (mC (.int 1)))) (aNil))))
def m__law_minus : List D → Option D := runF 2 b__law_minus
def b__law_times : SM := sRetF [] (mCall m__law_frac (aCons (mOp dMul (mOp dIx (mV 0) (mC (.int 0))) (mOp dIx (mV 1) (mC (.int 0)))) (aCons (mOp dMul (mOp dIx (mV 0) (mC (.int 1))) (mOp dIx (mV 1) (mC (.int 1)))) (aNil))))
def m__law_times : List D → Option D := runF 2 b__law_times
def b__law_over : SM := sRetF [] (mCall m__law_frac (aCons (mOp dMul (mOp dIx (mV 0) (mC (.int 0))) (mOp dIx (mV 1) (mC (.int 1)))) (aCons (mOp dMul (mOp dIx (mV 0) (mC (.int 1))) (mOp dIx (mV 1) (mC (.int 0)))) (aNil))))
def m__law_over : List D → Option D := runF 2 b__law_over
def b__law_under : SM := sRetF [] (mOp dLt (mOp dMul (mOp dIx (mV 0) (mC (.int 0))) (mOp dIx (mV 1) (mC (.int 1)))) (mOp dMul (mOp dIx (mV 1) (mC (.int 0))) (mOp dIx (mV 0) (mC (.int 1)))))
def m__law_under : List D → Option D := runF 2 b__law_under

/-! ### exact numbers -/
def rD (r : Rat) : D := .tup [.int r.num, .int r.den]
/-- less than 2^n above and below -/
def Sm (n : Nat) (r : Rat) : Prop := r.num.natAbs < 2 ^ n ∧ r.den < 2 ^ n
theorem Sm.mono {m n : Nat} {r : Rat} (h : Sm m r) (hn : m ≤ n) : Sm n r :=
  ⟨Nat.lt_of_lt_of_le h.1 (Nat.pow_le_pow_right (by decide) hn), Nat.lt_of_lt_of_le h.2 (Nat.pow_le_pow_right (by decide) hn)⟩
theorem natAbs_div_le (a : Int) (b : Nat) : (a / (b : Int)).natAbs ≤ a.natAbs := by
  exact Int.natAbs_ediv_le_natAbs a b
theorem sign_natAbs (a b : Int) : (a.sign * b).natAbs ≤ b.natAbs := by
  rw [Int.natAbs_mul, Int.natAbs_sign]
  split <;> simp
theorem sm_div {n : Nat} {p q : Int} (hp : p.natAbs < 2 ^ n) (hq : q.natAbs < 2 ^ n) (h0 : q ≠ 0) : Sm n ((p : Rat) / (q : Rat)) := by
  rw [← Rat.divInt_eq_div]
  constructor
  · rw [Rat.num_divInt]
    exact Nat.lt_of_le_of_lt (Nat.le_trans (natAbs_div_le _ _) (sign_natAbs _ _)) hp
  · rw [Rat.den_divInt, if_neg h0]
    exact Nat.lt_of_le_of_lt (Nat.div_le_self _ _) hq
theorem rat_eq (a : Rat) : a = (a.num : Rat) / ((a.den : Int) : Rat) := by
  rw [← Rat.divInt_eq_div]; exact (Rat.num_divInt_den a).symm
theorem den_ne (a : Rat) : ((a.den : Int) : Rat) ≠ 0 := by
  have := a.den_nz
  intro h
  have h2 : (a.den : Int) = 0 := by exact_mod_cast h
  omega
theorem den_ne' (a : Rat) : (a.den : Int) ≠ 0 := by have := a.den_nz; omega
theorem num_ne {a : Rat} (h : a ≠ 0) : a.num ≠ 0 := fun e => h (Rat.num_eq_zero.mp e)
theorem num_neR {a : Rat} (h : a ≠ 0) : (a.num : Rat) ≠ 0 := by
  intro e
  have e2 : a.num = 0 := by exact_mod_cast e
  exact num_ne h e2
theorem c_add (p q r s : Rat) (hq : q ≠ 0) (hs : s ≠ 0) : (p * s + r * q) / (q * s) = p / q + r / s := by grind
theorem c_sub (p q r s : Rat) (hq : q ≠ 0) (hs : s ≠ 0) : (p * s - r * q) / (q * s) = p / q - r / s := by grind
theorem c_mul (p q r s : Rat) (hq : q ≠ 0) (hs : s ≠ 0) : (p * r) / (q * s) = p / q * (r / s) := by grind
theorem c_div (p q r s : Rat) (hq : q ≠ 0) (hs : s ≠ 0) (hr : r ≠ 0) : (p * s) / (q * r) = p / q / (r / s) := by grind
theorem add_eq (a b : Rat) : ((a.num * b.den + b.num * a.den : Int) : Rat) / ((a.den * b.den : Int) : Rat) = a + b := by
  rw [Rat.intCast_add, Rat.intCast_mul, Rat.intCast_mul, Rat.intCast_mul, c_add _ _ _ _ (den_ne a) (den_ne b), ← rat_eq a, ← rat_eq b]
theorem sub_eq (a b : Rat) : ((a.num * b.den - b.num * a.den : Int) : Rat) / ((a.den * b.den : Int) : Rat) = a - b := by
  rw [Rat.intCast_sub, Rat.intCast_mul, Rat.intCast_mul, Rat.intCast_mul, c_sub _ _ _ _ (den_ne a) (den_ne b), ← rat_eq a, ← rat_eq b]
theorem mul_eq (a b : Rat) : ((a.num * b.num : Int) : Rat) / ((a.den * b.den : Int) : Rat) = a * b := by
  rw [Rat.intCast_mul, Rat.intCast_mul, c_mul _ _ _ _ (den_ne a) (den_ne b), ← rat_eq a, ← rat_eq b]
theorem div_eq (a b : Rat) (hb : b ≠ 0) : ((a.num * b.den : Int) : Rat) / ((a.den * b.num : Int) : Rat) = a / b := by
  rw [Rat.intCast_mul, Rat.intCast_mul, c_div _ _ _ _ (den_ne a) (den_ne b) (num_neR hb), ← rat_eq a, ← rat_eq b]
theorem pow_mul_lt {a b m n : Nat} (h : a < 2 ^ m) (g : b < 2 ^ n) : a * b < 2 ^ (m + n) := by
  rw [Nat.pow_add]
  exact Nat.mul_lt_mul'' h g
theorem Sm.add {m n : Nat} {a b : Rat} (h : Sm m a) (g : Sm n b) : Sm (m + n + 1) (a + b) := by
  rw [← add_eq]
  refine sm_div ?_ ?_ (Int.mul_ne_zero (den_ne' a) (den_ne' b))
  · have h1 := pow_mul_lt h.1 g.2
    have h2 := pow_mul_lt h.2 g.1
    have := Int.natAbs_add_le (a.num * b.den) (b.num * a.den)
    rw [Int.natAbs_mul, Int.natAbs_mul, Int.natAbs_natCast, Int.natAbs_natCast, Nat.mul_comm b.num.natAbs] at this
    rw [Nat.pow_succ]; omega
  · rw [Int.natAbs_mul, Int.natAbs_natCast, Int.natAbs_natCast]
    have := pow_mul_lt h.2 g.2
    rw [Nat.pow_succ]; omega
theorem Sm.sub {m n : Nat} {a b : Rat} (h : Sm m a) (g : Sm n b) : Sm (m + n + 1) (a - b) := by
  rw [← sub_eq]
  refine sm_div ?_ ?_ (Int.mul_ne_zero (den_ne' a) (den_ne' b))
  · have h1 := pow_mul_lt h.1 g.2
    have h2 := pow_mul_lt h.2 g.1
    have := Int.natAbs_sub_le (a.num * b.den) (b.num * a.den)
    rw [Int.natAbs_mul, Int.natAbs_mul, Int.natAbs_natCast, Int.natAbs_natCast, Nat.mul_comm b.num.natAbs] at this
    rw [Nat.pow_succ]; omega
  · rw [Int.natAbs_mul, Int.natAbs_natCast, Int.natAbs_natCast]
    have := pow_mul_lt h.2 g.2
    rw [Nat.pow_succ]; omega
theorem Sm.mul {m n : Nat} {a b : Rat} (h : Sm m a) (g : Sm n b) : Sm (m + n) (a * b) := by
  rw [← mul_eq]
  refine sm_div ?_ ?_ (Int.mul_ne_zero (den_ne' a) (den_ne' b))
  · rw [Int.natAbs_mul]; exact pow_mul_lt h.1 g.1
  · rw [Int.natAbs_mul, Int.natAbs_natCast, Int.natAbs_natCast]; exact pow_mul_lt h.2 g.2
theorem Sm.div {m n : Nat} {a b : Rat} (h : Sm m a) (g : Sm n b) (hb : b ≠ 0) : Sm (m + n) (a / b) := by
  rw [← div_eq a b hb]
  refine sm_div ?_ ?_ (Int.mul_ne_zero (den_ne' a) (num_ne hb))
  · rw [Int.natAbs_mul, Int.natAbs_natCast]; exact pow_mul_lt h.1 g.2
  · rw [Int.natAbs_mul, Int.natAbs_natCast]; exact pow_mul_lt h.2 g.1
theorem Sm.neg {m : Nat} {a : Rat} (h : Sm m a) : Sm m (-a) := ⟨by rw [Rat.neg_num, Int.natAbs_neg]; exact h.1, h.2⟩
theorem Sm.int {m : Nat} {z : Int} (h : z.natAbs < 2 ^ m) (hm : 0 < m) : Sm m (z : Rat) := ⟨h, by
  show 1 < 2 ^ m
  exact Nat.one_lt_two_pow (by omega)⟩
theorem lg {a n : Nat} (h : a < 2 ^ n) : a.log2 ≤ n := by
  by_cases h0 : a = 0
  · subst h0; simp
  · exact Nat.le_of_lt ((Nat.log2_lt h0).mpr h)
/-! frac -/
theorem frac_core {p q : Int} (hq : q ≠ 0) : (rD ((p : Rat) / (q : Rat))) = .tup [.int ((if q < 0 then -p else p) / (Nat.gcd p.natAbs q.natAbs : Nat)), .int ((if q < 0 then -q else q) / (Nat.gcd p.natAbs q.natAbs : Nat))] := by
  unfold rD
  rw [← Rat.divInt_eq_div, Rat.num_divInt, Rat.den_divInt, if_neg hq]
  have e : Int.gcd q p = Nat.gcd p.natAbs q.natAbs := by unfold Int.gcd; exact Nat.gcd_comm _ _
  rw [e]
  by_cases h : q < 0
  · rw [if_pos h, if_pos h, Int.sign_eq_neg_one_of_neg h, show -1 * p = -p by omega]
    have : ((q.natAbs / Nat.gcd p.natAbs q.natAbs : Nat) : Int) = -q / (Nat.gcd p.natAbs q.natAbs : Nat) := by
      rw [Int.natCast_ediv]; congr 1; omega
    rw [this]
  · rw [if_neg h, if_neg h, Int.sign_eq_one_of_pos (by omega), show 1 * p = p by omega]
    have : ((q.natAbs / Nat.gcd p.natAbs q.natAbs : Nat) : Int) = q / (Nat.gcd p.natAbs q.natAbs : Nat) := by
      rw [Int.natCast_ediv]; congr 1; omega
    rw [this]
theorem frac_ok {p q : Int} (hq : q ≠ 0) (h : q.natAbs < 2 ^ 8900) : m_frac [.int p, .int q] = some (rD ((p : Rat) / (q : Rat))) := by
  have hg : 0 < Nat.gcd p.natAbs q.natAbs := Nat.gcd_pos_of_pos_right _ (by omega)
  have hle : Nat.gcd p.natAbs q.natAbs ≤ q.natAbs := Nat.gcd_le_right _ (by omega)
  have hl : (Nat.gcd p.natAbs q.natAbs).log2 < 9000 := Nat.lt_of_le_of_lt (lg (Nat.lt_of_le_of_lt hle h)) (by decide)
  have hd := fun a : Int => x_fdiv a (Nat.gcd p.natAbs q.natAbs : Nat) (by omega) (by rw [Int.natAbs_natCast]; exact hl)
  rw [frac_core hq]
  unfold m_frac b_frac
  by_cases h0 : q < 0
  · simp [x_runF, env0, h0, hd]
  · simp [x_runF, env0, h0, hd]
theorem s63 {a : Nat} (h : a < 2 ^ 4000) : a.log2 < 490000 := Nat.lt_of_le_of_lt (lg h) (by decide)
theorem rmul (a b : Int) (h : a.natAbs < 2 ^ 4000) (g : b.natAbs < 2 ^ 4000) : dMul (.int a) (.int b) = some (.int (a * b)) := x_mulW a b (s63 h) (s63 g)
theorem p8 {a b : Nat} (h : a < 2 ^ 4000) (g : b < 2 ^ 4000) : a * b < 2 ^ 8900 := Nat.lt_of_lt_of_le (pow_mul_lt h g) (Nat.pow_le_pow_right (by decide) (by decide))
abbrev Ok (r : Rat) : Prop := Sm 4000 r
theorem plus_ok {a b : Rat} (h : Ok a) (g : Ok b) : m_plus [rD a, rD b] = some (rD (a + b)) := by
  have e := frac_ok (p := a.num * b.den + b.num * a.den) (q := a.den * b.den) (Int.mul_ne_zero (den_ne' a) (den_ne' b)) (by rw [Int.natAbs_mul]; exact p8 h.2 g.2)
  rw [add_eq] at e
  have m1 := rmul a.num b.den h.1 g.2
  have m2 := rmul b.num a.den g.1 h.2
  have m3 := rmul a.den b.den h.2 g.2
  unfold m_plus b_plus
  rw [rD, rD]
  simp [x_runF, env0, m1, m2, m3, e]
theorem minus_ok {a b : Rat} (h : Ok a) (g : Ok b) : m_minus [rD a, rD b] = some (rD (a - b)) := by
  have e := frac_ok (p := a.num * b.den - b.num * a.den) (q := a.den * b.den) (Int.mul_ne_zero (den_ne' a) (den_ne' b)) (by rw [Int.natAbs_mul]; exact p8 h.2 g.2)
  rw [sub_eq] at e
  have m1 := rmul a.num b.den h.1 g.2
  have m2 := rmul b.num a.den g.1 h.2
  have m3 := rmul a.den b.den h.2 g.2
  unfold m_minus b_minus
  rw [rD, rD]
  simp [x_runF, env0, m1, m2, m3, e]
theorem times_ok {a b : Rat} (h : Ok a) (g : Ok b) : m_times [rD a, rD b] = some (rD (a * b)) := by
  have e := frac_ok (p := a.num * b.num) (q := a.den * b.den) (Int.mul_ne_zero (den_ne' a) (den_ne' b)) (by rw [Int.natAbs_mul]; exact p8 h.2 g.2)
  rw [mul_eq] at e
  have m1 := rmul a.num b.num h.1 g.1
  have m3 := rmul a.den b.den h.2 g.2
  unfold m_times b_times
  rw [rD, rD]
  simp [x_runF, env0, m1, m3, e]
theorem over_ok {a b : Rat} (h : Ok a) (g : Ok b) (hb : b ≠ 0) : m_over [rD a, rD b] = some (rD (a / b)) := by
  have e := frac_ok (p := a.num * b.den) (q := a.den * b.num) (Int.mul_ne_zero (den_ne' a) (num_ne hb)) (by rw [Int.natAbs_mul]; exact p8 h.2 g.1)
  rw [div_eq a b hb] at e
  have m1 := rmul a.num b.den h.1 g.2
  have m3 := rmul a.den b.num h.2 g.1
  unfold m_over b_over
  rw [rD, rD]
  simp [x_runF, env0, m1, m3, e]
theorem lt_dec (a b : Rat) : decide (a.num * b.den < b.num * a.den) = decide (a < b) := by
  simp only [Rat.lt_iff]
theorem less_ok {a b : Rat} (h : Ok a) (g : Ok b) : m_less [rD a, rD b] = some (.bl (decide (a < b))) := by
  have m1 := rmul a.num b.den h.1 g.2
  have m2 := rmul b.num a.den g.1 h.2
  rw [← lt_dec]
  unfold m_less b_less
  rw [rD, rD]
  simp [x_runF, env0, m1, m2]
/-! the law's own -/
def euc : Nat → Nat → Nat → Nat
  | 0, a, _ => a
  | n + 1, a, b => if b = 0 then a else euc n b (a % b)
theorem euc_ok : ∀ (k n a b : Nat), b < 2 ^ k → 2 * k < n → euc n a b = Nat.gcd a b
  | 0, n, a, b, h, hn => by
    obtain ⟨n, rfl⟩ := Nat.exists_eq_succ_of_ne_zero (show n ≠ 0 by omega)
    have : b = 0 := by simpa using h
    subst this; simp [euc]
  | k + 1, n, a, b, h, hn => by
    obtain ⟨n, rfl⟩ : ∃ m, n = m + 2 := ⟨n - 2, by omega⟩
    unfold euc
    by_cases hb : b = 0
    · subst hb; simp
    rw [if_neg hb]
    unfold euc
    have h1 := Nat.mod_lt a (Nat.pos_of_ne_zero hb)
    by_cases hr : a % b = 0
    · rw [if_pos hr, Nat.gcd_comm, Nat.gcd_rec, hr]; simp
    rw [if_neg hr]
    have h2 := Nat.mod_lt b (Nat.pos_of_ne_zero hr)
    have h3 : b % (a % b) < 2 ^ k := by
      have e := Nat.div_add_mod b (a % b)
      have : 1 ≤ b / (a % b) := (Nat.le_div_iff_mul_le (by omega)).mpr (by omega)
      have : a % b ≤ (a % b) * (b / (a % b)) := Nat.le_mul_of_pos_right _ this
      rw [Nat.pow_succ] at h; omega
    rw [euc_ok k n (a % b) (b % (a % b)) h3 (by omega)]
    rw [Nat.gcd_comm a b, Nat.gcd_rec b a, Nat.gcd_rec (a % b) b, Nat.gcd_comm]
theorem gcd_turns {b : SM} (hb : b = sSeq (sIf (mTst (mOp dEq (mV 1) (mC (.int 0)))) (sBrk) (sNil)) (sPar [] 0 1 (aCons (mV 1) (aCons (mOp dMod (mCall gInt (aCons (mV 0) (aNil))) (mV 1)) (aNil))))) : ∀ (ds : List D) (x y : Nat) (z : Sl), ∃ u v, forL (gN 2) b ds [.val (.int x), .val (.int y), z] none = some (.nx [.val (.int (euc ds.length x y : Nat)), u, v] none)
  | [], x, y, z => ⟨_, _, rfl⟩
  | d :: ds, x, y, z => by
    rw [x_forC]
    by_cases h : y = 0
    · subst h; exact ⟨.val (.int 0), .val d, by simp [hb, euc]⟩
    · obtain ⟨u, v, e⟩ := gcd_turns hb ds y (x % y) (.val d)
      refine ⟨u, v, ?_⟩
      have e' : euc (d :: ds).length x y = euc ds.length y (x % y) := by simp [euc, h]
      rw [e', ← e, hb]
      simp [h, x_mod, Nat.pos_of_ne_zero h]
theorem gcd_ok (x y : Nat) (h : y < 2 ^ 8900) : m__law_gcd [.int x, .int y] = some (.int (Nat.gcd x y : Nat)) := by
  have hl : (rangeD 0 400000).length = 400000 := by unfold rangeD; rw [List.length_map, List.length_range]
  obtain ⟨u, v, e⟩ := gcd_turns rfl (rangeD 0 400000) x y .un
  rw [hl, euc_ok 8900 _ _ _ h (by decide)] at e
  have r := x_rng1 400000 (by decide) (by decide)
  have t : (400000 : Int).toNat = 400000 := by decide
  rw [t] at r
  unfold m__law_gcd b__law_gcd
  simp only [x_runF, env0, x_sSeq, x_sFor, x_mRng, x_aCons, x_aNil, x_mC, Option.bind_some, r, Option.map_some, x_frz0, x_vw0, List.map_cons, List.map_nil, List.length_cons, List.length_nil, List.replicate, List.cons_append, List.nil_append]
  rw [e]
  simp
theorem abs_nat (z : Int) : (if z < 0 then -z else z) = (z.natAbs : Int) := by split <;> omega
theorem ratio_tail (x : Int) (m : Nat) (hm : 0 < m) (h : m < 2 ^ 8900) : outF (sSeq (sAsgF [] (gN 2) (mCall m__law_gcd (aCons (mCall gAbs (aCons (mV 0) (aNil))) (aCons (mV 1) (aNil))))) (sRetF [] (mTup (aCons (mOp dFdiv (mV 0) (mV 2)) (aCons (mOp dFdiv (mV 1) (mV 2)) (aNil))))) [.val (.int x), .val (.int m), .un] none) = some (.tup [.int (x / (Nat.gcd x.natAbs m : Nat)), .int ((m : Int) / (Nat.gcd x.natAbs m : Nat))]) := by
  have hg : 0 < Nat.gcd x.natAbs m := Nat.gcd_pos_of_pos_right _ hm
  have hle : Nat.gcd x.natAbs m ≤ m := Nat.gcd_le_right _ hm
  have hl : (Nat.gcd x.natAbs m).log2 < 9000 := Nat.lt_of_le_of_lt (lg (Nat.lt_of_le_of_lt hle h)) (by decide)
  have hd := fun a : Int => x_fdiv a (Nat.gcd x.natAbs m : Nat) (by omega) (by rw [Int.natAbs_natCast]; exact hl)
  have gk := gcd_ok x.natAbs m h
  have ga : gAbs [.int x] = some (.int (x.natAbs : Int)) := by rw [x_abs, abs_nat]
  simp only [x_sSeq, x_sAsgF, x_mCall, x_aCons, x_aNil, x_mVr, x_vw0, List.map_cons, List.map_nil, x_h1v, x_h1u, List.getElem?_cons_zero, List.getElem?_cons_succ, x_rdV, Option.bind_some, ga, Option.map_some, gk]
  simp [hd]
theorem ratio_ok {p q : Int} (hq : q ≠ 0) (h : q.natAbs < 2 ^ 8900) : m__law_ratio [.int p, .int q] = some (rD ((p : Rat) / (q : Rat))) := by
  rw [frac_core hq]
  unfold m__law_ratio b__law_ratio
  by_cases h0 : q < 0
  · obtain ⟨m, hm⟩ := Int.eq_ofNat_of_zero_le (show 0 ≤ -q by omega)
    have e := ratio_tail (-p) m (by omega) (by omega)
    have e1 : q.natAbs = m := by omega
    rw [Int.natAbs_neg] at e
    rw [if_pos h0, if_pos h0, e1, hm, ← e]
    simp only [x_runF, e0c, e0n, e00]
    rw [x_sSeq]
    have : (sIf (mTst (mOp dLt (mV 1) (mC (.int 0)))) (sPar [] 0 1 (aCons (mUn dNeg (mV 0)) (aCons (mUn dNeg (mV 1)) (aNil)))) (sNil)) [.val (.int p), .val (.int q), .un] none = some (.nx [.val (.int (-p)), .val (.int m), .un] none) := by
      simp [h0, hm]
    rw [this, x_nxN]
  · obtain ⟨m, hm⟩ := Int.eq_ofNat_of_zero_le (show 0 ≤ q by omega)
    have e := ratio_tail p m (by omega) (by omega)
    have e1 : q.natAbs = m := by omega
    rw [if_neg h0, if_neg h0, e1]
    subst hm
    rw [← e]
    simp only [x_runF, e0c, e0n, e00]
    rw [x_sSeq]
    have : (sIf (mTst (mOp dLt (mV 1) (mC (.int 0)))) (sPar [] 0 1 (aCons (mUn dNeg (mV 0)) (aCons (mUn dNeg (mV 1)) (aNil)))) (sNil)) [.val (.int p), .val (.int (m : Int)), .un] none = some (.nx [.val (.int p), .val (.int m), .un] none) := by
      have : decide ((m : Int) < 0) = false := by simp
      simp only [x_sIf, x_mTst, x_mOp, x_mVr, x_mC, List.getElem?_cons_succ, List.getElem?_cons_zero, x_rdV, Option.bind_some, x_lt, this, Option.map_some, x_blD, x_bF, x_sNil]
    rw [this, x_nxN]
theorem _law_add_ok {a b : Rat} (h : Ok a) (g : Ok b) : m__law_add [rD a, rD b] = some (rD (a + b)) := by
  have e := ratio_ok (p := a.num * b.den + b.num * a.den) (q := a.den * b.den) (Int.mul_ne_zero (den_ne' a) (den_ne' b)) (by rw [Int.natAbs_mul]; exact p8 h.2 g.2)
  rw [add_eq] at e
  have m1 := rmul a.num b.den h.1 g.2
  have m2 := rmul b.num a.den g.1 h.2
  have m3 := rmul a.den b.den h.2 g.2
  unfold m__law_add b__law_add
  rw [rD, rD]
  simp [x_runF, env0, m1, m2, m3, e]
theorem _law_sub_ok {a b : Rat} (h : Ok a) (g : Ok b) : m__law_sub [rD a, rD b] = some (rD (a - b)) := by
  have e := ratio_ok (p := a.num * b.den - b.num * a.den) (q := a.den * b.den) (Int.mul_ne_zero (den_ne' a) (den_ne' b)) (by rw [Int.natAbs_mul]; exact p8 h.2 g.2)
  rw [sub_eq] at e
  have m1 := rmul a.num b.den h.1 g.2
  have m2 := rmul b.num a.den g.1 h.2
  have m3 := rmul a.den b.den h.2 g.2
  unfold m__law_sub b__law_sub
  rw [rD, rD]
  simp [x_runF, env0, m1, m2, m3, e]
theorem _law_mul_ok {a b : Rat} (h : Ok a) (g : Ok b) : m__law_mul [rD a, rD b] = some (rD (a * b)) := by
  have e := ratio_ok (p := a.num * b.num) (q := a.den * b.den) (Int.mul_ne_zero (den_ne' a) (den_ne' b)) (by rw [Int.natAbs_mul]; exact p8 h.2 g.2)
  rw [mul_eq] at e
  have m1 := rmul a.num b.num h.1 g.1
  have m3 := rmul a.den b.den h.2 g.2
  unfold m__law_mul b__law_mul
  rw [rD, rD]
  simp [x_runF, env0, m1, m3, e]
theorem _law_div_ok {a b : Rat} (h : Ok a) (g : Ok b) (hb : b ≠ 0) : m__law_div [rD a, rD b] = some (rD (a / b)) := by
  have e := ratio_ok (p := a.num * b.den) (q := a.den * b.num) (Int.mul_ne_zero (den_ne' a) (num_ne hb)) (by rw [Int.natAbs_mul]; exact p8 h.2 g.1)
  rw [div_eq a b hb] at e
  have m1 := rmul a.num b.den h.1 g.2
  have m3 := rmul a.den b.num h.2 g.1
  unfold m__law_div b__law_div
  rw [rD, rD]
  simp [x_runF, env0, m1, m3, e]
theorem _law_less_ok {a b : Rat} (h : Ok a) (g : Ok b) : m__law_less [rD a, rD b] = some (.bl (decide (a < b))) := by
  have m1 := rmul a.num b.den h.1 g.2
  have m2 := rmul b.num a.den g.1 h.2
  rw [← lt_dec]
  unfold m__law_less b__law_less
  rw [rD, rD]
  simp [x_runF, env0, m1, m2]
theorem _law_under_ok {a b : Rat} (h : Ok a) (g : Ok b) : m__law_under [rD a, rD b] = some (.bl (decide (a < b))) := by
  have m1 := rmul a.num b.den h.1 g.2
  have m2 := rmul b.num a.den g.1 h.2
  rw [← lt_dec]
  unfold m__law_under b__law_under
  rw [rD, rD]
  simp [x_runF, env0, m1, m2]
end Lw
set_option Elab.async false
set_option linter.all false
set_option maxRecDepth 100000
set_option maxHeartbeats 4000000
namespace Lw
open PySem PySem.Spec PyProof.Rows L2 Dn
def c_NOUGHT : D := .tup [.int 0, .int 1]
def b_sum_of : SM := sSeq (sAsgF [] (gN 1) (mC c_NOUGHT)) (sSeq (sFor [] (gN 2) (mIt itD (mV 0)) (sAsgF [] (gN 1) (mCall m_plus (aCons (mV 1) (aCons (mV 2) (aNil)))))) (sRetF [] (mV 1)))
def m_sum_of : List D → Option D := runF 3 b_sum_of
def b__law_pick : SM := sRetF [] (mOp dIx (mV 1) (mCallP 0 m__law_draw (aCons (mCall gLen (aCons (mV 1) (aNil))) (aNil))))
def m__law_pick : Pl → List D → Option (D × Pl) := runP 2 b__law_pick
theorem nought : c_NOUGHT = rD 0 := rfl
theorem tup01 : D.tup [.int 0, .int 1] = rD 0 := rfl
theorem Sm.zero {n : Nat} (h : 0 < n) : Sm n 0 := Sm.int (z := 0) (by simpa using Nat.two_pow_pos n) h
/-- a sum, from the left -/
def sumR (a : Rat) (rs : List Rat) : Rat := rs.foldl (· + ·) a
theorem sumR_cons (a r : Rat) (rs : List Rat) : sumR a (r :: rs) = sumR (a + r) rs := rfl
theorem sumR_eq (a : Rat) : ∀ rs : List Rat, sumR a rs = a + sumR 0 rs := by
  intro rs
  induction rs generalizing a with
  | nil => simp [sumR, Rat.add_zero]
  | cons r rs ih => rw [sumR_cons, sumR_cons, ih (a + r), ih (0 + r)]; grind
theorem sm_sum {n k : Nat} : ∀ {rs : List Rat} {a : Rat}, Sm k a → (∀ r ∈ rs, Sm n r) → Sm (k + rs.length * (n + 1)) (sumR a rs)
  | [], a, h, _ => by simpa [sumR] using h
  | r :: rs, a, h, hr => by
    have := sm_sum (rs := rs) (h.add (hr r List.mem_cons_self)) (fun x hx => hr x (List.mem_cons_of_mem _ hx))
    rw [sumR_cons, List.length_cons]
    refine this.mono ?_
    rw [Nat.succ_mul]; omega
theorem sum_turns (l : D) {n : Nat} : ∀ (rs : List Rat) (a : Rat) (k : Nat) (x : Sl), Sm k a → (∀ r ∈ rs, Sm n r) → n ≤ 4000 → k + rs.length * (n + 1) ≤ 4000 →
    ∃ y, forL (gN 2) (sAsgF [] (gN 1) (mCall m_plus (aCons (mV 1) (aCons (mV 2) (aNil))))) (rs.map rD) [.val l, .val (rD a), x] none = some (.nx [.val l, .val (rD (sumR a rs)), y] none)
  | [], a, k, x, _, _, _, _ => ⟨x, rfl⟩
  | r :: rs, a, k, x, ha, hr, hn, hk => by
    rw [List.length_cons, Nat.succ_mul] at hk
    have p := plus_ok (ha.mono (by omega)) ((hr r List.mem_cons_self).mono hn)
    obtain ⟨y, e⟩ := sum_turns l rs (a + r) (k + n + 1) (.val (rD r)) (ha.add (hr r List.mem_cons_self)) (fun x hx => hr x (List.mem_cons_of_mem _ hx)) hn (by omega)
    refine ⟨y, ?_⟩
    rw [List.map_cons, x_forC, x_gN, sumR_cons, ← e]
    simp [p]
theorem sum_ok {n : Nat} (rs : List Rat) (hr : ∀ r ∈ rs, Sm n r) (hn : n ≤ 4000) (hk : rs.length * (n + 1) ≤ 3990) : m_sum_of [.lst (rs.map rD)] = some (rD (sumR 0 rs)) := by
  obtain ⟨y, e⟩ := sum_turns (.lst (rs.map rD)) rs 0 1 .un (Sm.zero (by decide)) hr hn (by omega)
  unfold m_sum_of b_sum_of
  simp [x_runF, nought, e]
theorem pick_ok (P : Pl) (xs : List D) (h : xs ≠ []) (hl : xs.length < 1000000) : ∃ d P', m__law_pick P [.lst xs] = some (d, P') ∧ d ∈ xs := by
  have hp : 0 < xs.length := List.length_pos_iff.mpr h
  obtain ⟨v, P', e, h1, h2⟩ := draw_ok P xs.length (by omega) (by omega)
  obtain ⟨m, rfl⟩ := Int.eq_ofNat_of_zero_le h1
  have hm : m < xs.length := by omega
  refine ⟨xs[m], P', ?_, List.getElem_mem _⟩
  have ha : atI xs (m : Int) = some xs[m] := atI_nat (List.getElem?_eq_getElem hm)
  unfold m__law_pick b__law_pick
  simp [x_runP, e, ha]
end Lw
set_option Elab.async false
set_option linter.all false
set_option maxRecDepth 100000
set_option maxHeartbeats 4000000
namespace Lw
open PySem PySem.Spec PyProof.Rows L2 Dn
/-! the law's other exact numbers: _law_frac, _law_plus .. -/
theorem gcd_turns2 {b : SM} (hb : b = sSeq (sIf (mTst (mOp dEq (mV 3) (mC (.int 0)))) (sBrk) (sNil)) (sPar [] 2 3 (aCons (mV 3) (aCons (mOp dMod (mCall gInt (aCons (mV 2) (aNil))) (mV 3)) (aNil))))) (p q : D) (w : Sl) : ∀ (ds : List D) (x y : Nat) (z : Sl), ∃ u v, forL (gN 4) b ds [.val p, .val q, .val (.int x), .val (.int y), z, w] none = some (.nx [.val p, .val q, .val (.int (euc ds.length x y : Nat)), u, v, w] none)
  | [], x, y, z => ⟨_, _, rfl⟩
  | d :: ds, x, y, z => by
    rw [x_forC]
    by_cases h : y = 0
    · subst h; exact ⟨.val (.int 0), .val d, by simp [hb, euc]⟩
    · obtain ⟨u, v, e⟩ := gcd_turns2 hb p q w ds y (x % y) (.val d)
      refine ⟨u, v, ?_⟩
      have e' : euc (d :: ds).length x y = euc ds.length y (x % y) := by simp [euc, h]
      rw [e', ← e, hb]
      simp [h, x_mod, Nat.pos_of_ne_zero h]
theorem frac2_ok {p q : Int} (hq : q ≠ 0) (h : q.natAbs < 2 ^ 8900) : m__law_frac [.int p, .int q] = some (rD ((p : Rat) / (q : Rat))) := by
  have hl : (rangeD 0 400000).length = 400000 := by unfold rangeD; rw [List.length_map, List.length_range]
  obtain ⟨u, v, e⟩ := gcd_turns2 rfl (.int p) (.int q) .un (rangeD 0 400000) p.natAbs q.natAbs .un
  rw [hl, euc_ok 8900 _ _ _ h (by decide)] at e
  have r := x_rng1 400000 (by decide) (by decide)
  have t : (400000 : Int).toNat = 400000 := by decide
  rw [t] at r
  have hg : 0 < Nat.gcd p.natAbs q.natAbs := Nat.gcd_pos_of_pos_right _ (by omega)
  have hle : Nat.gcd p.natAbs q.natAbs ≤ q.natAbs := Nat.gcd_le_right _ (by omega)
  have hlg : (Nat.gcd p.natAbs q.natAbs).log2 < 9000 := Nat.lt_of_le_of_lt (lg (Nat.lt_of_le_of_lt hle h)) (by decide)
  have hd := fun a : Int => x_fdiv a (Nat.gcd p.natAbs q.natAbs : Nat) (by omega) (by rw [Int.natAbs_natCast]; exact hlg)
  have ga : ∀ z : Int, gAbs [.int z] = some (.int (z.natAbs : Int)) := fun z => by rw [x_abs, abs_nat]
  rw [frac_core hq]
  generalize Nat.gcd p.natAbs q.natAbs = g at *
  unfold m__law_frac b__law_frac
  simp only [x_runF, e0c, e0n, e00]
  have k1 : sAsgF [] (gN 2) (mCall gAbs (aCons (mV 0) (aNil))) [.val (.int p), .val (.int q), .un, .un, .un, .un] none = some (.nx [.val (.int p), .val (.int q), .val (.int (p.natAbs : Int)), .un, .un, .un] none) := by simp [ga, -x_abs]
  have k2 : sAsgF [] (gN 3) (mCall gAbs (aCons (mV 1) (aNil))) [.val (.int p), .val (.int q), .val (.int (p.natAbs : Int)), .un, .un, .un] none = some (.nx [.val (.int p), .val (.int q), .val (.int (p.natAbs : Int)), .val (.int (q.natAbs : Int)), .un, .un] none) := by simp [ga, -x_abs]
  rw [x_sSeq, k1, x_nxN, x_sSeq, k2, x_nxN, x_sSeq, x_sFor]
  simp only [x_mRng, x_aCons, x_aNil, x_mC, Option.bind_some, r, Option.map_some, x_frz0]
  rw [e, x_nxN]
  have m1 : ∀ z : Int, dMul (.int 1) (.int z) = some (.int z) := fun z => by rw [x_mulS1 1 z (by decide), Int.one_mul]
  have m2 : ∀ z : Int, dMul (.int (-1)) (.int z) = some (.int (-z)) := fun z => by rw [x_mulS1 (-1) z (by decide), Int.neg_one_mul]
  by_cases h0 : q < 0
  · simp [h0, m2, hd]
  · simp [h0, m1, hd]
theorem _law_plus_ok {a b : Rat} (h : Ok a) (g : Ok b) : m__law_plus [rD a, rD b] = some (rD (a + b)) := by
  have e := frac2_ok (p := a.num * b.den + b.num * a.den) (q := a.den * b.den) (Int.mul_ne_zero (den_ne' a) (den_ne' b)) (by rw [Int.natAbs_mul]; exact p8 h.2 g.2)
  rw [add_eq] at e
  have m1 := rmul a.num b.den h.1 g.2
  have m2 := rmul b.num a.den g.1 h.2
  have m3 := rmul a.den b.den h.2 g.2
  unfold m__law_plus b__law_plus
  rw [rD, rD]
  simp [x_runF, env0, m1, m2, m3, e]
theorem _law_minus_ok {a b : Rat} (h : Ok a) (g : Ok b) : m__law_minus [rD a, rD b] = some (rD (a - b)) := by
  have e := frac2_ok (p := a.num * b.den - b.num * a.den) (q := a.den * b.den) (Int.mul_ne_zero (den_ne' a) (den_ne' b)) (by rw [Int.natAbs_mul]; exact p8 h.2 g.2)
  rw [sub_eq] at e
  have m1 := rmul a.num b.den h.1 g.2
  have m2 := rmul b.num a.den g.1 h.2
  have m3 := rmul a.den b.den h.2 g.2
  unfold m__law_minus b__law_minus
  rw [rD, rD]
  simp [x_runF, env0, m1, m2, m3, e]
theorem _law_times_ok {a b : Rat} (h : Ok a) (g : Ok b) : m__law_times [rD a, rD b] = some (rD (a * b)) := by
  have e := frac2_ok (p := a.num * b.num) (q := a.den * b.den) (Int.mul_ne_zero (den_ne' a) (den_ne' b)) (by rw [Int.natAbs_mul]; exact p8 h.2 g.2)
  rw [mul_eq] at e
  have m1 := rmul a.num b.num h.1 g.1
  have m3 := rmul a.den b.den h.2 g.2
  unfold m__law_times b__law_times
  rw [rD, rD]
  simp [x_runF, env0, m1, m3, e]
theorem _law_over_ok {a b : Rat} (h : Ok a) (g : Ok b) (hb : b ≠ 0) : m__law_over [rD a, rD b] = some (rD (a / b)) := by
  have e := frac2_ok (p := a.num * b.den) (q := a.den * b.num) (Int.mul_ne_zero (den_ne' a) (num_ne hb)) (by rw [Int.natAbs_mul]; exact p8 h.2 g.1)
  rw [div_eq a b hb] at e
  have m1 := rmul a.num b.den h.1 g.2
  have m3 := rmul a.den b.num h.2 g.1
  unfold m__law_over b__law_over
  rw [rD, rD]
  simp [x_runF, env0, m1, m3, e]

/-- each item and each partial sum is of a size that adds -/
def OkS : Rat → List Rat → Prop
  | _, [] => True
  | a, r :: rs => Ok r ∧ Ok (a + r) ∧ OkS (a + r) rs
theorem oks_all {n : Nat} : ∀ {rs : List Rat} {a : Rat} {k : Nat}, Sm k a → (∀ r ∈ rs, Sm n r) → k + rs.length * (n + 1) ≤ 4000 → OkS a rs
  | [], _, _, _, _, _ => trivial
  | r :: rs, a, k, h, hr, hk => by
    rw [List.length_cons, Nat.succ_mul] at hk
    have h1 := hr r List.mem_cons_self
    have h2 := h.add h1
    exact ⟨h1.mono (by omega), h2.mono (by omega), oks_all h2 (fun x hx => hr x (List.mem_cons_of_mem _ hx)) (by omega)⟩
/-- .. the last one longer -/
theorem oks_last {n m : Nat} (hn : n ≤ m) : ∀ {rs : List Rat} {a : Rat} {k : Nat}, Sm k a → (∀ r ∈ rs.dropLast, Sm n r) → (∀ r ∈ rs, Sm m r) → k + rs.length * (n + 1) + m + 1 ≤ 4000 → OkS a rs
  | [], _, _, _, _, _, _ => trivial
  | [r], a, k, h, _, hm, hk => by
    have h1 := hm r List.mem_cons_self
    exact ⟨h1.mono (by omega), (h.add h1).mono (by omega), trivial⟩
  | r :: q :: rs, a, k, h, hr, hm, hk => by
    rw [List.length_cons, Nat.succ_mul] at hk
    have h1 := hr r (by rw [List.dropLast_cons_cons]; exact List.mem_cons_self)
    have h2 := h.add h1
    exact ⟨h1.mono (by omega), h2.mono (by omega), oks_last hn h2 (fun x hx => hr x (by rw [List.dropLast_cons_cons]; exact List.mem_cons_of_mem _ hx)) (fun x hx => hm x (List.mem_cons_of_mem _ hx)) (by omega)⟩
theorem sm_last {n m : Nat} (hn : n ≤ m) : ∀ {rs : List Rat} {a : Rat} {k : Nat}, Sm k a → (∀ r ∈ rs.dropLast, Sm n r) → (∀ r ∈ rs, Sm m r) → Sm (k + rs.length * (n + 1) + m + 1) (sumR a rs)
  | [], a, k, h, _, _ => h.mono (by omega)
  | [r], a, k, h, _, hm => by
    have h1 := hm r List.mem_cons_self
    exact (h.add h1).mono (by rw [List.length_singleton]; omega)
  | r :: q :: rs, a, k, h, hr, hm => by
    have h1 := hr r (by rw [List.dropLast_cons_cons]; exact List.mem_cons_self)
    have h2 := h.add h1
    have := sm_last hn (rs := q :: rs) h2 (fun x hx => hr x (by rw [List.dropLast_cons_cons]; exact List.mem_cons_of_mem _ hx)) (fun x hx => hm x (List.mem_cons_of_mem _ hx))
    rw [sumR_cons, List.length_cons, Nat.succ_mul]
    exact this.mono (by omega)
theorem sum_turnsS (l : D) : ∀ (rs : List Rat) (a : Rat) (x : Sl), Ok a → OkS a rs →
    ∃ y, forL (gN 2) (sAsgF [] (gN 1) (mCall m_plus (aCons (mV 1) (aCons (mV 2) (aNil))))) (rs.map rD) [.val l, .val (rD a), x] none = some (.nx [.val l, .val (rD (sumR a rs)), y] none)
  | [], a, x, _, _ => ⟨x, rfl⟩
  | r :: rs, a, x, ha, hr => by
    have p := plus_ok ha hr.1
    obtain ⟨y, e⟩ := sum_turnsS l rs (a + r) (.val (rD r)) hr.2.1 hr.2.2
    refine ⟨y, ?_⟩
    rw [List.map_cons, x_forC, x_gN, sumR_cons, ← e]
    simp [p]
theorem sum_okS (rs : List Rat) (hr : OkS 0 rs) : m_sum_of [.lst (rs.map rD)] = some (rD (sumR 0 rs)) := by
  obtain ⟨y, e⟩ := sum_turnsS (.lst (rs.map rD)) rs 0 .un (Sm.zero (by decide)) hr
  unfold m_sum_of b_sum_of
  simp [x_runF, nought, e]
theorem eq_rat (a b : Rat) : dEq (rD a) (rD b) = some (.bl (decide (a = b))) := by
  unfold dEq rD
  rw [if_pos (by simp [fl_tup, fl_int])]
  have : (a = b) ↔ (a.num = b.num ∧ (a.den : Int) = b.den) := by
    constructor
    · intro h; subst h; exact ⟨rfl, rfl⟩
    · intro h; exact Rat.ext h.1 (by have := h.2; omega)
  simp only [eqd, eqdL, this]
  congr 2
  rw [Bool.eq_iff_iff]; simp
theorem ne_rat (a b : Rat) : dNe (rD a) (rD b) = some (.bl (!decide (a = b))) := by
  have h := eq_rat a b
  have f : (fl 20 (rD a) && fl 20 (rD b)) = true := by simp [rD, fl_tup, fl_int]
  unfold dEq at h
  unfold dNe
  rw [if_pos f] at h ⊢
  simp only [Option.some.injEq, D.bl.injEq] at h
  rw [h]
theorem num_lt0 (r : Rat) : r.num < 0 ↔ r < 0 := by rw [← Int.not_le, Rat.num_nonneg, Rat.not_le]
mutual
theorem eqd_self : ∀ (n : Nat) (d : D), fl n d = true → eqd d d = true
  | _, .non, _ => by simp only [eqd]
  | _, .bl b, _ => by simp [eqd]
  | _, .int i, _ => by simp [eqd]
  | _, .str x, _ => by simp [eqd]
  | n + 1, .tup xs, h => by simp only [eqd]; exact eqd_selfL n xs (by simpa only [fl_tup] using h)
  | n + 1, .lst xs, h => by simp only [eqd]; exact eqd_selfL n xs (by simpa only [fl_lst] using h)
  | 0, .tup xs, h => by simp [fl] at h
  | 0, .lst xs, h => by simp [fl] at h
  | n, .dct k v, h => by simp [fl_dct] at h
  | n, .scr k, h => by simp [fl_scr] at h
theorem eqd_selfL : ∀ (n : Nat) (xs : List D), xs.all (fl n) = true → eqdL xs xs = true
  | _, [], _ => by simp only [eqdL]
  | n, x :: xs, h => by
    rw [List.all_cons, Bool.and_eq_true] at h
    simp only [eqdL]
    rw [eqd_self n x h.1, eqd_selfL n xs h.2]; rfl
end
theorem eq_self {d : D} (h : fl 20 d = true) : dEq d d = some (.bl true) := by
  unfold dEq; rw [h, if_pos (by rfl), eqd_self 20 d h]
theorem ne_self {d : D} (h : fl 20 d = true) : dNe d d = some (.bl false) := by
  unfold dNe; rw [h, if_pos (by rfl), eqd_self 20 d h]; rfl
@[simp] theorem fl_rat (n : Nat) (r : Rat) : fl (n + 2) (rD r) = true := by simp [rD, fl_tup, fl_int]
def b__law_total : SM := sSeq (sAsgF [] (gN 1) (mTup (aCons (mC (.int 0)) (aCons (mC (.int 1)) (aNil))))) (sSeq (sFor [] (gN 2) (mIt itD (mV 0)) (sAsgF [] (gN 1) (mCall m__law_plus (aCons (mV 1) (aCons (mV 2) (aNil)))))) (sRetF [] (mV 1)))
def m__law_total : List D → Option D := runF 3 b__law_total
theorem total_turns (l : D) : ∀ (rs : List Rat) (a : Rat) (x : Sl), Ok a → OkS a rs →
    ∃ y, forL (gN 2) (sAsgF [] (gN 1) (mCall m__law_plus (aCons (mV 1) (aCons (mV 2) (aNil))))) (rs.map rD) [.val l, .val (rD a), x] none = some (.nx [.val l, .val (rD (sumR a rs)), y] none)
  | [], a, x, _, _ => ⟨x, rfl⟩
  | r :: rs, a, x, ha, hr => by
    have p := _law_plus_ok ha hr.1
    obtain ⟨y, e⟩ := total_turns l rs (a + r) (.val (rD r)) hr.2.1 hr.2.2
    refine ⟨y, ?_⟩
    rw [List.map_cons, x_forC, x_gN, sumR_cons, ← e]
    simp [p]
theorem total_okS (rs : List Rat) (hr : OkS 0 rs) : m__law_total [.lst (rs.map rD)] = some (rD (sumR 0 rs)) := by
  obtain ⟨y, e⟩ := total_turns (.lst (rs.map rD)) rs 0 .un (Sm.zero (by decide)) hr
  unfold m__law_total b__law_total
  simp [x_runF, tup01, e]
end Lw
set_option Elab.async false
set_option linter.all false
set_option maxRecDepth 100000
set_option maxHeartbeats 4000000
namespace Lw
open PySem PySem.Spec PyProof.Rows L2 Dn
namespace Bm
/-! numbers over one denominator -/
/-- z / N, z below B -/
def InB (N B : Nat) (r : Rat) : Prop := 0 < N ∧ ∃ z : Int, r = (z : Rat) / ((N : Int) : Rat) ∧ z.natAbs < B
abbrev In (N n : Nat) (r : Rat) : Prop := InB N (2 ^ n) r
theorem nz {N : Nat} (h : 0 < N) : ((N : Int) : Rat) ≠ 0 := by
  intro e
  have : (N : Int) = 0 := by exact_mod_cast e
  omega
theorem InB.mono {N B C : Nat} {r : Rat} (h : InB N B r) (hc : B ≤ C) : InB N C r := by
  obtain ⟨h0, z, e, l⟩ := h
  exact ⟨h0, z, e, by omega⟩
theorem In.mono {N m n : Nat} {r : Rat} (h : In N m r) (hn : m ≤ n) : In N n r := InB.mono h (Nat.pow_le_pow_right (by decide) hn)
theorem InB.add {N A B : Nat} {a b : Rat} (h : InB N A a) (g : InB N B b) : InB N (A + B) (a + b) := by
  obtain ⟨h0, z, e, l⟩ := h
  obtain ⟨_, w, f, m⟩ := g
  refine ⟨h0, z + w, ?_, by omega⟩
  rw [e, f, Rat.intCast_add, Rat.div_def, Rat.div_def, Rat.div_def]; grind
theorem InB.neg {N A : Nat} {a : Rat} (h : InB N A a) : InB N A (-a) := by
  obtain ⟨h0, z, e, l⟩ := h
  refine ⟨h0, -z, ?_, by omega⟩
  rw [e, Rat.intCast_neg, Rat.div_def, Rat.div_def]; grind
theorem InB.sub {N A B : Nat} {a b : Rat} (h : InB N A a) (g : InB N B b) : InB N (A + B) (a - b) := by
  rw [Rat.sub_eq_add_neg]; exact h.add g.neg
theorem pw2 (n : Nat) : 2 ^ n + 2 ^ n = 2 ^ (n + 1) := by rw [Nat.pow_succ]; omega
theorem In.add {N n : Nat} {a b : Rat} (h : In N n a) (g : In N n b) : In N (n + 1) (a + b) := by
  have := InB.add h g; rw [pw2] at this; exact this
theorem In.sub {N n : Nat} {a b : Rat} (h : In N n a) (g : In N n b) : In N (n + 1) (a - b) := by
  have := InB.sub h g; rw [pw2] at this; exact this
theorem In.neg {N n : Nat} {a : Rat} (h : In N n a) : In N n (-a) := InB.neg h
theorem In.mul {N M n m : Nat} {a b : Rat} (h : In N n a) (g : In M m b) : In (N * M) (n + m) (a * b) := by
  obtain ⟨h0, z, e, l⟩ := h
  obtain ⟨h1, w, f, k⟩ := g
  refine ⟨Nat.mul_pos h0 h1, z * w, ?_, by rw [Int.natAbs_mul]; exact pow_mul_lt l k⟩
  have n0 := nz h0
  have n1 := nz h1
  rw [e, f, Rat.intCast_mul, Int.natCast_mul, Rat.intCast_mul]
  generalize ((N : Int) : Rat) = x at *
  generalize ((M : Int) : Rat) = y at *
  grind
theorem In.up {N n : Nat} {a : Rat} (h : In N n a) {M m K : Nat} (hM : 0 < M) (hm : M ≤ 2 ^ m) (hK : K = N * M) : In K (n + m) a := by
  subst hK
  obtain ⟨h0, z, e, l⟩ := h
  refine ⟨Nat.mul_pos h0 hM, z * M, ?_, ?_⟩
  · have n0 := nz h0
    have n1 := nz hM
    rw [e, Rat.intCast_mul, Int.natCast_mul, Rat.intCast_mul]
    generalize ((N : Int) : Rat) = x at *
    generalize ((M : Int) : Rat) = y at *
    grind
  · rw [Int.natAbs_mul, Int.natAbs_natCast, Nat.pow_add]
    exact Nat.lt_of_lt_of_le (Nat.mul_lt_mul_of_pos_right l hM) (Nat.mul_le_mul_left _ hm)
theorem In.int {n : Nat} {z : Int} (h : z.natAbs < 2 ^ n) : In 1 n (z : Rat) := ⟨by decide, z, by rw [show (((1 : Nat) : Int) : Rat) = 1 from rfl]; grind, h⟩
theorem In.zero {N n : Nat} (h : 0 < N) : In N n 0 := ⟨h, 0, by rw [show ((0 : Int) : Rat) = 0 from rfl, Rat.div_def, Rat.zero_mul], by simpa using Nat.two_pow_pos n⟩
/-- a denominator that holds a quotient's -/
theorem In.div {M k m : Nat} {b : Rat} (h : In M k b) (hb : b ≠ 0) (hm : M ≤ 2 ^ m) : ∃ W, 0 < W ∧ W < 2 ^ k ∧ ∀ {N n : Nat} {a : Rat}, In N n a → In (N * W) (n + m) (a / b) := by
  obtain ⟨h0, w, e, l⟩ := h
  have hw : w ≠ 0 := by rintro rfl; apply hb; rw [e, show ((0 : Int) : Rat) = 0 from rfl, Rat.div_def, Rat.zero_mul]
  refine ⟨w.natAbs, by omega, l, fun {N n a} ha => ?_⟩
  obtain ⟨g0, z, f, j⟩ := ha
  refine ⟨Nat.mul_pos g0 (by omega), z * M * w.sign, ?_, ?_⟩
  · have n0 := nz h0
    have n1 := nz g0
    have nw : (w : Rat) ≠ 0 := by intro q; have : w = 0 := by exact_mod_cast q
                                  exact hw this
    have s : (w : Rat) * ((w.sign : Int) : Rat) = ((w.natAbs : Int) : Rat) := by
      rw [← Rat.intCast_mul, Int.mul_sign_self]
    have s2 : ((w.sign : Int) : Rat) * ((w.sign : Int) : Rat) = 1 := by
      rw [← Rat.intCast_mul]
      have : w.sign * w.sign = 1 := by
        rcases Int.lt_trichotomy w 0 with h | h | h
        · rw [Int.sign_eq_neg_one_of_neg h]; rfl
        · exact absurd h hw
        · rw [Int.sign_eq_one_of_pos h]; rfl
      rw [this]; rfl
    rw [e, f, Rat.intCast_mul, Rat.intCast_mul, Int.natCast_mul, Rat.intCast_mul, ← s]
    generalize ((N : Int) : Rat) = x at *
    generalize ((M : Int) : Rat) = y at *
    generalize ((w.sign : Int) : Rat) = sg at *
    generalize (w : Rat) = ww at *
    generalize (z : Rat) = zz at *
    have : sg ≠ 0 := by intro q; rw [q] at s2; grind
    grind
  · have : (z * M * w.sign).natAbs = z.natAbs * M := by
      rw [Int.natAbs_mul, Int.natAbs_mul, Int.natAbs_natCast, Int.natAbs_sign, if_neg hw, Nat.mul_one]
    rw [this, Nat.pow_add]
    exact Nat.lt_of_lt_of_le (Nat.mul_lt_mul_of_pos_right j h0) (Nat.mul_le_mul_left _ hm)
theorem InB.sm {N B n : Nat} {r : Rat} (h : InB N B r) (hN : N < 2 ^ n) (hB : B ≤ 2 ^ n) : Sm n r := by
  obtain ⟨h0, z, e, l⟩ := h
  rw [e]
  exact sm_div (by omega) (by rw [Int.natAbs_natCast]; exact hN) (by omega)
theorem In.sm {N n : Nat} {r : Rat} (h : In N n r) {k : Nat} (hN : N < 2 ^ k) (hk : n ≤ k) : Sm k r := InB.sm h hN (Nat.pow_le_pow_right (by decide) hk)
theorem in_sum {N B : Nat} : ∀ {rs : List Rat} {a : Rat} {A : Nat}, InB N A a → (∀ r ∈ rs, InB N B r) → InB N (A + rs.length * B) (sumR a rs)
  | [], a, A, h, _ => by simpa [sumR] using h
  | r :: rs, a, A, h, hr => by
    have := in_sum (rs := rs) (h.add (hr r List.mem_cons_self)) fun x hx => hr x (List.mem_cons_of_mem _ hx)
    rw [sumR_cons, List.length_cons, Nat.succ_mul]
    exact this.mono (by omega)
theorem in_oks {N B : Nat} (hN : N < 2 ^ 4000) : ∀ {rs : List Rat} {a : Rat} {A : Nat}, InB N A a → (∀ r ∈ rs, InB N B r) → A + (rs.length + 1) * B ≤ 2 ^ 4000 → OkS a rs
  | [], _, _, _, _, _ => trivial
  | r :: rs, a, A, h, hr, hk => by
    rw [List.length_cons, Nat.succ_mul, Nat.succ_mul] at hk
    have h1 := hr r List.mem_cons_self
    have h2 := h.add h1
    exact ⟨h1.sm hN (by omega), h2.sm hN (by omega), in_oks hN h2 (fun x hx => hr x (List.mem_cons_of_mem _ hx)) (by rw [Nat.succ_mul]; omega)⟩
/-- .. short sums -/
theorem in_sum16 {N n : Nat} {rs : List Rat} (hr : ∀ r ∈ rs, In N n r) (hN : 0 < N) (hl : rs.length ≤ 15) : In N (n + 4) (sumR 0 rs) := by
  have := in_sum (In.zero (n := n) hN) hr
  refine InB.mono this ?_
  rw [Nat.pow_add]
  have : rs.length * 2 ^ n ≤ 15 * 2 ^ n := Nat.mul_le_mul_right _ hl
  omega
theorem in_oks16 {N n : Nat} {rs : List Rat} (hr : ∀ r ∈ rs, In N n r) (hN : 0 < N) (hN' : N < 2 ^ 4000) (hl : rs.length ≤ 15) (hn : n ≤ 3990) : OkS 0 rs := by
  refine in_oks hN' (In.zero (n := n) hN) hr ?_
  have h1 : (rs.length + 1) * 2 ^ n ≤ 16 * 2 ^ n := Nat.mul_le_mul_right _ (by omega)
  have h2 : (2 : Nat) ^ n ≤ 2 ^ 3990 := Nat.pow_le_pow_right (by decide) hn
  have h3 : (2 : Nat) ^ 4000 = 1024 * 2 ^ 3990 := by rw [show 4000 = 10 + 3990 from rfl, Nat.pow_add]
  omega
/-! loads -/
inductive Ld where
  | pt (x f : Rat)
  | sp (a b f : Rat)
def Ld.d : Ld → D
  | .pt x f => .tup [.str "point", rD x, rD f]
  | .sp a b f => .tup [.str "spread", rD a, rD b, rD f]
def Ld.w : Ld → Rat
  | .pt _ f => f
  | .sp a b f => f * (b - a)
def Ld.m : Ld → Rat
  | .pt x _ => x
  | .sp a b _ => 1 / 2 * (a + b)
def Ld.ps : Ld → List Rat
  | .pt x _ => [x]
  | .sp a b _ => [a, b]
/-- places and forces as drawn -/
abbrev Po (r : Rat) : Prop := In 3024 20 r
abbrev Fo (r : Rat) : Prop := In 6 6 r
def Ld.G (L : Rat) : Ld → Prop
  | .pt x f => Po x ∧ Fo f ∧ 0 ≤ x ∧ x ≤ L
  | .sp a b f => Po a ∧ Po b ∧ Fo f ∧ 0 ≤ a ∧ a < b ∧ b ≤ L
def Ld.t (x : Rat) : Ld → Rat
  | .pt y f => if x < y then 0 else f * (x - y)
  | .sp a b f => if x < a then 0 else f * ((if x < b then x else b) - a) * (x - 1 / 2 * (a + (if x < b then x else b)))
/-! polynomials -/
abbrev P3 := Rat × Rat × Rat
def pev (c : P3) (x : Rat) : Rat := ((0 * x + c.2.2) * x + c.2.1) * x + c.1
def padd (a b : P3) : P3 := (a.1 + b.1, a.2.1 + b.2.1, a.2.2 + b.2.2)
theorem pev_add (a b : P3) (x : Rat) : pev (padd a b) x = pev a x + pev b x := by unfold pev padd; dsimp only; grind
def momP (f y : Rat) : P3 := (0 - f * y, f, 0)
theorem pev_mom (f y x : Rat) : pev (momP f y) x = f * (x - y) := by unfold pev momP; dsimp only; grind
def Ld.c (u : Rat) : Ld → P3
  | .pt y f => if u < y then (0, 0, 0) else momP (0 - f) y
  | .sp a b f => if u < a then (0, 0, 0) else if u < b then (0 - 1 / 2 * f * (a * a), f * a, 0 - 1 / 2 * f) else momP (0 - f * (b - a)) (1 / 2 * (a + b))
/-- without a break between, the piece's polynomial is the turning -/
theorem c_t {u x : Rat} (h : u ≤ x) {l : Ld} (hl : ∀ z ∈ l.ps, z ≤ u ∨ x ≤ z) (ho : ∀ a b f, l = .sp a b f → a < b) : pev (l.c u) x = 0 - l.t x := by
  cases l with
  | pt y f =>
    have := hl y (by simp [Ld.ps])
    unfold Ld.c Ld.t
    dsimp only
    by_cases g : u < y
    · rw [if_pos g]
      by_cases e : x < y
      · rw [if_pos e]; unfold pev; dsimp only; grind
      · rw [if_neg e]
        have : x = y := by grind
        subst this; unfold pev; dsimp only; grind
    · rw [if_neg g, if_neg (by grind), pev_mom]; grind
  | sp a b f =>
    have h1 := hl a (by simp [Ld.ps])
    have h2 := hl b (by simp [Ld.ps])
    have h3 := ho a b f rfl
    unfold Ld.c Ld.t
    dsimp only
    by_cases g : u < a
    · rw [if_pos g]
      by_cases e : x < a
      · rw [if_pos e]; unfold pev; dsimp only; grind
      · have : x = a := by grind
        subst this
        rw [if_neg e, if_pos h3]; unfold pev; dsimp only; grind
    · rw [if_neg g]
      by_cases g2 : u < b
      · rw [if_pos g2, if_neg (by grind)]
        by_cases e : x < b
        · rw [if_pos e]; unfold pev; dsimp only; grind
        · have : x = b := by grind
          subst this
          rw [if_neg e]; unfold pev; dsimp only; grind
      · rw [if_neg g2, if_neg (by grind), if_neg (by grind), pev_mom]; grind
def tsum (x : Rat) : List Ld → Rat
  | [] => 0
  | l :: ls => l.t x + tsum x ls
def supR (s p x : Rat) : Rat := if x < s then 0 else p * (x - s)
/-- the moment: a list of supports with pushes -/
def ssum (x : Rat) : List (Rat × Rat) → Rat
  | [] => 0
  | q :: qs => supR q.1 q.2 x + ssum x qs
def MR (qs : List (Rat × Rat)) (ls : List Ld) (x : Rat) : Rat := ssum x qs - tsum x ls
def supC (u : Rat) (c : P3) (q : Rat × Rat) : P3 := if u < q.1 then c else padd c (momP q.2 q.1)
def cof (qs : List (Rat × Rat)) (ls : List Ld) (u : Rat) : P3 := ls.foldl (fun c l => padd c (l.c u)) (qs.foldl (supC u) (0, 0, 0))
theorem pev_ls {u x : Rat} (h : u ≤ x) : ∀ (ls : List Ld) (c : P3), (∀ l ∈ ls, (∀ z ∈ l.ps, z ≤ u ∨ x ≤ z) ∧ ∀ a b f, l = .sp a b f → a < b) → pev (ls.foldl (fun c l => padd c (l.c u)) c) x = pev c x - tsum x ls
  | [], c, _ => by unfold tsum; simp only [List.foldl_nil]; grind
  | l :: ls, c, hl => by
    rw [List.foldl_cons, pev_ls h ls _ fun z hz => hl z (List.mem_cons_of_mem _ hz), pev_add, c_t h (hl l List.mem_cons_self).1 (hl l List.mem_cons_self).2]
    show _ = pev c x - (l.t x + tsum x ls)
    grind
theorem pev_qs {u x : Rat} (h : u ≤ x) : ∀ (qs : List (Rat × Rat)) (c : P3), (∀ q ∈ qs, q.1 ≤ u ∨ x ≤ q.1) → pev (qs.foldl (supC u) c) x = pev c x + ssum x qs
  | [], c, _ => by unfold ssum; simp only [List.foldl_nil]; grind
  | q :: qs, c, hq => by
    rw [List.foldl_cons, pev_qs h qs _ fun z hz => hq z (List.mem_cons_of_mem _ hz)]
    have := hq q List.mem_cons_self
    show _ = pev c x + (supR q.1 q.2 x + ssum x qs)
    unfold supC supR
    by_cases g : u < q.1
    · rw [if_pos g]
      by_cases e : x < q.1
      · rw [if_pos e]; grind
      · have : x = q.1 := by grind
        rw [if_neg e, this]; grind
    · rw [if_neg g, if_neg (by grind), pev_add, pev_mom]; grind
theorem pev_cof {qs : List (Rat × Rat)} {ls : List Ld} {u x : Rat} (h : u ≤ x) (hq : ∀ q ∈ qs, q.1 ≤ u ∨ x ≤ q.1) (hl : ∀ l ∈ ls, (∀ z ∈ l.ps, z ≤ u ∨ x ≤ z) ∧ ∀ a b f, l = .sp a b f → a < b) : pev (cof qs ls u) x = MR qs ls x := by
  unfold cof MR
  rw [pev_ls h ls _ hl, pev_qs h qs _ hq]
  unfold pev; dsimp only; grind
/-! breaks -/
def insU (x : Rat) : List Rat → List Rat
  | [] => [x]
  | y :: ys => if y < x then y :: insU x ys else if y = x then y :: ys else x :: y :: ys
def brk (ps : List Rat) : List Rat := ps.foldl (fun xs x => insU x xs) []
theorem insU_mem (x z : Rat) : ∀ xs : List Rat, z ∈ insU x xs ↔ z = x ∨ z ∈ xs
  | [] => by simp [insU]
  | y :: ys => by
    unfold insU
    split
    · rw [List.mem_cons, insU_mem x z ys, List.mem_cons]
      constructor
      · rintro (h | h | h)
        · exact .inr (.inl h)
        · exact .inl h
        · exact .inr (.inr h)
      · rintro (h | h | h)
        · exact .inr (.inl h)
        · exact .inl h
        · exact .inr (.inr h)
    · split
      · rename_i e
        rw [List.mem_cons]
        constructor
        · exact fun h => .inr h
        · rintro (h | h)
          · exact .inl (h.trans e.symm)
          · exact h
      · rw [List.mem_cons]
theorem insU_sorted (x : Rat) : ∀ xs : List Rat, xs.Pairwise (· < ·) → (insU x xs).Pairwise (· < ·)
  | [], _ => by simp [insU]
  | y :: ys, h => by
    rw [List.pairwise_cons] at h
    unfold insU
    split
    · rename_i g
      rw [List.pairwise_cons]
      refine ⟨fun z hz => ?_, insU_sorted x ys h.2⟩
      rcases (insU_mem x z ys).mp hz with rfl | hz
      · exact g
      · exact h.1 z hz
    · split
      · rw [List.pairwise_cons]; exact h
      · rw [List.pairwise_cons, List.pairwise_cons]
        refine ⟨fun z hz => ?_, h⟩
        rcases List.mem_cons.mp hz with rfl | hz
        · grind
        · have := h.1 z hz; grind
theorem insU_len (x : Rat) : ∀ xs : List Rat, (insU x xs).length ≤ xs.length + 1
  | [] => by simp [insU]
  | y :: ys => by
    unfold insU
    split
    · have := insU_len x ys; simp only [List.length_cons]; omega
    · split <;> simp only [List.length_cons] <;> omega
theorem brk_facts : ∀ (ps xs : List Rat), xs.Pairwise (· < ·) → (ps.foldl (fun xs x => insU x xs) xs).Pairwise (· < ·) ∧ (∀ z, z ∈ ps.foldl (fun xs x => insU x xs) xs ↔ z ∈ ps ∨ z ∈ xs) ∧ (ps.foldl (fun xs x => insU x xs) xs).length ≤ xs.length + ps.length
  | [], xs, h => ⟨h, by simp, by simp⟩
  | p :: ps, xs, h => by
    obtain ⟨h1, h2, h3⟩ := brk_facts ps (insU p xs) (insU_sorted p xs h)
    refine ⟨h1, fun z => ?_, ?_⟩
    · rw [List.foldl_cons, h2, insU_mem, List.mem_cons]
      constructor
      · rintro (h | h | h)
        · exact .inl (.inr h)
        · exact .inl (.inl h)
        · exact .inr h
      · rintro ((h | h) | h)
        · exact .inr (.inl h)
        · exact .inl h
        · exact .inr (.inr h)
    · have := insU_len p xs
      rw [List.foldl_cons, List.length_cons]; omega
theorem brk_sorted (ps : List Rat) : (brk ps).Pairwise (· < ·) := (brk_facts ps [] List.Pairwise.nil).1
theorem brk_mem (ps : List Rat) (z : Rat) : z ∈ brk ps ↔ z ∈ ps := by rw [brk, (brk_facts ps [] List.Pairwise.nil).2.1]; simp
theorem brk_len (ps : List Rat) : (brk ps).length ≤ ps.length := by have := (brk_facts ps [] List.Pairwise.nil).2.2; unfold brk; simpa using this
/-- how many are less -/
def cnt (x : Rat) (xs : List Rat) : Nat := (xs.filter fun y => decide (y < x)).length
theorem cnt_le (x : Rat) (xs : List Rat) : cnt x xs ≤ xs.length := List.length_filter_le _ _
theorem cnt_cons {x y : Rat} {ys : List Rat} : cnt x (y :: ys) = if y < x then cnt x ys + 1 else cnt x ys := by
  unfold cnt
  by_cases h : y < x
  · rw [if_pos h, List.filter_cons_of_pos (by simp [h]), List.length_cons]
  · rw [if_neg h, List.filter_cons_of_neg (by simp [h])]
theorem cnt_zero {x : Rat} {ys : List Rat} (h : ∀ z ∈ ys, ¬ z < x) : cnt x ys = 0 := by
  unfold cnt
  rw [List.length_eq_zero_iff, List.filter_eq_nil_iff]
  intro a ha; simp [h a ha]
/-- in ascending lists the lesser ones stand first -/
theorem cnt_at (x : Rat) : ∀ xs : List Rat, xs.Pairwise (· < ·) → (∀ j y, xs[j]? = some y → (y < x ↔ j < cnt x xs)) ∧
    (x ∈ xs → xs[cnt x xs]? = some x ∧ insU x xs = xs) ∧ (x ∉ xs → insU x xs = xs.take (cnt x xs) ++ [x] ++ xs.drop (cnt x xs))
  | [], _ => ⟨by simp, by simp, fun _ => by simp [insU, cnt]⟩
  | y :: ys, h => by
    rw [List.pairwise_cons] at h
    obtain ⟨i1, i2, i3⟩ := cnt_at x ys h.2
    by_cases g : y < x
    · rw [cnt_cons, if_pos g]
      refine ⟨fun j z hz => ?_, fun hm => ?_, fun hm => ?_⟩
      · cases j with
        | zero => simp at hz; subst hz; exact ⟨fun _ => by omega, fun _ => g⟩
        | succ j => rw [List.getElem?_cons_succ] at hz; rw [i1 j z hz]; omega
      · rcases List.mem_cons.mp hm with rfl | hm
        · exact absurd g (by grind)
        · obtain ⟨k1, k2⟩ := i2 hm
          refine ⟨by rw [List.getElem?_cons_succ]; exact k1, ?_⟩
          unfold insU; rw [if_pos g, k2]
      · unfold insU
        rw [if_pos g, i3 fun q => hm (List.mem_cons_of_mem _ q)]; simp
    · have z0 : cnt x ys = 0 := cnt_zero fun z hz => by have := h.1 z hz; grind
      rw [cnt_cons, if_neg g, z0]
      refine ⟨fun j z hz => ⟨fun q => ?_, fun q => absurd q (by omega)⟩, fun hm => ?_, fun hm => ?_⟩
      · exfalso
        cases j with
        | zero => simp at hz; subst hz; exact g q
        | succ j =>
          rw [List.getElem?_cons_succ] at hz
          have := h.1 z (List.mem_of_getElem? hz); grind
      · rcases List.mem_cons.mp hm with rfl | hm
        · refine ⟨rfl, ?_⟩
          unfold insU; rw [if_neg g, if_pos rfl]
        · have := h.1 x hm; exact absurd this g
      · unfold insU
        rw [if_neg g, if_neg (fun e : y = x => hm (by rw [e]; exact List.mem_cons_self))]; simp
/-! pieces -/
theorem gap : ∀ (bs : List Rat), bs.Pairwise (· < ·) → ∀ q ∈ bs.zip bs.tail, q.1 < q.2 ∧ q.1 ∈ bs ∧ q.2 ∈ bs ∧ ∀ z ∈ bs, z ≤ q.1 ∨ q.2 ≤ z
  | [], _, q, hq => by simp at hq
  | [b], _, q, hq => by simp at hq
  | b :: c :: bs, h, q, hq => by
    rw [List.tail_cons, List.zip_cons_cons] at hq
    have h' := h
    rw [List.pairwise_cons] at h
    rcases List.mem_cons.mp hq with rfl | hq
    · refine ⟨h.1 c List.mem_cons_self, List.mem_cons_self, List.mem_cons_of_mem _ List.mem_cons_self, fun z hz => ?_⟩
      rcases List.mem_cons.mp hz with rfl | hz
      · exact .inl Rat.le_refl
      · rcases List.mem_cons.mp hz with rfl | hz
        · exact .inr Rat.le_refl
        · exact .inr (Rat.le_of_lt ((List.pairwise_cons.mp h.2).1 z hz))
    · obtain ⟨k1, k2, k3, k4⟩ := gap (c :: bs) h.2 q (by rw [List.tail_cons]; exact hq)
      refine ⟨k1, List.mem_cons_of_mem _ k2, List.mem_cons_of_mem _ k3, fun z hz => ?_⟩
      rcases List.mem_cons.mp hz with rfl | hz
      · have := h.1 q.1 k2; exact .inl (Rat.le_of_lt this)
      · exact k4 z hz
theorem piece_at {x : Rat} : ∀ (bs : List Rat) (b : Rat), (b :: bs).Pairwise (· < ·) → b ≤ x → (∃ z ∈ bs, x ≤ z) → ∃ pre q post, (b :: bs).zip bs = pre ++ q :: post ∧ (∀ r ∈ pre, r.2 < x) ∧ ¬ q.2 < x ∧ q.1 ≤ x
  | [], b, _, _, h => by obtain ⟨z, hz, _⟩ := h; cases hz
  | c :: bs, b, hs, hb, h => by
    rw [List.zip_cons_cons]
    by_cases g : c < x
    · have hs2 := (List.pairwise_cons.mp hs).2
      obtain ⟨z, hz, hzx⟩ := h
      have hz' : z ∈ bs := by
        rcases List.mem_cons.mp hz with rfl | hz
        · exact absurd g (by grind)
        · exact hz
      obtain ⟨pre, q, post, e, h1, h2, h3⟩ := piece_at bs c hs2 (Rat.le_of_lt g) ⟨z, hz', hzx⟩
      refine ⟨(b, c) :: pre, q, post, by rw [e]; rfl, fun r hr => ?_, h2, h3⟩
      rcases List.mem_cons.mp hr with rfl | hr
      · exact g
      · exact h1 r hr
    · exact ⟨[], (b, c), _, rfl, by simp, g, hb⟩
end Bm
end Lw
set_option Elab.async false
set_option linter.all false
set_option maxRecDepth 100000
set_option maxHeartbeats 4000000
namespace Lw
open PySem PySem.Spec PyProof.Rows L2 Dn
def b_slopes : SM := sSeq (sAsgF [] (gN 4) (mFrz (mLc [10, 11] (mIt itD (mV 2)) (gTL 2 (gsC (gN 10) (gsC (gN 11) (gsN)))) (tYesM) (mCall m_over (aCons (mV 11) (aCons (mV 3) (aNil))))))) (sSeq (sAsgF [] (gN 5) (mCall m_minus (aCons (mOp dIx (mV 1) (mC (.int 0))) (aCons (mOp dIx (mV 0) (mC (.int 0))) (aNil))))) (sSeq (sAsgF [] (gN 6) (mCall m_minus (aCons (mOp dIx (mV 1) (mC (.int 1))) (aCons (mOp dIx (mV 0) (mC (.int 1))) (aNil))))) (sSeq (sFor [] (gTL 2 (gsC (gTL 2 (gsC (gN 9) (gsC (gN 10) (gsN)))) (gsC (gN 8) (gsN)))) (mRng zipI (aCons (mV 2) (aCons (mV 4) (aNil)))) (sAsgF [] (gN 6) (mCall m_minus (aCons (mV 6) (aCons (mCall m_times (aCons (mV 8) (aCons (mCall m_minus (aCons (mOp dIx (mV 1) (mC (.int 0))) (aCons (mV 9) (aNil)))) (aNil)))) (aNil)))))) (sSeq (sOwn [] 7 (mLstL (aCons (mCall m_over (aCons (mV 6) (aCons (mV 5) (aNil)))) (aNil)))) (sSeq (sFor [] (gN 8) (mIt itD (mV 4)) (sAppS 7 (mCall m_plus (aCons (mOp dIx (mV 7) (mUn dNeg (mC (.int 1)))) (aCons (mV 8) (aNil)))))) (sRetO 7))))))
def m_slopes : List D → Option (List D) := runL 12 b_slopes
def b_points : SM := sSeq (sAsgF [] (gN 4) (mFrz (mCallL m_slopes (aCons (mV 0) (aCons (mV 1) (aCons (mV 2) (aCons (mV 3) (aNil)))))))) (sSeq (sOwn [] 5 (mLstL (aCons (mV 0) (aNil)))) (sSeq (sFor [] (gTL 2 (gsC (gTL 2 (gsC (gN 8) (gsC (gN 9) (gsN)))) (gsC (gN 6) (gsN)))) (mRng zipF (aCons (mV 2) (aCons (mV 4) (aNil)))) (sSeq (sAsgS (gN 7) (mOp dIx (mV 5) (mUn dNeg (mC (.int 1))))) (sAppF [] 5 (mTup (aCons (mV 8) (aCons (mCall m_plus (aCons (mOp dIx (mV 7) (mC (.int 1))) (aCons (mCall m_times (aCons (mV 6) (aCons (mCall m_minus (aCons (mV 8) (aCons (mOp dIx (mV 7) (mC (.int 0))) (aNil)))) (aNil)))) (aNil)))) (aNil))))))) (sSeq (sAppF [] 5 (mV 1)) (sRetO 5))))
def m_points : List D → Option (List D) := runL 10 b_points
def b_height_at : SM := sSeq (sAsgF [] (gN 5) (mFrz (mCallL m_points (aCons (mV 0) (aCons (mV 1) (aCons (mV 2) (aCons (mV 3) (aNil)))))))) (sSeq (sFor [] (gTL 2 (gsC (gN 6) (gsC (gN 7) (gsN)))) (mRng zipF (aCons (mV 5) (aCons (mSl (mV 5) (oSome (mC (.int 1))) (oNo)) (aNil)))) (sIf (mAnd (mNot (mTru (mCall m_less (aCons (mV 4) (aCons (mOp dIx (mV 6) (mC (.int 0))) (aNil)))))) (mNot (mTru (mCall m_less (aCons (mOp dIx (mV 7) (mC (.int 0))) (aCons (mV 4) (aNil))))))) (sSeq (sAsgF [] (gN 8) (mCall m_over (aCons (mCall m_minus (aCons (mOp dIx (mV 7) (mC (.int 1))) (aCons (mOp dIx (mV 6) (mC (.int 1))) (aNil)))) (aCons (mCall m_minus (aCons (mOp dIx (mV 7) (mC (.int 0))) (aCons (mOp dIx (mV 6) (mC (.int 0))) (aNil)))) (aNil))))) (sRetF [] (mCall m_plus (aCons (mOp dIx (mV 6) (mC (.int 1))) (aCons (mCall m_times (aCons (mV 8) (aCons (mCall m_minus (aCons (mV 4) (aCons (mOp dIx (mV 6) (mC (.int 0))) (aNil)))) (aNil)))) (aNil)))))) (sNil))) (sRetF [] (mC .non)))
def m_height_at : List D → Option D := runF 9 b_height_at
def b_sag : SM := sSeq (sAsgF [] (gN 5) (mCall m_over (aCons (mCall m_minus (aCons (mOp dIx (mV 1) (mC (.int 1))) (aCons (mOp dIx (mV 0) (mC (.int 1))) (aNil)))) (aCons (mCall m_minus (aCons (mOp dIx (mV 1) (mC (.int 0))) (aCons (mOp dIx (mV 0) (mC (.int 0))) (aNil)))) (aNil))))) (sSeq (sAsgF [] (gN 6) (mCall m_plus (aCons (mOp dIx (mV 0) (mC (.int 1))) (aCons (mCall m_times (aCons (mV 5) (aCons (mCall m_minus (aCons (mV 4) (aCons (mOp dIx (mV 0) (mC (.int 0))) (aNil)))) (aNil)))) (aNil))))) (sRetF [] (mCall m_minus (aCons (mV 6) (aCons (mCall m_height_at (aCons (mV 0) (aCons (mV 1) (aCons (mV 2) (aCons (mV 3) (aCons (mV 4) (aNil))))))) (aNil))))))
def m_sag : List D → Option D := runF 7 b_sag
def b_greatest_sag : SM := sSeq (sAsgF [] (gN 4) (mC .non)) (sSeq (sFor [] (gTL 2 (gsC (gN 5) (gsC (gN 6) (gsN)))) (mIt itD (mV 2)) (sSeq (sAsgF [] (gN 7) (mCall m_sag (aCons (mV 0) (aCons (mV 1) (aCons (mV 2) (aCons (mV 3) (aCons (mV 5) (aNil)))))))) (sIf (mOr (mTst (mOp dIs (mV 4) (mC .non))) (mTru (mCall m_less (aCons (mOp dIx (mV 4) (mC (.int 0))) (aCons (mV 7) (aNil)))))) (sAsgF [] (gN 4) (mTup (aCons (mV 7) (aCons (mV 5) (aNil))))) (sNil)))) (sRetF [] (mV 4)))
def m_greatest_sag : List D → Option D := runF 8 b_greatest_sag
def b_pull_through : SM := sSeq (sAsgF [] (gN 4) (mCall m_sag (aCons (mV 0) (aCons (mV 1) (aCons (mV 2) (aCons (mTup (aCons (mC (.int 1)) (aCons (mC (.int 1)) (aNil)))) (aCons (mOp dIx (mV 3) (mC (.int 0))) (aNil)))))))) (sSeq (sAsgF [] (gN 5) (mCall m_over (aCons (mCall m_minus (aCons (mOp dIx (mV 1) (mC (.int 1))) (aCons (mOp dIx (mV 0) (mC (.int 1))) (aNil)))) (aCons (mCall m_minus (aCons (mOp dIx (mV 1) (mC (.int 0))) (aCons (mOp dIx (mV 0) (mC (.int 0))) (aNil)))) (aNil))))) (sSeq (sAsgF [] (gN 6) (mCall m_minus (aCons (mCall m_plus (aCons (mOp dIx (mV 0) (mC (.int 1))) (aCons (mCall m_times (aCons (mV 5) (aCons (mCall m_minus (aCons (mOp dIx (mV 3) (mC (.int 0))) (aCons (mOp dIx (mV 0) (mC (.int 0))) (aNil)))) (aNil)))) (aNil)))) (aCons (mOp dIx (mV 3) (mC (.int 1))) (aNil))))) (sSeq (sIf (mOr (mTst (mOp dEq (mV 6) (mC c_NOUGHT))) (mTst (mOp dEq (mV 4) (mC c_NOUGHT)))) (sRetF [] (mC .non)) (sNil)) (sSeq (sAsgF [] (gN 7) (mCall m_over (aCons (mV 4) (aCons (mV 6) (aNil))))) (sRetF [] (mIte (mTru (mCall m_less (aCons (mC c_NOUGHT) (aCons (mV 7) (aNil))))) (mV 7) (mC .non)))))))
def m_pull_through : List D → Option D := runF 8 b_pull_through
def b_loads_of : SM := sSeq (sOwn [] 2 (mLstL (aNil))) (sSeq (sFor [] (gTL 3 (gsC (gN 3) (gsC (gN 4) (gsC (gN 5) (gsN))))) (mRng zipF3 (aCons (mV 0) (aCons (mSl (mV 0) (oSome (mC (.int 1))) (oNo)) (aCons (mSl (mV 0) (oSome (mC (.int 2))) (oNo)) (aNil))))) (sSeq (sAsgF [] (gN 6) (mCall m_over (aCons (mCall m_minus (aCons (mOp dIx (mV 4) (mC (.int 1))) (aCons (mOp dIx (mV 3) (mC (.int 1))) (aNil)))) (aCons (mCall m_minus (aCons (mOp dIx (mV 4) (mC (.int 0))) (aCons (mOp dIx (mV 3) (mC (.int 0))) (aNil)))) (aNil))))) (sSeq (sAsgF [] (gN 7) (mCall m_over (aCons (mCall m_minus (aCons (mOp dIx (mV 5) (mC (.int 1))) (aCons (mOp dIx (mV 4) (mC (.int 1))) (aNil)))) (aCons (mCall m_minus (aCons (mOp dIx (mV 5) (mC (.int 0))) (aCons (mOp dIx (mV 4) (mC (.int 0))) (aNil)))) (aNil))))) (sAppF [] 2 (mTup (aCons (mOp dIx (mV 4) (mC (.int 0))) (aCons (mCall m_times (aCons (mV 1) (aCons (mCall m_minus (aCons (mV 7) (aCons (mV 6) (aNil)))) (aNil)))) (aNil)))))))) (sRetO 2))
def m_loads_of : List D → Option (List D) := runL 8 b_loads_of
def b_end_pulls : SM := sSeq (sAsgF [] (gN 4) (mFrz (mCallL m_slopes (aCons (mV 0) (aCons (mV 1) (aCons (mV 2) (aCons (mV 3) (aNil)))))))) (sRetF [] (mTup (aCons (mCall m_minus (aCons (mC c_NOUGHT) (aCons (mCall m_times (aCons (mV 3) (aCons (mOp dIx (mV 4) (mC (.int 0))) (aNil)))) (aNil)))) (aCons (mCall m_times (aCons (mV 3) (aCons (mOp dIx (mV 4) (mUn dNeg (mC (.int 1)))) (aNil)))) (aNil)))))
def m_end_pulls : List D → Option D := runF 5 b_end_pulls
def b_whole_load : SM := sRetF [] (mCall m_sum_of (aCons (mFrz (mLc [1, 2] (mIt itD (mV 0)) (gTL 2 (gsC (gN 1) (gsC (gN 2) (gsN)))) (tYesM) (mV 2))) (aNil)))
def m_whole_load : List D → Option D := runF 3 b_whole_load
def b__law_small_told : SM := sRetF [] (mCallP 0 m__law_pick (aCons (mFrz (mLstL (aCons (mTup (aCons (mOp dSub (mCallP 0 m__law_draw (aCons (mC (.int 9)) (aNil))) (mC (.int 4))) (aCons (mC (.int 1)) (aNil)))) (aCons (mTup (aCons (mOp dSub (mCallP 0 m__law_draw (aCons (mC (.int 5)) (aNil))) (mC (.int 2))) (aCons (mC (.int 1)) (aNil)))) (aCons (mCall m__law_ratio (aCons (mOp dSub (mCallP 0 m__law_draw (aCons (mC (.int 9)) (aNil))) (mC (.int 4))) (aCons (mOp dAdd (mC (.int 1)) (mCallP 0 m__law_draw (aCons (mC (.int 3)) (aNil)))) (aNil)))) (aNil)))))) (aNil)))
def m__law_small_told : Pl → List D → Option (D × Pl) := runP 1 b__law_small_told
def b__law_hung : SM := sSeq (sAsgF [] (gN 1) (mTup (aCons (mCallP 0 m__law_small_told (aNil)) (aCons (mCallP 0 m__law_small_told (aNil)) (aNil))))) (sSeq (sAsgF [] (gN 2) (mOp dAdd (mC (.int 2)) (mCallP 0 m__law_draw (aCons (mC (.int 8)) (aNil))))) (sSeq (sAsgF [] (gN 3) (mTup (aCons (mCall m__law_add (aCons (mOp dIx (mV 1) (mC (.int 0))) (aCons (mTup (aCons (mV 2) (aCons (mC (.int 1)) (aNil)))) (aNil)))) (aCons (mCallP 0 m__law_small_told (aNil)) (aNil))))) (sSeq (sOwn [] 4 (mLstL (aNil))) (sSeq (sFor [] (gN 5) (mRng rng2 (aCons (mC (.int 1)) (aCons (mOp dMul (mC (.int 4)) (mV 2)) (aNil)))) (sIf (mAnd (mTst (mOp dEq (mCallP 0 m__law_draw (aCons (mC (.int 8)) (aNil))) (mC (.int 0)))) (mTst (mOp dLt (mCall gLen (aCons (mV 4) (aNil))) (mC (.int 6))))) (sAppF [] 4 (mTup (aCons (mCall m__law_add (aCons (mOp dIx (mV 1) (mC (.int 0))) (aCons (mCall m__law_ratio (aCons (mV 5) (aCons (mC (.int 4)) (aNil)))) (aNil)))) (aCons (mCall m__law_ratio (aCons (mCallP 0 m__law_draw (aCons (mC (.int 9)) (aNil))) (aCons (mOp dAdd (mC (.int 1)) (mCallP 0 m__law_draw (aCons (mC (.int 2)) (aNil)))) (aNil)))) (aNil))))) (sNil))) (sRetF [4] (mTup (aCons (mV 1) (aCons (mV 3) (aCons (mV 4) (aNil))))))))))
def m__law_hung : Pl → List D → Option (D × Pl) := runP 6 b__law_hung
def b__law_moment : SM := sSeq (sAsgF [] (gN 4) (mCall m__law_sub (aCons (mOp dIx (mV 1) (mC (.int 0))) (aCons (mOp dIx (mV 0) (mC (.int 0))) (aNil))))) (sSeq (sAsgF [] (gN 5) (mTup (aCons (mC (.int 0)) (aCons (mC (.int 1)) (aNil))))) (sSeq (sFor [] (gTL 2 (gsC (gN 7) (gsC (gN 8) (gsN)))) (mIt itD (mV 2)) (sAsgF [] (gN 5) (mCall m__law_add (aCons (mV 5) (aCons (mCall m__law_div (aCons (mCall m__law_mul (aCons (mV 8) (aCons (mCall m__law_sub (aCons (mOp dIx (mV 1) (mC (.int 0))) (aCons (mV 7) (aNil)))) (aNil)))) (aCons (mV 4) (aNil)))) (aNil)))))) (sSeq (sAsgF [] (gN 6) (mCall m__law_mul (aCons (mV 5) (aCons (mCall m__law_sub (aCons (mV 3) (aCons (mOp dIx (mV 0) (mC (.int 0))) (aNil)))) (aNil))))) (sSeq (sFor [] (gTL 2 (gsC (gN 7) (gsC (gN 8) (gsN)))) (mIt itD (mV 2)) (sIf (mTst (mOp dGt (mOp dIx (mCall m__law_sub (aCons (mV 3) (aCons (mV 7) (aNil)))) (mC (.int 0))) (mC (.int 0)))) (sAsgF [] (gN 6) (mCall m__law_sub (aCons (mV 6) (aCons (mCall m__law_mul (aCons (mV 8) (aCons (mCall m__law_sub (aCons (mV 3) (aCons (mV 7) (aNil)))) (aNil)))) (aNil))))) (sNil))) (sRetF [] (mV 6))))))
def m__law_moment : List D → Option D := runF 9 b__law_moment
def b__law_line_own : SM := sSeq (sAsgF [] (gN 3) (mCall m__law_div (aCons (mCall m__law_sub (aCons (mOp dIx (mV 1) (mC (.int 1))) (aCons (mOp dIx (mV 0) (mC (.int 1))) (aNil)))) (aCons (mCall m__law_sub (aCons (mOp dIx (mV 1) (mC (.int 0))) (aCons (mOp dIx (mV 0) (mC (.int 0))) (aNil)))) (aNil))))) (sRetF [] (mCall m__law_add (aCons (mOp dIx (mV 0) (mC (.int 1))) (aCons (mCall m__law_mul (aCons (mV 3) (aCons (mCall m__law_sub (aCons (mV 2) (aCons (mOp dIx (mV 0) (mC (.int 0))) (aNil)))) (aNil)))) (aNil)))))
def m__law_line_own : List D → Option D := runF 4 b__law_line_own
def b_law : SM := sSeq (sPnew 1 (mCallL m__law_pool (aCons (mV 0) (aNil)))) (sSeq (sAsgF [] (gTL 3 (gsC (gN 12) (gsC (gN 13) (gsC (gN 14) (gsN))))) (mCallP 1 m__law_hung (aNil))) (sSeq (sAsgF [] (gN 2) (mCall m__law_ratio (aCons (mOp dAdd (mC (.int 1)) (mCallP 1 m__law_draw (aCons (mC (.int 9)) (aNil)))) (aCons (mOp dAdd (mC (.int 1)) (mCallP 1 m__law_draw (aCons (mC (.int 3)) (aNil)))) (aNil))))) (sSeq (sAsgF [] (gN 3) (mFrz (mCallL gList (aCons (mV 14) (aNil))))) (sSeq (sAsgF [] (gN 4) (mFrz (mCallL m_points (aCons (mV 12) (aCons (mV 13) (aCons (mV 3) (aCons (mV 2) (aNil)))))))) (sSeq (sOwn [] 5 (mLstL (aNil))) (sSeq (sFor [] (gTL 2 (gsC (gN 15) (gsC (gN 16) (gsN)))) (mIt itD (mOp dAdd (mOp dAdd (mFrz (mLstL (aCons (mTup (aCons (mOp dIx (mV 12) (mC (.int 0))) (aCons (mC .non) (aNil)))) (aNil)))) (mV 14)) (mFrz (mLstL (aCons (mTup (aCons (mOp dIx (mV 13) (mC (.int 0))) (aCons (mC .non) (aNil)))) (aNil)))))) (sAppF [] 5 (mTup (aCons (mV 15) (aCons (mCall m__law_sub (aCons (mCall m__law_line_own (aCons (mV 12) (aCons (mV 13) (aCons (mV 15) (aNil))))) (aCons (mCall m__law_div (aCons (mCall m__law_moment (aCons (mV 12) (aCons (mV 13) (aCons (mV 14) (aCons (mV 15) (aNil)))))) (aCons (mV 2) (aNil)))) (aNil)))) (aNil)))))) (sSeq (sIf (mOr (mNot (mTru (mCall (m__law_same 20) (aCons (mV 4) (aCons (mV 5) (aNil)))))) (mTst (mOp dNe (mV 3) (mV 14)))) (sRetF [] (mC (.bl false))) (sNil)) (sSeq (sAsgLS 6 (mLc [7] (mRng rng1 (aCons (mOp dSub (mCall gLen (aCons (mV 5) (aNil))) (mC (.int 1))) (aNil))) (gN 7) (tYesM) (mCall m__law_div (aCons (mCall m__law_sub (aCons (mOp dIx (mOp dIx (mV 5) (mOp dAdd (mV 7) (mC (.int 1)))) (mC (.int 1))) (aCons (mOp dIx (mOp dIx (mV 5) (mV 7)) (mC (.int 1))) (aNil)))) (aCons (mCall m__law_sub (aCons (mOp dIx (mOp dIx (mV 5) (mOp dAdd (mV 7) (mC (.int 1)))) (mC (.int 0))) (aCons (mOp dIx (mOp dIx (mV 5) (mV 7)) (mC (.int 0))) (aNil)))) (aNil)))))) (sSeq (sIf (mNot (mTru (mCall (m__law_same 20) (aCons (mFrz (mCallL m_slopes (aCons (mV 12) (aCons (mV 13) (aCons (mV 3) (aCons (mV 2) (aNil))))))) (aCons (mV 6) (aNil)))))) (sRetF [] (mC (.bl false))) (sNil)) (sSeq (sFor [] (gN 7) (mRng rng1 (aCons (mCall gLen (aCons (mV 14) (aNil))) (aNil))) (sIf (mTst (mOp dNe (mCall m__law_sub (aCons (mOp dIx (mV 6) (mOp dAdd (mV 7) (mC (.int 1)))) (aCons (mOp dIx (mV 6) (mV 7)) (aNil)))) (mCall m__law_div (aCons (mOp dIx (mOp dIx (mV 14) (mV 7)) (mC (.int 1))) (aCons (mV 2) (aNil)))))) (sRetF [] (mC (.bl false))) (sNil))) (sSeq (sIf (mNot (mTru (mCall (m__law_same 20) (aCons (mFrz (mCallL m_loads_of (aCons (mFrz (mCallL gList (aCons (mV 5) (aNil)))) (aCons (mV 2) (aNil))))) (aCons (mV 14) (aNil)))))) (sRetF [] (mC (.bl false))) (sNil)) (sSeq (sAsgF [] (gN 8) (mTup (aCons (mC (.int 0)) (aCons (mC (.int 1)) (aNil))))) (sSeq (sFor [] (gTL 2 (gsC (gN 15) (gsC (gN 16) (gsN)))) (mIt itD (mV 14)) (sAsgF [] (gN 8) (mCall m__law_add (aCons (mV 8) (aCons (mV 16) (aNil)))))) (sSeq (sAsgF [] (gN 9) (mTup (aCons (mCall m__law_sub (aCons (mTup (aCons (mC (.int 0)) (aCons (mC (.int 1)) (aNil)))) (aCons (mCall m__law_mul (aCons (mV 2) (aCons (mOp dIx (mV 6) (mC (.int 0))) (aNil)))) (aNil)))) (aCons (mCall m__law_mul (aCons (mV 2) (aCons (mOp dIx (mV 6) (mUn dNeg (mC (.int 1)))) (aNil)))) (aNil))))) (sSeq (sIf (mOr (mNot (mTru (mCall (m__law_same 20) (aCons (mFrz (mLstL (aCons (mCall m_end_pulls (aCons (mV 12) (aCons (mV 13) (aCons (mV 3) (aCons (mV 2) (aNil)))))) (aCons (mCall m_whole_load (aCons (mV 3) (aNil))) (aNil))))) (aCons (mFrz (mLstL (aCons (mV 9) (aCons (mV 8) (aNil))))) (aNil)))))) (mTst (mOp dNe (mCall m__law_add (aCons (mOp dIx (mV 9) (mC (.int 0))) (aCons (mOp dIx (mV 9) (mC (.int 1))) (aNil)))) (mV 8)))) (sRetF [] (mC (.bl false))) (sNil)) (sSeq (sAsgF [] (gN 10) (mC .non)) (sSeq (sFor [] (gTL 2 (gsC (gN 15) (gsC (gN 16) (gsN)))) (mIt itD (mV 14)) (sSeq (sAsgF [] (gN 17) (mCall m__law_div (aCons (mCall m__law_moment (aCons (mV 12) (aCons (mV 13) (aCons (mV 14) (aCons (mV 15) (aNil)))))) (aCons (mV 2) (aNil))))) (sAsgF [] (gN 10) (mIte (mOr (mTst (mOp dIs (mV 10) (mC .non))) (mTst (mOp dGt (mOp dIx (mCall m__law_sub (aCons (mV 17) (aCons (mOp dIx (mV 10) (mC (.int 0))) (aNil)))) (mC (.int 0))) (mC (.int 0))))) (mTup (aCons (mV 17) (aCons (mV 15) (aNil)))) (mV 10))))) (sSeq (sIf (mNot (mTru (mCall (m__law_same 20) (aCons (mCall m_greatest_sag (aCons (mV 12) (aCons (mV 13) (aCons (mV 3) (aCons (mV 2) (aNil)))))) (aCons (mV 10) (aNil)))))) (sRetF [] (mC (.bl false))) (sNil)) (sSeq (sFor [] (gN 11) (mRng rng1 (aCons (mC (.int 4)) (aNil))) (sSeq (sDrop (mCallP 1 m__law_next (aNil))) (sSeq (sAsgF [] (gN 18) (mCall m__law_sub (aCons (mOp dIx (mV 13) (mC (.int 0))) (aCons (mOp dIx (mV 12) (mC (.int 0))) (aNil))))) (sSeq (sAsgF [] (gN 19) (mCall m__law_add (aCons (mOp dIx (mV 12) (mC (.int 0))) (aCons (mCall m__law_mul (aCons (mV 18) (aCons (mCall m__law_ratio (aCons (mOp dAdd (mC (.int 1)) (mCallP 1 m__law_draw (aCons (mC (.int 30)) (aNil)))) (aCons (mC (.int 32)) (aNil)))) (aNil)))) (aNil))))) (sSeq (sAsgF [] (gN 20) (mCall m__law_moment (aCons (mV 12) (aCons (mV 13) (aCons (mV 14) (aCons (mV 19) (aNil))))))) (sSeq (sAsgF [] (gN 21) (mCall m__law_line_own (aCons (mV 12) (aCons (mV 13) (aCons (mV 19) (aNil)))))) (sSeq (sAsgF [] (gN 22) (mCall m__law_sub (aCons (mV 21) (aCons (mCall m__law_div (aCons (mV 20) (aCons (mV 2) (aNil)))) (aNil))))) (sSeq (sIf (mNot (mTru (mCall (m__law_same 20) (aCons (mFrz (mLstL (aCons (mCall m_height_at (aCons (mV 12) (aCons (mV 13) (aCons (mV 3) (aCons (mV 2) (aCons (mV 19) (aNil))))))) (aCons (mCall m_sag (aCons (mV 12) (aCons (mV 13) (aCons (mV 3) (aCons (mV 2) (aCons (mV 19) (aNil))))))) (aNil))))) (aCons (mFrz (mLstL (aCons (mV 22) (aCons (mCall m__law_div (aCons (mV 20) (aCons (mV 2) (aNil)))) (aNil))))) (aNil)))))) (sRetF [] (mC (.bl false))) (sNil)) (sSeq (sAsgF [] (gN 23) (mCallP 1 m__law_pick (aCons (mFrz (mLstL (aCons (mV 22) (aCons (mCallP 1 m__law_small_told (aNil)) (aCons (mV 21) (aNil)))))) (aNil)))) (sSeq (sAsgF [] (gN 24) (mCall m__law_sub (aCons (mV 21) (aCons (mV 23) (aNil))))) (sSeq (sAsgF [] (gN 25) (mCall m_pull_through (aCons (mV 12) (aCons (mV 13) (aCons (mV 3) (aCons (mTup (aCons (mV 19) (aCons (mV 23) (aNil)))) (aNil))))))) (sSeq (sAsgF [] (gN 26) (mAndV (mOp dNe (mOp dIx (mV 24) (mC (.int 0))) (mC (.int 0))) (mOp dGt (mOp dMul (mOp dIx (mV 20) (mC (.int 0))) (mOp dIx (mV 24) (mC (.int 0)))) (mC (.int 0))))) (sSeq (sIf (mNot (mTru (mCall (m__law_same 20) (aCons (mV 25) (aCons (mIte (mTru (mV 26)) (mCall m__law_div (aCons (mV 20) (aCons (mV 24) (aNil)))) (mC .non)) (aNil)))))) (sRetF [] (mC (.bl false))) (sNil)) (sIf (mAnd (mTst (mOp dIsNot (mV 25) (mC .non))) (mTst (mOp dNe (mCall m_height_at (aCons (mV 12) (aCons (mV 13) (aCons (mV 3) (aCons (mV 25) (aCons (mV 19) (aNil))))))) (mV 23)))) (sRetF [] (mC (.bl false))) (sNil))))))))))))))) (sRetF [] (mOp dIs (mCall m_height_at (aCons (mV 12) (aCons (mV 13) (aCons (mV 3) (aCons (mV 2) (aCons (mCall m__law_sub (aCons (mOp dIx (mV 12) (mC (.int 0))) (aCons (mTup (aCons (mC (.int 1)) (aCons (mC (.int 1)) (aNil)))) (aNil)))) (aNil))))))) (mC .non))))))))))))))))))))))
def m_law : List D → Option D := runF 27 b_law
end Lw
set_option Elab.async false
set_option linter.all false
set_option maxRecDepth 100000
set_option maxHeartbeats 4000000
namespace Lw
open PySem PySem.Spec PyProof.Rows L2 Dn
namespace N12
/-! a hung rope -/
abbrev Lo := Rat × Rat
def sf (g : Lo → Rat) : List Lo → Rat
  | [] => 0
  | l :: ls => g l + sf g ls
theorem sf_congr {g h : Lo → Rat} : ∀ {ls : List Lo}, (∀ l ∈ ls, g l = h l) → sf g ls = sf h ls
  | [], _ => rfl
  | l :: ls, e => by
    show g l + sf g ls = h l + sf h ls
    rw [e l List.mem_cons_self, sf_congr fun z hz => e z (List.mem_cons_of_mem _ hz)]
theorem sf_append (g : Lo → Rat) (ms : List Lo) : ∀ ls : List Lo, sf g (ls ++ ms) = sf g ls + sf g ms
  | [] => by show sf g ms = 0 + sf g ms; grind
  | l :: ls => by
    show g l + sf g (ls ++ ms) = g l + sf g ls + sf g ms
    rw [sf_append g ms ls]; grind
theorem sf_mul (k : Rat) (g : Lo → Rat) : ∀ ls : List Lo, sf (fun l => k * g l) ls = k * sf g ls
  | [] => by show (0 : Rat) = k * 0; grind
  | l :: ls => by
    show k * g l + sf (fun l => k * g l) ls = k * (g l + sf g ls)
    rw [sf_mul k g ls]; grind
theorem sf_sub (g h : Lo → Rat) : ∀ ls : List Lo, sf (fun l => g l - h l) ls = sf g ls - sf h ls
  | [] => by show (0 : Rat) = 0 - 0; grind
  | l :: ls => by
    show g l - h l + sf (fun l => g l - h l) ls = (g l + sf g ls) - (h l + sf h ls)
    rw [sf_sub g h ls]; grind
theorem sf_zero {g : Lo → Rat} : ∀ {ls : List Lo}, (∀ l ∈ ls, g l = 0) → sf g ls = 0
  | [], _ => rfl
  | l :: ls, h => by
    show g l + sf g ls = 0
    rw [h l List.mem_cons_self, sf_zero fun z hz => h z (List.mem_cons_of_mem _ hz)]; grind
/-- ends, and loads between, ascending -/
structure Rp where
  x0 : Rat
  y0 : Rat
  x1 : Rat
  y1 : Rat
  ls : List Lo
structure Rp.Ok (r : Rp) : Prop where
  lt : r.x0 < r.x1
  bt : ∀ l ∈ r.ls, r.x0 < l.1 ∧ l.1 < r.x1
  asc : r.ls.Pairwise fun a b => a.1 < b.1
variable (r : Rp) (P : Rat)
def Rp.w : Rat := r.x1 - r.x0
def Rp.sup : Rat := sf (fun l => l.2 * (r.x1 - l.1)) r.ls / r.w
def Rp.M (x : Rat) : Rat := r.sup * (x - r.x0) - sf (fun l => if l.1 < x then l.2 * (x - l.1) else 0) r.ls
def Rp.line (x : Rat) : Rat := r.y0 + (r.y1 - r.y0) / r.w * (x - r.x0)
def Rp.g (x : Rat) : Rat := r.line x - r.M x / P
def Rp.s0 : Rat := ((r.y1 - r.y0) - sf (fun l => l.2 / P * (r.x1 - l.1)) r.ls) / r.w
def sls (P : Rat) : Rat → List Lo → List Rat
  | s, [] => [s]
  | s, l :: ls => s :: sls P (s + l.2 / P) ls
def ptl (P : Rat) : Rat → Rat → Rat → List Lo → List (Rat × Rat)
  | _, _, _, [] => []
  | x, y, s, l :: ls => (l.1, y + s * (l.1 - x)) :: ptl P l.1 (y + s * (l.1 - x)) (s + l.2 / P) ls
def Rp.xs : List Rat := r.x0 :: (r.ls.map (·.1) ++ [r.x1])
def Rp.pts : List (Rat × Rat) := (r.x0, r.y0) :: (ptl P r.x0 r.y0 (r.s0 P) r.ls ++ [(r.x1, r.y1)])
variable {r P}
theorem w_ne (h : r.Ok) : r.w ≠ 0 := by have := h.lt; unfold Rp.w; grind
theorem M_x0 (h : r.Ok) : r.M r.x0 = 0 := by
  unfold Rp.M
  rw [sf_zero fun l hl => by have := h.bt l hl; rw [if_neg (by grind)]]
  grind
theorem M_x1 (h : r.Ok) : r.M r.x1 = 0 := by
  unfold Rp.M
  rw [sf_congr (h := fun l => l.2 * (r.x1 - l.1)) fun l hl => by have := h.bt l hl; rw [if_pos (by grind)]]
  have w := w_ne h
  unfold Rp.sup
  have : r.x1 - r.x0 = r.w := rfl
  rw [this]
  generalize sf (fun l => l.2 * (r.x1 - l.1)) r.ls = t
  grind
theorem g_x0 (h : r.Ok) : r.g P r.x0 = r.y0 := by unfold Rp.g Rp.line; rw [M_x0 h, Rat.div_def, Rat.div_def]; grind
theorem g_x1 (h : r.Ok) : r.g P r.x1 = r.y1 := by
  have w := w_ne h
  unfold Rp.g Rp.line; rw [M_x1 h, Rat.div_def _ P]
  have : r.x1 - r.x0 = r.w := rfl
  rw [this]; grind
/-- the slope behind some loads -/
def Rp.sl (r : Rp) (P : Rat) (pre : List Lo) : Rat := r.s0 P + sf (fun l => l.2 / P) pre
theorem sl_eq (h : r.Ok) (pre : List Lo) : r.sl P pre = (r.y1 - r.y0) / r.w - (r.sup - sf (·.2) pre) / P := by
  unfold Rp.sl Rp.s0 Rp.sup
  have e1 : sf (fun l => l.2 / P * (r.x1 - l.1)) r.ls = P⁻¹ * sf (fun l => l.2 * (r.x1 - l.1)) r.ls := by
    rw [← sf_mul]; exact sf_congr fun l _ => by rw [Rat.div_def]; grind
  have e2 : sf (fun l => l.2 / P) pre = P⁻¹ * sf (·.2) pre := by
    rw [← sf_mul]; exact sf_congr fun l _ => by rw [Rat.div_def]; grind
  rw [e1, e2, Rat.div_def, Rat.div_def, Rat.div_def, Rat.div_def]; grind
/-- between two loads the rope is straight -/
theorem g_line (h : r.Ok) {pre rest : List Lo} (e : r.ls = pre ++ rest) {u x : Rat} (hu : ∀ l ∈ pre, l.1 ≤ u) (hx : u ≤ x) (hr : ∀ l ∈ rest, x ≤ l.1) : r.g P x = r.g P u + r.sl P pre * (x - u) := by
  have m : r.M x - r.M u = (r.sup - sf (·.2) pre) * (x - u) := by
    unfold Rp.M
    rw [e, sf_append, sf_append]
    have a1 : sf (fun l => if l.1 < x then l.2 * (x - l.1) else 0) rest = 0 := sf_zero fun l hl => by rw [if_neg (by have := hr l hl; grind)]
    have a2 : sf (fun l => if l.1 < u then l.2 * (u - l.1) else 0) rest = 0 := sf_zero fun l hl => by rw [if_neg (by have := hr l hl; grind)]
    have a3 : sf (fun l => if l.1 < x then l.2 * (x - l.1) else 0) pre - sf (fun l => if l.1 < u then l.2 * (u - l.1) else 0) pre = (x - u) * sf (·.2) pre := by
      rw [← sf_sub, ← sf_mul]
      exact sf_congr fun l hl => by
        have := hu l hl
        by_cases q : l.1 < u
        · rw [if_pos q, if_pos (by grind)]; grind
        · have q2 : l.1 = u := by grind
          rw [if_neg q]
          by_cases q3 : l.1 < x
          · rw [if_pos q3]; grind
          · rw [if_neg q3]; grind
    rw [a1, a2]
    grind
  have hm : r.M x = r.M u + (r.sup - sf (·.2) pre) * (x - u) := by grind
  rw [sl_eq h pre]
  unfold Rp.g Rp.line
  rw [hm]
  rw [Rat.div_def _ P, Rat.div_def _ P, Rat.div_def _ P]
  grind
theorem pre_lt (h : r.Ok) {pre rest : List Lo} (e : r.ls = pre ++ rest) : (∀ a ∈ pre, ∀ b ∈ rest, a.1 < b.1) := by
  have := h.asc
  rw [e, List.pairwise_append] at this
  exact this.2.2
/-- all points of the rope -/
theorem ptl_eq (h : r.Ok) : ∀ (rest pre : List Lo) (u : Rat), r.ls = pre ++ rest → (∀ l ∈ pre, l.1 ≤ u) → (∀ l ∈ rest, u ≤ l.1) → ptl P u (r.g P u) (r.sl P pre) rest = rest.map fun l => (l.1, r.g P l.1)
  | [], pre, u, _, _, _ => rfl
  | l :: rest, pre, u, e, hu, hr => by
    have asc := h.asc
    rw [e, List.pairwise_append, List.pairwise_cons] at asc
    have e2 : r.g P l.1 = r.g P u + r.sl P pre * (l.1 - u) := g_line h e hu (hr l List.mem_cons_self) fun z hz => by
      rcases List.mem_cons.mp hz with rfl | hz
      · exact Rat.le_refl
      · exact Rat.le_of_lt (asc.2.1.1 z hz)
    unfold ptl
    rw [← e2, List.map_cons]
    have e3 : r.sl P pre + l.2 / P = r.sl P (pre ++ [l]) := by
      unfold Rp.sl
      rw [sf_append]
      show _ = r.s0 P + (sf (fun l => l.2 / P) pre + (l.2 / P + 0))
      grind
    rw [e3, ptl_eq h rest (pre ++ [l]) l.1 (by rw [e, List.append_assoc]; rfl) (fun z hz => by
      rcases List.mem_append.mp hz with hz | hz
      · exact Rat.le_of_lt (asc.2.2 z hz l List.mem_cons_self)
      · rw [List.mem_singleton.mp hz]; exact Rat.le_refl) fun z hz => Rat.le_of_lt (asc.2.1.1 z hz)]
theorem sl_nil : r.sl P [] = r.s0 P := by unfold Rp.sl; show r.s0 P + 0 = _; grind
theorem pts_eq (h : r.Ok) : r.pts P = r.xs.map fun x => (x, r.g P x) := by
  unfold Rp.pts Rp.xs
  have := ptl_eq (P := P) h r.ls [] r.x0 rfl (by simp) fun l hl => Rat.le_of_lt (h.bt l hl).1
  rw [g_x0 h, sl_nil] at this
  rw [this]
  simp [g_x0 h, g_x1 h, Function.comp_def]
/-- places ascend -/
theorem xs_asc (h : r.Ok) : r.xs.Pairwise (· < ·) := by
  unfold Rp.xs
  rw [List.pairwise_cons, List.pairwise_append]
  refine ⟨fun z hz => ?_, ?_, by simp, fun a ha b hb => ?_⟩
  · rcases List.mem_append.mp hz with hz | hz
    · obtain ⟨l, hl, rfl⟩ := List.mem_map.mp hz; exact (h.bt l hl).1
    · rw [List.mem_singleton.mp hz]; exact h.lt
  · rw [List.pairwise_map]; exact h.asc
  · obtain ⟨l, hl, rfl⟩ := List.mem_map.mp ha
    rw [List.mem_singleton.mp hb]; exact (h.bt l hl).2
/-- the slopes, piece by piece -/
def dif (g : Rat → Rat) : List Rat → List Rat
  | a :: b :: bs => (g b - g a) / (b - a) :: dif g (b :: bs)
  | _ => []
theorem dif_eq (h : r.Ok) : ∀ (rest pre : List Lo) (u : Rat), r.ls = pre ++ rest → (∀ l ∈ pre, l.1 ≤ u) → (∀ l ∈ rest, u < l.1) → u < r.x1 → dif (r.g P) (u :: (rest.map (·.1) ++ [r.x1])) = sls P (r.sl P pre) rest
  | [], pre, u, e, hu, _, h1 => by
    have e2 : r.g P r.x1 = r.g P u + r.sl P pre * (r.x1 - u) := g_line h e hu (Rat.le_of_lt h1) (by simp)
    show [(r.g P r.x1 - r.g P u) / (r.x1 - u)] = [r.sl P pre]
    rw [e2]
    have : r.x1 - u ≠ 0 := by grind
    generalize r.sl P pre = s at *
    generalize r.x1 - u = d at *
    congr 1; grind
  | l :: rest, pre, u, e, hu, hr, h1 => by
    have asc := h.asc
    rw [e, List.pairwise_append, List.pairwise_cons] at asc
    have ul := hr l List.mem_cons_self
    have e2 : r.g P l.1 = r.g P u + r.sl P pre * (l.1 - u) := g_line h e hu (Rat.le_of_lt ul) fun z hz => by
      rcases List.mem_cons.mp hz with rfl | hz
      · exact Rat.le_refl
      · exact Rat.le_of_lt (asc.2.1.1 z hz)
    have e3 : r.sl P pre + l.2 / P = r.sl P (pre ++ [l]) := by
      unfold Rp.sl
      rw [sf_append]
      show _ = r.s0 P + (sf (fun l => l.2 / P) pre + (l.2 / P + 0))
      grind
    have ih := dif_eq h rest (pre ++ [l]) l.1 (by rw [e, List.append_assoc]; rfl) (fun z hz => by
      rcases List.mem_append.mp hz with hz | hz
      · exact Rat.le_of_lt (asc.2.2 z hz l List.mem_cons_self)
      · rw [List.mem_singleton.mp hz]; exact Rat.le_refl) (fun z hz => asc.2.1.1 z hz) (h.bt l (by rw [e]; simp)).2
    rw [List.map_cons, List.cons_append]
    show (r.g P l.1 - r.g P u) / (l.1 - u) :: dif (r.g P) (l.1 :: (rest.map (·.1) ++ [r.x1])) = r.sl P pre :: sls P (r.sl P pre + l.2 / P) rest
    rw [ih, e3, e2]
    have : l.1 - u ≠ 0 := by grind
    generalize r.sl P pre = s at *
    generalize l.1 - u = d at *
    congr 1; grind
theorem dif_all (h : r.Ok) : dif (r.g P) r.xs = sls P (r.s0 P) r.ls := by
  have := dif_eq (P := P) h r.ls [] r.x0 rfl (by simp) (fun l hl => (h.bt l hl).1) h.lt
  rw [sl_nil] at this
  exact this
/-- on each piece the rope is straight -/
theorem seg (h : r.Ok) : ∀ (rest pre : List Lo) (u : Rat), r.ls = pre ++ rest → (∀ l ∈ pre, l.1 ≤ u) → (∀ l ∈ rest, u < l.1) → u < r.x1 → ∀ q ∈ (u :: (rest.map (·.1) ++ [r.x1])).zip (rest.map (·.1) ++ [r.x1]), ∀ x, q.1 ≤ x → x ≤ q.2 → r.g P x = r.g P q.1 + (r.g P q.2 - r.g P q.1) / (q.2 - q.1) * (x - q.1)
  | [], pre, u, e, hu, _, h1, q, hq, x, x1, x2 => by
    have : q = (u, r.x1) := by simpa using hq
    subst this
    have e1 : r.g P r.x1 = r.g P u + r.sl P pre * (r.x1 - u) := g_line h e hu (Rat.le_of_lt h1) (by simp)
    have e2 : r.g P x = r.g P u + r.sl P pre * (x - u) := g_line h e hu x1 (by simp)
    dsimp only at *
    rw [e2, e1]
    have : r.x1 - u ≠ 0 := by grind
    generalize r.sl P pre = s at *
    generalize r.x1 - u = d at *
    grind
  | l :: rest, pre, u, e, hu, hr, h1, q, hq, x, x1, x2 => by
    have asc := h.asc
    rw [e, List.pairwise_append, List.pairwise_cons] at asc
    have ul := hr l List.mem_cons_self
    rw [List.map_cons, List.cons_append, List.zip_cons_cons] at hq
    rcases List.mem_cons.mp hq with rfl | hq
    · dsimp only at *
      have hz : ∀ z ∈ l :: rest, l.1 ≤ z.1 := fun z hz => by
        rcases List.mem_cons.mp hz with rfl | hz
        · exact Rat.le_refl
        · exact Rat.le_of_lt (asc.2.1.1 z hz)
      have e1 : r.g P l.1 = r.g P u + r.sl P pre * (l.1 - u) := g_line h e hu (Rat.le_of_lt ul) hz
      have e2 : r.g P x = r.g P u + r.sl P pre * (x - u) := g_line h e hu x1 fun z q => Rat.le_trans x2 (hz z q)
      rw [e2, e1]
      have : l.1 - u ≠ 0 := by grind
      generalize r.sl P pre = s at *
      generalize l.1 - u = d at *
      grind
    · exact seg h rest (pre ++ [l]) l.1 (by rw [e, List.append_assoc]; rfl) (fun z hz => by
        rcases List.mem_append.mp hz with hz | hz
        · exact Rat.le_of_lt (asc.2.2 z hz l List.mem_cons_self)
        · rw [List.mem_singleton.mp hz]; exact Rat.le_refl) (fun z hz => asc.2.1.1 z hz) (h.bt l (by rw [e]; simp)).2 q hq x x1 x2
theorem seg_all (h : r.Ok) {q : Rat × Rat} (hq : q ∈ r.xs.zip r.xs.tail) {x : Rat} (x1 : q.1 ≤ x) (x2 : x ≤ q.2) : r.g P x = r.g P q.1 + (r.g P q.2 - r.g P q.1) / (q.2 - q.1) * (x - q.1) :=
  seg h r.ls [] r.x0 rfl (by simp) (fun l hl => (h.bt l hl).1) h.lt q hq x x1 x2
/-- the pulls at the ends -/
theorem sls_last : ∀ (ls : List Lo) (s : Rat), (sls P s ls).getLast? = some (s + sf (fun l => l.2 / P) ls)
  | [], s => by show some s = some (s + 0); congr 1; grind
  | l :: ls, s => by
    have : sls P s (l :: ls) = s :: sls P (s + l.2 / P) ls := rfl
    rw [this, List.getLast?_cons, sls_last ls]
    show some (s + l.2 / P + sf (fun l => l.2 / P) ls) = some (s + (l.2 / P + sf (fun l => l.2 / P) ls))
    congr 1; grind
end N12
end Lw
set_option Elab.async false
set_option linter.all false
set_option maxRecDepth 100000
set_option maxHeartbeats 4000000
namespace Lw
open PySem PySem.Spec PyProof.Rows L2 Dn
namespace N12
/-! the sizes of all numbers of a rope -/
abbrev KM : Nat := 24 * 2520 * 192
structure Bd (r : Rp) : Prop where
  ok : r.Ok
  ix0 : Bm.In 6 10 r.x0
  ix1 : Bm.In 6 10 r.x1
  iy0 : Bm.In 6 6 r.y0
  iy1 : Bm.In 6 6 r.y1
  ia : ∀ l ∈ r.ls, Bm.In 12 10 l.1
  if' : ∀ l ∈ r.ls, Bm.In 2 5 l.2
  len : r.ls.length ≤ 6
  ixs : Bm.In 6 6 r.x0
  iwd : Bm.In 1 4 r.w
  iw : ∀ {N n : Nat} {a : Rat}, Bm.In N n a → Bm.In (N * 2520) (n + 12) (a / r.w)
structure Pu (P : Rat) (W m : Nat) : Prop where
  n0 : P ≠ 0
  w0 : 0 < W
  hW : W < 2 ^ 200
  hm : m ≤ 200
  sm : Sm 300 P
  dv : ∀ {N n : Nat} {a : Rat}, Bm.In N n a → Bm.In (N * W) (n + m) (a / P)
variable {r : Rp} {P : Rat} {W m : Nat}
theorem sf_in {N n : Nat} {g : Lo → Rat} {ls : List Lo} (hN : 0 < N) (hg : ∀ l ∈ ls, Bm.In N n (g l)) (hl : ls.length ≤ 7) : Bm.In N (n + 3) (sf g ls) := by
  have key : ∀ ls : List Lo, (∀ l ∈ ls, Bm.In N n (g l)) → Bm.InB N (2 ^ n * (ls.length + 1)) (sf g ls) := by
    intro ls
    induction ls with
    | nil => intro _; rw [List.length_nil, Nat.zero_add, Nat.mul_one]; exact Bm.In.zero hN
    | cons l ls ih =>
      intro h
      rw [List.length_cons, Nat.mul_succ]
      have := Bm.InB.add (h l List.mem_cons_self) (ih fun z hz => h z (List.mem_cons_of_mem _ hz))
      rw [Nat.add_comm] at this
      exact this
  refine Bm.InB.mono (key ls hg) ?_
  rw [Nat.pow_add]
  exact Nat.mul_le_mul_left _ (by omega)
theorem pre_mem {pre rest : List Lo} (e : r.ls = pre ++ rest) {l : Lo} (h : l ∈ pre) : l ∈ r.ls := by rw [e]; exact List.mem_append_left _ h
theorem pre_len (h : Bd r) {pre rest : List Lo} (e : r.ls = pre ++ rest) : pre.length ≤ 7 := by
  have := h.len; rw [e, List.length_append] at this; omega
theorem up12 {x : Rat} (h : Bm.In 6 10 x) : Bm.In 12 11 x := (Bm.In.up h (M := 2) (m := 1) (by decide) (by decide) (by decide))
theorem Bd.x0 (h : Bd r) : Bm.In 192 15 r.x0 := (Bm.In.up h.ix0 (M := 32) (m := 5) (by decide) (by decide) (by decide))
theorem Bd.x1 (h : Bd r) : Bm.In 192 15 r.x1 := (Bm.In.up h.ix1 (M := 32) (m := 5) (by decide) (by decide) (by decide))
theorem Bd.a (h : Bd r) {l : Lo} (hl : l ∈ r.ls) : Bm.In 192 15 l.1 := (Bm.In.up (h.ia l hl) (M := 16) (m := 4) (by decide) (by decide) (by decide)).mono (by decide)
theorem Bd.step (h : Bd r) (p : Pu P W m) {l : Lo} (hl : l ∈ r.ls) : Bm.In (2 * W) (5 + m) (l.2 / P) := p.dv (h.if' l hl)
theorem Bd.part (h : Bd r) (p : Pu P W m) {l : Lo} (hl : l ∈ r.ls) : Bm.In (24 * W) (17 + m) (l.2 / P * (r.x1 - l.1)) := by
  have e := Bm.In.mul (h.step p hl) (Bm.In.sub (up12 h.ix1) ((h.ia l hl).mono (by decide)))
  rw [show 2 * W * 12 = 24 * W by omega] at e
  exact e.mono (by omega)
theorem Bd.tot (h : Bd r) (p : Pu P W m) {pre rest : List Lo} (e : r.ls = pre ++ rest) : Bm.In (24 * W) 221 ((r.y1 - r.y0) - sf (fun l => l.2 / P * (r.x1 - l.1)) pre) := by
  have w0 := p.w0
  have hW := p.hW
  have hm := p.hm
  have i1 : Bm.In (24 * W) 209 (r.y1 - r.y0) := (Bm.In.up (Bm.In.sub h.iy1 h.iy0) (M := 4 * W) (m := 202) (by omega) (by omega) (by omega))
  have i2 := sf_in (by omega) (fun l hl => h.part p (pre_mem e hl)) (pre_len h e)
  exact (Bm.In.sub (i1.mono (show 209 ≤ 220 by decide)) (i2.mono (show 17 + m + 3 ≤ 220 by omega)))
theorem Bd.sl (h : Bd r) (p : Pu P W m) {pre rest : List Lo} (e : r.ls = pre ++ rest) : Bm.In (24 * W * 2520) 234 (r.sl P pre) := by
  have w0 := p.w0
  have hm := p.hm
  have i1 : Bm.In (24 * W * 2520) 233 (r.s0 P) := h.iw (h.tot p (pre := r.ls) (rest := []) (by rw [List.append_nil]))
  have i2 := sf_in (by omega) (fun l hl => h.step p (pre_mem e hl)) (pre_len h e)
  have i3 := Bm.In.up i2 (M := 12 * 2520) (m := 15) (K := 24 * W * 2520) (by decide) (by decide) (by omega)
  exact Bm.In.add i1 (i3.mono (show 5 + m + 3 + 15 ≤ 233 by omega))
theorem Bd.M (h : Bd r) {x : Rat} (ix : Bm.In 192 15 x) : Bm.In KM 50 (r.M x) := by
  have i1 : Bm.In (24 * 2520) 32 r.sup := h.iw ((sf_in (n := 17) (by decide) (fun l hl => (Bm.In.mul (h.if' l hl) (Bm.In.sub (up12 h.ix1) ((h.ia l hl).mono (by decide)))).mono (by decide)) (by have := h.len; omega)).mono (by decide))
  have i2 : Bm.In KM 48 (r.sup * (x - r.x0)) := (Bm.In.mul i1 (Bm.In.sub ix h.x0)).mono (by decide)
  have i3 : Bm.In 384 24 (sf (fun l => if l.1 < x then l.2 * (x - l.1) else 0) r.ls) := sf_in (n := 21) (by decide) (fun l hl => by
    split
    · exact (Bm.In.mul (h.if' l hl) (Bm.In.sub ix (h.a hl))).mono (by decide)
    · exact Bm.In.zero (by decide)) (by have := h.len; omega)
  have i4 := Bm.In.up i3 (M := 12 * 2520) (m := 15) (K := KM) (by decide) (by decide) (by decide)
  exact (Bm.In.sub (i2.mono (by decide)) (i4.mono (show 24 + 15 ≤ 49 by decide) : Bm.In KM 49 _))
theorem Bd.line (h : Bd r) {x : Rat} (ix : Bm.In 192 15 x) : Bm.In (6 * 2520 * 192) 36 (r.line x) := by
  have i1 := Bm.In.mul (h.iw (Bm.In.sub h.iy1 h.iy0)) (Bm.In.sub ix h.x0)
  have i2 := Bm.In.up h.iy0 (M := 2520 * 192) (m := 19) (K := 6 * 2520 * 192) (by decide) (by decide) (by decide)
  exact Bm.In.add (i2.mono (by decide)) (i1.mono (by decide))
theorem Bd.g (h : Bd r) (p : Pu P W m) {x : Rat} (ix : Bm.In 192 15 x) : Bm.In (KM * W) 251 (r.g P x) := by
  have w0 := p.w0
  have hW := p.hW
  have hm := p.hm
  have i1 := Bm.In.up (h.line ix) (M := 4 * W) (m := 202) (K := KM * W) (by omega) (by omega) (by unfold KM; omega)
  exact Bm.In.sub (i1.mono (by decide)) ((p.dv (h.M ix)).mono (by omega))
theorem Bd.g2 (h : Bd r) (p : Pu P W m) (hW : W ≤ 64) (hm : m ≤ 10) {x : Rat} (ix : Bm.In 192 15 x) : Bm.In (KM * W) 61 (r.g P x) := by
  have w0 := p.w0
  have i1 := Bm.In.up (h.line ix) (M := 4 * W) (m := 8) (K := KM * W) (by omega) (by omega) (by unfold KM; omega)
  exact Bm.In.sub (i1.mono (by decide)) ((p.dv (h.M ix)).mono (by omega))
theorem Bd.l2 (h : Bd r) (w0 : 0 < W) (hW : W ≤ 64) {x : Rat} (ix : Bm.In 192 15 x) : Bm.In (KM * W) 61 (r.line x) :=
  (Bm.In.up (h.line ix) (M := 4 * W) (m := 8) (K := KM * W) (by omega) (by omega) (by unfold KM; omega)).mono (by decide)
theorem up_small (w0 : 0 < W) (hW : W ≤ 64) {v : Rat} (iv : Bm.In 6 6 v) : Bm.In (KM * W) 61 v :=
  (Bm.In.up iv (M := 4 * 2520 * 192 * W) (m := 28) (K := KM * W) (by omega) (by omega) (by unfold KM; omega)).mono (by decide)
/-! .. as fractions -/
theorem KW_lt (p : Pu P W m) : KM * W < 2 ^ 300 := by
  have a : KM * W < 2 ^ 24 * 2 ^ 200 := Nat.mul_lt_mul_of_lt_of_le (show KM < 2 ^ 24 by decide) (Nat.le_of_lt p.hW) (by decide)
  rw [← Nat.pow_add] at a
  exact Nat.lt_of_lt_of_le a (Nat.pow_le_pow_right (by decide) (by decide))
theorem cW_lt (p : Pu P W m) {c : Nat} (hc : c < 2 ^ 24) : c * W < 2 ^ 300 := by
  have a : c * W < 2 ^ 24 * 2 ^ 200 := Nat.mul_lt_mul_of_lt_of_le hc (Nat.le_of_lt p.hW) (by decide)
  rw [← Nat.pow_add] at a
  exact Nat.lt_of_lt_of_le a (Nat.pow_le_pow_right (by decide) (by decide))
theorem Bd.s_step (h : Bd r) (p : Pu P W m) {l : Lo} (hl : l ∈ r.ls) : Sm 300 (l.2 / P) := (h.step p hl).sm (cW_lt p (by decide)) (by have := p.hm; omega)
theorem Bd.s_tot (h : Bd r) (p : Pu P W m) {pre rest : List Lo} (e : r.ls = pre ++ rest) : Sm 300 ((r.y1 - r.y0) - sf (fun l => l.2 / P * (r.x1 - l.1)) pre) := (h.tot p e).sm (cW_lt p (by decide)) (by decide)
theorem Bd.s_sl (h : Bd r) (p : Pu P W m) {pre rest : List Lo} (e : r.ls = pre ++ rest) : Sm 300 (r.sl P pre) := by
  have := h.sl p e
  rw [show 24 * W * 2520 = 60480 * W by omega] at this
  exact this.sm (cW_lt p (by decide)) (by decide)
theorem Bd.s_g (h : Bd r) (p : Pu P W m) {x : Rat} (ix : Bm.In 192 15 x) : Sm 300 (r.g P x) := (h.g p ix).sm (KW_lt p) (by decide)
theorem Bd.s_M (h : Bd r) {x : Rat} (ix : Bm.In 192 15 x) : Sm 50 (r.M x) := (h.M ix).sm (by decide) (by decide)
theorem Bd.s_line (h : Bd r) {x : Rat} (ix : Bm.In 192 15 x) : Sm 36 (r.line x) := (h.line ix).sm (by decide) (by decide)
theorem s192 {x : Rat} (ix : Bm.In 192 15 x) : Sm 15 x := ix.sm (by decide) (by decide)
theorem Bd.s_x0 (h : Bd r) : Sm 10 r.x0 := h.ix0.sm (by decide) (by decide)
theorem Bd.s_x1 (h : Bd r) : Sm 10 r.x1 := h.ix1.sm (by decide) (by decide)
theorem Bd.s_y0 (h : Bd r) : Sm 6 r.y0 := h.iy0.sm (by decide) (by decide)
theorem Bd.s_y1 (h : Bd r) : Sm 6 r.y1 := h.iy1.sm (by decide) (by decide)
theorem Bd.s_a (h : Bd r) {l : Lo} (hl : l ∈ r.ls) : Sm 10 l.1 := (h.ia l hl).sm (by decide) (by decide)
theorem Bd.s_f (h : Bd r) {l : Lo} (hl : l ∈ r.ls) : Sm 5 l.2 := (h.if' l hl).sm (by decide) (by decide)
theorem Bd.xs192 (h : Bd r) {x : Rat} (hx : x ∈ r.xs) : Bm.In 192 15 x := by
  unfold Rp.xs at hx
  rcases List.mem_cons.mp hx with rfl | hx
  · exact h.x0
  · rcases List.mem_append.mp hx with hx | hx
    · obtain ⟨l, hl, rfl⟩ := List.mem_map.mp hx; exact h.a hl
    · rw [List.mem_singleton.mp hx]; exact h.x1
end N12
end Lw
set_option Elab.async false
set_option linter.all false
set_option maxRecDepth 100000
set_option maxHeartbeats 4000000
namespace Lw
open PySem PySem.Spec PyProof.Rows L2 Dn
namespace N12
def sp_0 : SM := sAsgF [] (gN 4) (mFrz (mLc [10, 11] (mIt itD (mV 2)) (gTL 2 (gsC (gN 10) (gsC (gN 11) (gsN)))) (tYesM) (mCall m_over (aCons (mV 11) (aCons (mV 3) (aNil))))))
def sp_1 : SM := sAsgF [] (gN 5) (mCall m_minus (aCons (mOp dIx (mV 1) (mC (.int 0))) (aCons (mOp dIx (mV 0) (mC (.int 0))) (aNil))))
def sp_2 : SM := sAsgF [] (gN 6) (mCall m_minus (aCons (mOp dIx (mV 1) (mC (.int 1))) (aCons (mOp dIx (mV 0) (mC (.int 1))) (aNil))))
def sp_3_0 : SM := sAsgF [] (gN 6) (mCall m_minus (aCons (mV 6) (aCons (mCall m_times (aCons (mV 8) (aCons (mCall m_minus (aCons (mOp dIx (mV 1) (mC (.int 0))) (aCons (mV 9) (aNil)))) (aNil)))) (aNil))))
def sp_3_b : SM := sp_3_0
def sp_3 : SM := sFor [] (gTL 2 (gsC (gTL 2 (gsC (gN 9) (gsC (gN 10) (gsN)))) (gsC (gN 8) (gsN)))) (mRng zipI (aCons (mV 2) (aCons (mV 4) (aNil)))) sp_3_b
def sp_4 : SM := sOwn [] 7 (mLstL (aCons (mCall m_over (aCons (mV 6) (aCons (mV 5) (aNil)))) (aNil)))
def sp_5_0 : SM := sAppS 7 (mCall m_plus (aCons (mOp dIx (mV 7) (mUn dNeg (mC (.int 1)))) (aCons (mV 8) (aNil))))
def sp_5_b : SM := sp_5_0
def sp_5 : SM := sFor [] (gN 8) (mIt itD (mV 4)) sp_5_b
def sp_6 : SM := sRetO 7
theorem sp_eq : b_slopes = sSeq sp_0 (sSeq sp_1 (sSeq sp_2 (sSeq sp_3 (sSeq sp_4 (sSeq sp_5 sp_6))))) := rfl
def pn_0 : SM := sAsgF [] (gN 4) (mFrz (mCallL m_slopes (aCons (mV 0) (aCons (mV 1) (aCons (mV 2) (aCons (mV 3) (aNil)))))))
def pn_1 : SM := sOwn [] 5 (mLstL (aCons (mV 0) (aNil)))
def pn_2_0 : SM := sAsgS (gN 7) (mOp dIx (mV 5) (mUn dNeg (mC (.int 1))))
def pn_2_1 : SM := sAppF [] 5 (mTup (aCons (mV 8) (aCons (mCall m_plus (aCons (mOp dIx (mV 7) (mC (.int 1))) (aCons (mCall m_times (aCons (mV 6) (aCons (mCall m_minus (aCons (mV 8) (aCons (mOp dIx (mV 7) (mC (.int 0))) (aNil)))) (aNil)))) (aNil)))) (aNil))))
def pn_2_b : SM := sSeq pn_2_0 pn_2_1
def pn_2 : SM := sFor [] (gTL 2 (gsC (gTL 2 (gsC (gN 8) (gsC (gN 9) (gsN)))) (gsC (gN 6) (gsN)))) (mRng zipF (aCons (mV 2) (aCons (mV 4) (aNil)))) pn_2_b
def pn_3 : SM := sAppF [] 5 (mV 1)
def pn_4 : SM := sRetO 5
theorem pn_eq : b_points = sSeq pn_0 (sSeq pn_1 (sSeq pn_2 (sSeq pn_3 pn_4))) := rfl
def ha_0 : SM := sAsgF [] (gN 5) (mFrz (mCallL m_points (aCons (mV 0) (aCons (mV 1) (aCons (mV 2) (aCons (mV 3) (aNil)))))))
def ha_1_0 : SM := sIf (mAnd (mNot (mTru (mCall m_less (aCons (mV 4) (aCons (mOp dIx (mV 6) (mC (.int 0))) (aNil)))))) (mNot (mTru (mCall m_less (aCons (mOp dIx (mV 7) (mC (.int 0))) (aCons (mV 4) (aNil))))))) (sSeq (sAsgF [] (gN 8) (mCall m_over (aCons (mCall m_minus (aCons (mOp dIx (mV 7) (mC (.int 1))) (aCons (mOp dIx (mV 6) (mC (.int 1))) (aNil)))) (aCons (mCall m_minus (aCons (mOp dIx (mV 7) (mC (.int 0))) (aCons (mOp dIx (mV 6) (mC (.int 0))) (aNil)))) (aNil))))) (sRetF [] (mCall m_plus (aCons (mOp dIx (mV 6) (mC (.int 1))) (aCons (mCall m_times (aCons (mV 8) (aCons (mCall m_minus (aCons (mV 4) (aCons (mOp dIx (mV 6) (mC (.int 0))) (aNil)))) (aNil)))) (aNil)))))) (sNil)
def ha_1_b : SM := ha_1_0
def ha_1 : SM := sFor [] (gTL 2 (gsC (gN 6) (gsC (gN 7) (gsN)))) (mRng zipF (aCons (mV 5) (aCons (mSl (mV 5) (oSome (mC (.int 1))) (oNo)) (aNil)))) ha_1_b
def ha_2 : SM := sRetF [] (mC .non)
theorem ha_eq : b_height_at = sSeq ha_0 (sSeq ha_1 ha_2) := rfl
def sa_0 : SM := sAsgF [] (gN 5) (mCall m_over (aCons (mCall m_minus (aCons (mOp dIx (mV 1) (mC (.int 1))) (aCons (mOp dIx (mV 0) (mC (.int 1))) (aNil)))) (aCons (mCall m_minus (aCons (mOp dIx (mV 1) (mC (.int 0))) (aCons (mOp dIx (mV 0) (mC (.int 0))) (aNil)))) (aNil))))
def sa_1 : SM := sAsgF [] (gN 6) (mCall m_plus (aCons (mOp dIx (mV 0) (mC (.int 1))) (aCons (mCall m_times (aCons (mV 5) (aCons (mCall m_minus (aCons (mV 4) (aCons (mOp dIx (mV 0) (mC (.int 0))) (aNil)))) (aNil)))) (aNil))))
def sa_2 : SM := sRetF [] (mCall m_minus (aCons (mV 6) (aCons (mCall m_height_at (aCons (mV 0) (aCons (mV 1) (aCons (mV 2) (aCons (mV 3) (aCons (mV 4) (aNil))))))) (aNil))))
theorem sa_eq : b_sag = sSeq sa_0 (sSeq sa_1 sa_2) := rfl
def gs_0 : SM := sAsgF [] (gN 4) (mC .non)
def gs_1_0 : SM := sAsgF [] (gN 7) (mCall m_sag (aCons (mV 0) (aCons (mV 1) (aCons (mV 2) (aCons (mV 3) (aCons (mV 5) (aNil)))))))
def gs_1_1 : SM := sIf (mOr (mTst (mOp dIs (mV 4) (mC .non))) (mTru (mCall m_less (aCons (mOp dIx (mV 4) (mC (.int 0))) (aCons (mV 7) (aNil)))))) (sAsgF [] (gN 4) (mTup (aCons (mV 7) (aCons (mV 5) (aNil))))) (sNil)
def gs_1_b : SM := sSeq gs_1_0 gs_1_1
def gs_1 : SM := sFor [] (gTL 2 (gsC (gN 5) (gsC (gN 6) (gsN)))) (mIt itD (mV 2)) gs_1_b
def gs_2 : SM := sRetF [] (mV 4)
theorem gs_eq : b_greatest_sag = sSeq gs_0 (sSeq gs_1 gs_2) := rfl
def pt_0 : SM := sAsgF [] (gN 4) (mCall m_sag (aCons (mV 0) (aCons (mV 1) (aCons (mV 2) (aCons (mTup (aCons (mC (.int 1)) (aCons (mC (.int 1)) (aNil)))) (aCons (mOp dIx (mV 3) (mC (.int 0))) (aNil)))))))
def pt_1 : SM := sAsgF [] (gN 5) (mCall m_over (aCons (mCall m_minus (aCons (mOp dIx (mV 1) (mC (.int 1))) (aCons (mOp dIx (mV 0) (mC (.int 1))) (aNil)))) (aCons (mCall m_minus (aCons (mOp dIx (mV 1) (mC (.int 0))) (aCons (mOp dIx (mV 0) (mC (.int 0))) (aNil)))) (aNil))))
def pt_2 : SM := sAsgF [] (gN 6) (mCall m_minus (aCons (mCall m_plus (aCons (mOp dIx (mV 0) (mC (.int 1))) (aCons (mCall m_times (aCons (mV 5) (aCons (mCall m_minus (aCons (mOp dIx (mV 3) (mC (.int 0))) (aCons (mOp dIx (mV 0) (mC (.int 0))) (aNil)))) (aNil)))) (aNil)))) (aCons (mOp dIx (mV 3) (mC (.int 1))) (aNil))))
def pt_3 : SM := sIf (mOr (mTst (mOp dEq (mV 6) (mC c_NOUGHT))) (mTst (mOp dEq (mV 4) (mC c_NOUGHT)))) (sRetF [] (mC .non)) (sNil)
def pt_4 : SM := sAsgF [] (gN 7) (mCall m_over (aCons (mV 4) (aCons (mV 6) (aNil))))
def pt_5 : SM := sRetF [] (mIte (mTru (mCall m_less (aCons (mC c_NOUGHT) (aCons (mV 7) (aNil))))) (mV 7) (mC .non))
theorem pt_eq : b_pull_through = sSeq pt_0 (sSeq pt_1 (sSeq pt_2 (sSeq pt_3 (sSeq pt_4 pt_5)))) := rfl
def lo_0 : SM := sOwn [] 2 (mLstL (aNil))
def lo_1_0 : SM := sAsgF [] (gN 6) (mCall m_over (aCons (mCall m_minus (aCons (mOp dIx (mV 4) (mC (.int 1))) (aCons (mOp dIx (mV 3) (mC (.int 1))) (aNil)))) (aCons (mCall m_minus (aCons (mOp dIx (mV 4) (mC (.int 0))) (aCons (mOp dIx (mV 3) (mC (.int 0))) (aNil)))) (aNil))))
def lo_1_1 : SM := sAsgF [] (gN 7) (mCall m_over (aCons (mCall m_minus (aCons (mOp dIx (mV 5) (mC (.int 1))) (aCons (mOp dIx (mV 4) (mC (.int 1))) (aNil)))) (aCons (mCall m_minus (aCons (mOp dIx (mV 5) (mC (.int 0))) (aCons (mOp dIx (mV 4) (mC (.int 0))) (aNil)))) (aNil))))
def lo_1_2 : SM := sAppF [] 2 (mTup (aCons (mOp dIx (mV 4) (mC (.int 0))) (aCons (mCall m_times (aCons (mV 1) (aCons (mCall m_minus (aCons (mV 7) (aCons (mV 6) (aNil)))) (aNil)))) (aNil))))
def lo_1_b : SM := sSeq lo_1_0 (sSeq lo_1_1 lo_1_2)
def lo_1 : SM := sFor [] (gTL 3 (gsC (gN 3) (gsC (gN 4) (gsC (gN 5) (gsN))))) (mRng zipF3 (aCons (mV 0) (aCons (mSl (mV 0) (oSome (mC (.int 1))) (oNo)) (aCons (mSl (mV 0) (oSome (mC (.int 2))) (oNo)) (aNil))))) lo_1_b
def lo_2 : SM := sRetO 2
theorem lo_eq : b_loads_of = sSeq lo_0 (sSeq lo_1 lo_2) := rfl
def ep_0 : SM := sAsgF [] (gN 4) (mFrz (mCallL m_slopes (aCons (mV 0) (aCons (mV 1) (aCons (mV 2) (aCons (mV 3) (aNil)))))))
def ep_1 : SM := sRetF [] (mTup (aCons (mCall m_minus (aCons (mC c_NOUGHT) (aCons (mCall m_times (aCons (mV 3) (aCons (mOp dIx (mV 4) (mC (.int 0))) (aNil)))) (aNil)))) (aCons (mCall m_times (aCons (mV 3) (aCons (mOp dIx (mV 4) (mUn dNeg (mC (.int 1)))) (aNil)))) (aNil))))
theorem ep_eq : b_end_pulls = sSeq ep_0 ep_1 := rfl
def wl_0 : SM := sRetF [] (mCall m_sum_of (aCons (mFrz (mLc [1, 2] (mIt itD (mV 0)) (gTL 2 (gsC (gN 1) (gsC (gN 2) (gsN)))) (tYesM) (mV 2))) (aNil)))
theorem wl_eq : b_whole_load = wl_0 := rfl
def st_0 : SM := sRetF [] (mCallP 0 m__law_pick (aCons (mFrz (mLstL (aCons (mTup (aCons (mOp dSub (mCallP 0 m__law_draw (aCons (mC (.int 9)) (aNil))) (mC (.int 4))) (aCons (mC (.int 1)) (aNil)))) (aCons (mTup (aCons (mOp dSub (mCallP 0 m__law_draw (aCons (mC (.int 5)) (aNil))) (mC (.int 2))) (aCons (mC (.int 1)) (aNil)))) (aCons (mCall m__law_ratio (aCons (mOp dSub (mCallP 0 m__law_draw (aCons (mC (.int 9)) (aNil))) (mC (.int 4))) (aCons (mOp dAdd (mC (.int 1)) (mCallP 0 m__law_draw (aCons (mC (.int 3)) (aNil)))) (aNil)))) (aNil)))))) (aNil)))
theorem st_eq : b__law_small_told = st_0 := rfl
def hg_0 : SM := sAsgF [] (gN 1) (mTup (aCons (mCallP 0 m__law_small_told (aNil)) (aCons (mCallP 0 m__law_small_told (aNil)) (aNil))))
def hg_1 : SM := sAsgF [] (gN 2) (mOp dAdd (mC (.int 2)) (mCallP 0 m__law_draw (aCons (mC (.int 8)) (aNil))))
def hg_2 : SM := sAsgF [] (gN 3) (mTup (aCons (mCall m__law_add (aCons (mOp dIx (mV 1) (mC (.int 0))) (aCons (mTup (aCons (mV 2) (aCons (mC (.int 1)) (aNil)))) (aNil)))) (aCons (mCallP 0 m__law_small_told (aNil)) (aNil))))
def hg_3 : SM := sOwn [] 4 (mLstL (aNil))
def hg_4_0 : SM := sIf (mAnd (mTst (mOp dEq (mCallP 0 m__law_draw (aCons (mC (.int 8)) (aNil))) (mC (.int 0)))) (mTst (mOp dLt (mCall gLen (aCons (mV 4) (aNil))) (mC (.int 6))))) (sAppF [] 4 (mTup (aCons (mCall m__law_add (aCons (mOp dIx (mV 1) (mC (.int 0))) (aCons (mCall m__law_ratio (aCons (mV 5) (aCons (mC (.int 4)) (aNil)))) (aNil)))) (aCons (mCall m__law_ratio (aCons (mCallP 0 m__law_draw (aCons (mC (.int 9)) (aNil))) (aCons (mOp dAdd (mC (.int 1)) (mCallP 0 m__law_draw (aCons (mC (.int 2)) (aNil)))) (aNil)))) (aNil))))) (sNil)
def hg_4_b : SM := hg_4_0
def hg_4 : SM := sFor [] (gN 5) (mRng rng2 (aCons (mC (.int 1)) (aCons (mOp dMul (mC (.int 4)) (mV 2)) (aNil)))) hg_4_b
def hg_5 : SM := sRetF [4] (mTup (aCons (mV 1) (aCons (mV 3) (aCons (mV 4) (aNil)))))
theorem hg_eq : b__law_hung = sSeq hg_0 (sSeq hg_1 (sSeq hg_2 (sSeq hg_3 (sSeq hg_4 hg_5)))) := rfl
def vm_0 : SM := sAsgF [] (gN 4) (mCall m__law_sub (aCons (mOp dIx (mV 1) (mC (.int 0))) (aCons (mOp dIx (mV 0) (mC (.int 0))) (aNil))))
def vm_1 : SM := sAsgF [] (gN 5) (mTup (aCons (mC (.int 0)) (aCons (mC (.int 1)) (aNil))))
def vm_2_0 : SM := sAsgF [] (gN 5) (mCall m__law_add (aCons (mV 5) (aCons (mCall m__law_div (aCons (mCall m__law_mul (aCons (mV 8) (aCons (mCall m__law_sub (aCons (mOp dIx (mV 1) (mC (.int 0))) (aCons (mV 7) (aNil)))) (aNil)))) (aCons (mV 4) (aNil)))) (aNil))))
def vm_2_b : SM := vm_2_0
def vm_2 : SM := sFor [] (gTL 2 (gsC (gN 7) (gsC (gN 8) (gsN)))) (mIt itD (mV 2)) vm_2_b
def vm_3 : SM := sAsgF [] (gN 6) (mCall m__law_mul (aCons (mV 5) (aCons (mCall m__law_sub (aCons (mV 3) (aCons (mOp dIx (mV 0) (mC (.int 0))) (aNil)))) (aNil))))
def vm_4_0 : SM := sIf (mTst (mOp dGt (mOp dIx (mCall m__law_sub (aCons (mV 3) (aCons (mV 7) (aNil)))) (mC (.int 0))) (mC (.int 0)))) (sAsgF [] (gN 6) (mCall m__law_sub (aCons (mV 6) (aCons (mCall m__law_mul (aCons (mV 8) (aCons (mCall m__law_sub (aCons (mV 3) (aCons (mV 7) (aNil)))) (aNil)))) (aNil))))) (sNil)
def vm_4_b : SM := vm_4_0
def vm_4 : SM := sFor [] (gTL 2 (gsC (gN 7) (gsC (gN 8) (gsN)))) (mIt itD (mV 2)) vm_4_b
def vm_5 : SM := sRetF [] (mV 6)
theorem vm_eq : b__law_moment = sSeq vm_0 (sSeq vm_1 (sSeq vm_2 (sSeq vm_3 (sSeq vm_4 vm_5)))) := rfl
def vl_0 : SM := sAsgF [] (gN 3) (mCall m__law_div (aCons (mCall m__law_sub (aCons (mOp dIx (mV 1) (mC (.int 1))) (aCons (mOp dIx (mV 0) (mC (.int 1))) (aNil)))) (aCons (mCall m__law_sub (aCons (mOp dIx (mV 1) (mC (.int 0))) (aCons (mOp dIx (mV 0) (mC (.int 0))) (aNil)))) (aNil))))
def vl_1 : SM := sRetF [] (mCall m__law_add (aCons (mOp dIx (mV 0) (mC (.int 1))) (aCons (mCall m__law_mul (aCons (mV 3) (aCons (mCall m__law_sub (aCons (mV 2) (aCons (mOp dIx (mV 0) (mC (.int 0))) (aNil)))) (aNil)))) (aNil))))
theorem vl_eq : b__law_line_own = sSeq vl_0 vl_1 := rfl
theorem cut_take (xs : List D) (k : Nat) (h : k ≤ xs.length) : Dn.cutD xs none (some (k : Int)) = xs.take k := by
  have : min k xs.length = k := by omega
  have hn : ¬ ((k : Int) < 0) := by omega
  unfold Dn.cutD
  simp [HT.sIx, hn, this]
theorem cut_drop (xs : List D) (k : Nat) (h : k ≤ xs.length) : Dn.cutD xs (some (k : Int)) none = xs.drop k := by
  have : min k xs.length = k := by omega
  have hn : ¬ ((k : Int) < 0) := by omega
  unfold Dn.cutD
  simp [HT.sIx, hn, this]
  exact List.take_of_length_le (Nat.le_of_eq List.length_drop)

theorem one : D.tup [.int 1, .int 1] = rD 1 := rfl
theorem sm1 : Sm 1 (1 : Rat) := Sm.int (z := 1) (by decide) (by decide)
theorem noL_rD (q : Rat) : noL (rD q) = true := rfl
theorem at_last {α : Type} (xs : List α) (x : α) : atI (xs ++ [x]) (-1) = some x := by
  have e : ixN (xs ++ [x]).length (-1) = some xs.length := by
    unfold ixN
    rw [if_neg (by omega), if_pos (by rw [List.length_append, List.length_singleton]; omega)]
    congr 1
    rw [List.length_append, List.length_singleton]; omega
  unfold atI
  rw [e]; simp
abbrev ed (x y : Rat) : D := .tup [rD x, rD y]
abbrev lD (l : Lo) : D := .tup [rD l.1, rD l.2]
abbrev LO (ls : List Lo) : D := .lst (ls.map lD)
abbrev pD (r : Rp) (P : Rat) (x : Rat) : D := .tup [rD x, rD (r.g P x)]
variable {r : Rp} {P : Rat} {W m : Nat}
theorem zipD_both {α : Type} (f g : α → D) : ∀ xs : List α, zipD (xs.map f) (xs.map g) = xs.map fun x => D.tup [f x, g x]
  | [] => rfl
  | x :: xs => by rw [List.map_cons, List.map_cons]; show D.tup [f x, g x] :: zipD _ _ = _; rw [zipD_both f g xs]; rfl
theorem zipI_both {α : Type} (f g : α → D) (xs : List α) : zipI [.lst (xs.map f), .lst (xs.map g)] = some (xs.map fun x => D.tup [f x, g x]) := by
  unfold zipI
  simp only [x_itL, List.length_map, if_true]
  rw [zipD_both]
theorem zipD_two {α β : Type} (f : α → D) (g : β → D) : ∀ (xs : List α) (ys : List β), zipD (xs.map f) (ys.map g) = (xs.zip ys).map fun q => D.tup [f q.1, g q.2]
  | [], _ => rfl
  | _ :: _, [] => rfl
  | x :: xs, y :: ys => by rw [List.map_cons, List.map_cons]; show D.tup [f x, g y] :: zipD _ _ = _; rw [zipD_two f g xs ys]; rfl
/-! slopes -/
abbrev Tot (r : Rp) (P : Rat) (pre : List Lo) : Rat := (r.y1 - r.y0) - sf (fun l => l.2 / P * (r.x1 - l.1)) pre
theorem sf_one (g : Lo → Rat) (pre : List Lo) (l : Lo) : sf g (pre ++ [l]) = sf g pre + g l := by
  rw [sf_append]; show _ + (g l + 0) = _; grind
theorem tot_step (pre : List Lo) (l : Lo) : Tot r P pre - l.2 / P * (r.x1 - l.1) = Tot r P (pre ++ [l]) := by unfold Tot; rw [sf_one]; grind
theorem sl_step (pre : List Lo) (l : Lo) : r.sl P pre + l.2 / P = r.sl P (pre ++ [l]) := by unfold Rp.sl; rw [sf_one]; grind
theorem sp3 (h : Bd r) (p : Pu P W m) (d4 d5 : D) : ∀ (rest pre : List Lo) (x8 x9 x10 : Sl), r.ls = pre ++ rest →
    ∃ y8 y9 y10, forL (gTL 2 (gsC (gTL 2 (gsC (gN 9) (gsC (gN 10) (gsN)))) (gsC (gN 8) (gsN)))) sp_3_b (rest.map fun l => D.tup [lD l, rD (l.2 / P)]) [.val (ed r.x0 r.y0), .val (ed r.x1 r.y1), .val (LO r.ls), .val (rD P), .val d4, .val d5, .val (rD (Tot r P pre)), .un, x8, x9, x10, .un] none = some (.nx [.val (ed r.x0 r.y0), .val (ed r.x1 r.y1), .val (LO r.ls), .val (rD P), .val d4, .val d5, .val (rD (Tot r P r.ls)), .un, y8, y9, y10, .un] none)
  | [], pre, x8, x9, x10, e => ⟨x8, x9, x10, by rw [e, List.append_nil]; rfl⟩
  | l :: rest, pre, x8, x9, x10, e => by
    have hl : l ∈ r.ls := by rw [e]; simp
    have st := h.s_step p hl
    have sa := h.s_a hl
    have sx := h.s_x1
    have s1 := h.s_tot p e
    have t1 := minus_ok (sx.mono (by omega)) (sa.mono (by omega : 10 ≤ 4000))
    have t2 := times_ok (st.mono (by omega)) ((sx.sub sa).mono (by omega : _ ≤ 4000))
    have t3 := minus_ok (s1.mono (by omega)) ((st.mul (sx.sub sa)).mono (by omega : _ ≤ 4000))
    obtain ⟨y8, y9, y10, ih⟩ := sp3 h p d4 d5 rest (pre ++ [l]) (.val (rD (l.2 / P))) (.val (rD l.1)) (.val (rD l.2)) (by rw [e, List.append_assoc]; rfl)
    refine ⟨y8, y9, y10, ?_⟩
    have t3' : m_minus [rD (Tot r P pre), rD (l.2 / P * (r.x1 - l.1))] = some (rD (Tot r P (pre ++ [l]))) := by rw [← tot_step]; exact t3
    have k : sp_3_b [.val (ed r.x0 r.y0), .val (ed r.x1 r.y1), .val (LO r.ls), .val (rD P), .val d4, .val d5, .val (rD (Tot r P pre)), .un, .val (rD (l.2 / P)), .val (rD l.1), .val (rD l.2), .un] none = some (.nx [.val (ed r.x0 r.y0), .val (ed r.x1 r.y1), .val (LO r.ls), .val (rD P), .val d4, .val d5, .val (rD (Tot r P (pre ++ [l]))), .un, .val (rD (l.2 / P)), .val (rD l.1), .val (rD l.2), .un] none) := by
      generalize Tot r P pre = T0 at *
      generalize Tot r P (pre ++ [l]) = T1 at *
      generalize l.2 / P = st at *
      simp [sp_3_b, sp_3_0, t1, t2, t3']
    have hg : (gTL 2 (gsC (gTL 2 (gsC (gN 9) (gsC (gN 10) (gsN)))) (gsC (gN 8) (gsN)))) (D.tup [lD l, rD (l.2 / P)]) [.val (ed r.x0 r.y0), .val (ed r.x1 r.y1), .val (LO r.ls), .val (rD P), .val d4, .val d5, .val (rD (Tot r P pre)), .un, x8, x9, x10, .un] = some [.val (ed r.x0 r.y0), .val (ed r.x1 r.y1), .val (LO r.ls), .val (rD P), .val d4, .val d5, .val (rD (Tot r P pre)), .un, .val (rD (l.2 / P)), .val (rD l.1), .val (rD l.2), .un] := by simp
    rw [List.map_cons, x_forC, hg]
    simp only [Option.bind_some]
    rw [k, x_afN, ih]
theorem sls_cons (s : Rat) (l : Lo) (ls : List Lo) : sls P s (l :: ls) = s :: sls P (s + l.2 / P) ls := rfl
theorem sp5 (h : Bd r) (p : Pu P W m) (x4 x5 x6 x9 x10 x11 : Sl) : ∀ (rest pre : List Lo) (acc : List Rat) (x8 : Sl), r.ls = pre ++ rest → acc.length + rest.length ≤ 100 →
    ∃ y8, forL (gN 8) sp_5_b (rest.map fun l => rD (l.2 / P)) [.val (ed r.x0 r.y0), .val (ed r.x1 r.y1), .val (LO r.ls), .val (rD P), x4, x5, x6, .own ((acc ++ [r.sl P pre]).map rD), x8, x9, x10, x11] none = some (.nx [.val (ed r.x0 r.y0), .val (ed r.x1 r.y1), .val (LO r.ls), .val (rD P), x4, x5, x6, .own ((acc ++ sls P (r.sl P pre) rest).map rD), y8, x9, x10, x11] none)
  | [], pre, acc, x8, e, _ => ⟨x8, rfl⟩
  | l :: rest, pre, acc, x8, e, ha => by
    rw [List.length_cons] at ha
    have hl : l ∈ r.ls := by rw [e]; simp
    have st := h.s_step p hl
    have s1 := h.s_sl p e
    have t := plus_ok (s1.mono (by omega)) (st.mono (by omega : 300 ≤ 4000))
    rw [sl_step] at t
    obtain ⟨y8, ih⟩ := sp5 h p x4 x5 x6 x9 x10 x11 rest (pre ++ [l]) (acc ++ [r.sl P pre]) (.val (rD (l.2 / P))) (by rw [e, List.append_assoc]; rfl) (by rw [List.length_append, List.length_singleton]; omega)
    refine ⟨y8, ?_⟩
    have iL : atI ((acc ++ [r.sl P pre]).map rD) (-1) = some (rD (r.sl P pre)) := by rw [List.map_append]; exact at_last _ _
    have zA : sized ((acc ++ [r.sl P pre]).map rD).length = true := by rw [List.length_map, List.length_append, List.length_singleton]; exact x_sized (by omega)
    have hA : (acc ++ [r.sl P pre] ++ [r.sl P (pre ++ [l])]).map rD = (acc ++ [r.sl P pre]).map rD ++ [rD (r.sl P (pre ++ [l]))] := by rw [List.map_append]; rfl
    have k : sp_5_b [.val (ed r.x0 r.y0), .val (ed r.x1 r.y1), .val (LO r.ls), .val (rD P), x4, x5, x6, .own ((acc ++ [r.sl P pre]).map rD), .val (rD (l.2 / P)), x9, x10, x11] none = some (.nx [.val (ed r.x0 r.y0), .val (ed r.x1 r.y1), .val (LO r.ls), .val (rD P), x4, x5, x6, .own ((acc ++ [r.sl P pre] ++ [r.sl P (pre ++ [l])]).map rD), .val (rD (l.2 / P)), x9, x10, x11] none) := by
      rw [hA]
      generalize (acc ++ [r.sl P pre]).map rD = A at *
      generalize r.sl P pre = s0 at *
      generalize r.sl P (pre ++ [l]) = s1 at *
      generalize l.2 / P = st at *
      simp [sp_5_b, sp_5_0, iL, t, zA, noL_rD]
    rw [List.map_cons, x_forC, x_gN]
    simp only [Option.bind_some, List.set_cons_succ, List.set_cons_zero]
    rw [k, x_afN, ih]
    rw [sls_cons, sl_step, List.append_assoc]; rfl
theorem slopes_ok (h : Bd r) (p : Pu P W m) : m_slopes [ed r.x0 r.y0, ed r.x1 r.y1, LO r.ls, rD P] = some ((sls P (r.s0 P) r.ls).map rD) := by
  have z : sized r.ls.length = true := x_sized (by have := h.len; omega)
  have hw := h.len
  have w0 := w_ne h.ok
  have c1 : lcL (gTL 2 (gsC (gN 10) (gsC (gN 11) (gsN)))) tYesM (mCall m_over (aCons (mV 11) (aCons (mV 3) (aNil)))) [.val (ed r.x0 r.y0), .val (ed r.x1 r.y1), .val (LO r.ls), .val (rD P), .un, .un, .un, .un, .un, .un, .un, .un] (r.ls.map lD) none = some (r.ls.map (fun l => rD (l.2 / P)), none) :=
    lc_map _ _ lD _ r.ls fun l hl => ⟨_, rfl, by
      have t := over_ok ((h.s_f hl).mono (by omega)) (p.sm.mono (by omega : 300 ≤ 4000)) p.n0
      simp [t]⟩
  have t1 := minus_ok (h.s_x1.mono (by omega)) (h.s_x0.mono (by omega : 10 ≤ 4000))
  have t1' : m_minus [rD r.x1, rD r.x0] = some (rD r.w) := t1
  have t2 := minus_ok (h.s_y1.mono (by omega)) (h.s_y0.mono (by omega : 6 ≤ 4000))
  have sw : Sm 21 r.w := h.s_x1.sub h.s_x0
  have t3 := over_ok ((h.s_tot p (pre := r.ls) (rest := []) (by rw [List.append_nil])).mono (by omega)) (sw.mono (by omega : 21 ≤ 4000)) w0
  have t3' : m_over [rD (Tot r P r.ls), rD r.w] = some (rD (r.s0 P)) := t3
  have hT0 : Tot r P [] = r.y1 - r.y0 := by show (r.y1 - r.y0) - 0 = _; grind
  have hs0 : r.sl P [] = r.s0 P := sl_nil
  obtain ⟨y8, y9, y10, e3⟩ := sp3 h p (.lst (r.ls.map fun l => rD (l.2 / P))) (rD r.w) r.ls [] .un .un .un rfl
  rw [hT0] at e3
  obtain ⟨z8, e5⟩ := sp5 h p (.val (.lst (r.ls.map fun l => rD (l.2 / P)))) (.val (rD r.w)) (.val (rD (Tot r P r.ls))) y9 y10 .un r.ls [] [] y8 rfl (by rw [List.length_nil]; omega)
  rw [hs0, List.nil_append] at e5
  unfold m_slopes
  rw [sp_eq]
  simp only [x_runL, e0c, e0n, e00]
  have k0 : sp_0 [.val (ed r.x0 r.y0), .val (ed r.x1 r.y1), .val (LO r.ls), .val (rD P), .un, .un, .un, .un, .un, .un, .un, .un] none = some (.nx [.val (ed r.x0 r.y0), .val (ed r.x1 r.y1), .val (LO r.ls), .val (rD P), .val (.lst (r.ls.map fun l => rD (l.2 / P))), .un, .un, .un, .un, .un, .un, .un] none) := by simp [sp_0, z, c1]
  have k1 : sp_1 [.val (ed r.x0 r.y0), .val (ed r.x1 r.y1), .val (LO r.ls), .val (rD P), .val (.lst (r.ls.map fun l => rD (l.2 / P))), .un, .un, .un, .un, .un, .un, .un] none = some (.nx [.val (ed r.x0 r.y0), .val (ed r.x1 r.y1), .val (LO r.ls), .val (rD P), .val (.lst (r.ls.map fun l => rD (l.2 / P))), .val (rD r.w), .un, .un, .un, .un, .un, .un] none) := by simp [sp_1, t1']
  have k2 : sp_2 [.val (ed r.x0 r.y0), .val (ed r.x1 r.y1), .val (LO r.ls), .val (rD P), .val (.lst (r.ls.map fun l => rD (l.2 / P))), .val (rD r.w), .un, .un, .un, .un, .un, .un] none = some (.nx [.val (ed r.x0 r.y0), .val (ed r.x1 r.y1), .val (LO r.ls), .val (rD P), .val (.lst (r.ls.map fun l => rD (l.2 / P))), .val (rD r.w), .val (rD (r.y1 - r.y0)), .un, .un, .un, .un, .un] none) := by simp [sp_2, t2]
  have k3 : sp_3 [.val (ed r.x0 r.y0), .val (ed r.x1 r.y1), .val (LO r.ls), .val (rD P), .val (.lst (r.ls.map fun l => rD (l.2 / P))), .val (rD r.w), .val (rD (r.y1 - r.y0)), .un, .un, .un, .un, .un] none = some (.nx [.val (ed r.x0 r.y0), .val (ed r.x1 r.y1), .val (LO r.ls), .val (rD P), .val (.lst (r.ls.map fun l => rD (l.2 / P))), .val (rD r.w), .val (rD (Tot r P r.ls)), .un, y8, y9, y10, .un] none) := by
    unfold sp_3
    rw [x_sFor]
    have zz := zipI_both lD (fun l : Lo => rD (l.2 / P)) r.ls
    have ki : mRng zipI (aCons (mV 2) (aCons (mV 4) (aNil))) (vw [] [.val (ed r.x0 r.y0), .val (ed r.x1 r.y1), .val (LO r.ls), .val (rD P), .val (.lst (r.ls.map fun l => rD (l.2 / P))), .val (rD r.w), .val (rD (r.y1 - r.y0)), .un, .un, .un, .un, .un]) none = some (r.ls.map (fun l => D.tup [lD l, rD (l.2 / P)]), none) := by
      generalize r.ls.map (fun l => rD (l.2 / P)) = S at *
      generalize r.ls.map (fun l => D.tup [lD l, rD (l.2 / P)]) = Z at *
      simp [zz]
    rw [ki]; exact e3
  have k4 : sp_4 [.val (ed r.x0 r.y0), .val (ed r.x1 r.y1), .val (LO r.ls), .val (rD P), .val (.lst (r.ls.map fun l => rD (l.2 / P))), .val (rD r.w), .val (rD (Tot r P r.ls)), .un, y8, y9, y10, .un] none = some (.nx [.val (ed r.x0 r.y0), .val (ed r.x1 r.y1), .val (LO r.ls), .val (rD P), .val (.lst (r.ls.map fun l => rD (l.2 / P))), .val (rD r.w), .val (rD (Tot r P r.ls)), .own ([r.s0 P].map rD), y8, y9, y10, .un] none) := by
    generalize r.ls.map (fun l => rD (l.2 / P)) = S at *
    generalize Tot r P r.ls = T at *
    generalize r.s0 P = s at *
    simp [sp_4, t3']
  have k5 : sp_5 [.val (ed r.x0 r.y0), .val (ed r.x1 r.y1), .val (LO r.ls), .val (rD P), .val (.lst (r.ls.map fun l => rD (l.2 / P))), .val (rD r.w), .val (rD (Tot r P r.ls)), .own ([r.s0 P].map rD), y8, y9, y10, .un] none = some (.nx [.val (ed r.x0 r.y0), .val (ed r.x1 r.y1), .val (LO r.ls), .val (rD P), .val (.lst (r.ls.map fun l => rD (l.2 / P))), .val (rD r.w), .val (rD (Tot r P r.ls)), .own ((sls P (r.s0 P) r.ls).map rD), z8, y9, y10, .un] none) := by
    unfold sp_5
    rw [x_sFor]
    have ki : mIt itD (mV 4) (vw [] [.val (ed r.x0 r.y0), .val (ed r.x1 r.y1), .val (LO r.ls), .val (rD P), .val (.lst (r.ls.map fun l => rD (l.2 / P))), .val (rD r.w), .val (rD (Tot r P r.ls)), .own ([r.s0 P].map rD), y8, y9, y10, .un]) none = some (r.ls.map (fun l => rD (l.2 / P)), none) := by
      generalize r.ls.map (fun l => rD (l.2 / P)) = S at *
      generalize [r.s0 P].map rD = S0 at *
      simp
    rw [ki]; exact e5
  rw [x_sSeq, k0, x_nxN, x_sSeq, k1, x_nxN, x_sSeq, k2, x_nxN, x_sSeq, k3, x_nxN, x_sSeq, k4, x_nxN, x_sSeq, k5, x_nxN]
  simp [sp_6]
/-! points -/
def zsD (P : Rat) : Rat → List Lo → List D
  | _, [] => []
  | s, l :: ls => D.tup [lD l, rD s] :: zsD P (s + l.2 / P) ls
theorem zsD_eq : ∀ (ls : List Lo) (s : Rat), zipD (ls.map lD) ((sls P s ls).map rD) = zsD P s ls
  | [], _ => rfl
  | l :: ls, s => by
    rw [sls_cons, List.map_cons, List.map_cons]
    show D.tup [lD l, rD s] :: zipD _ _ = D.tup [lD l, rD s] :: zsD P (s + l.2 / P) ls
    rw [zsD_eq ls]
theorem pn2 (h : Bd r) (p : Pu P W m) (x4 : Sl) : ∀ (rest pre : List Lo) (acc : List Rat) (u : Rat) (x6 x7 x8 x9 : Sl), r.ls = pre ++ rest → (∀ l ∈ pre, l.1 ≤ u) → (∀ l ∈ rest, u ≤ l.1) → Bm.In 192 15 u → acc.length + rest.length ≤ 100 →
    ∃ y6 y7 y8 y9, forL (gTL 2 (gsC (gTL 2 (gsC (gN 8) (gsC (gN 9) (gsN)))) (gsC (gN 6) (gsN)))) pn_2_b (zsD P (r.sl P pre) rest) [.val (ed r.x0 r.y0), .val (ed r.x1 r.y1), .val (LO r.ls), .val (rD P), x4, .own ((acc ++ [u]).map (pD r P)), x6, x7, x8, x9] none = some (.nx [.val (ed r.x0 r.y0), .val (ed r.x1 r.y1), .val (LO r.ls), .val (rD P), x4, .own ((acc ++ u :: rest.map (·.1)).map (pD r P)), y6, y7, y8, y9] none)
  | [], pre, acc, u, x6, x7, x8, x9, _, _, _, _, _ => ⟨x6, x7, x8, x9, rfl⟩
  | l :: rest, pre, acc, u, x6, x7, x8, x9, e, hu, hr, iu, ha => by
    rw [List.length_cons] at ha
    have hl : l ∈ r.ls := by rw [e]; simp
    have asc := h.ok.asc
    rw [e, List.pairwise_append, List.pairwise_cons] at asc
    have e2 : r.g P l.1 = r.g P u + r.sl P pre * (l.1 - u) := g_line h.ok e hu (hr l List.mem_cons_self) fun z hz => by
      rcases List.mem_cons.mp hz with rfl | hz
      · exact Rat.le_refl
      · exact Rat.le_of_lt (asc.2.1.1 z hz)
    have sg := h.s_g p iu
    have ss := h.s_sl p e
    have su := s192 iu
    have sa := h.s_a hl
    have t1 := minus_ok (sa.mono (by omega)) (su.mono (by omega : 15 ≤ 4000))
    have t2 := times_ok (ss.mono (by omega)) ((sa.sub su).mono (by omega : _ ≤ 4000))
    have t3 := plus_ok (sg.mono (by omega)) ((ss.mul (sa.sub su)).mono (by omega : _ ≤ 4000))
    rw [← e2] at t3
    obtain ⟨y6, y7, y8, y9, ih⟩ := pn2 h p x4 rest (pre ++ [l]) (acc ++ [u]) l.1 (.val (rD (r.sl P pre))) (.val (pD r P u)) (.val (rD l.1)) (.val (rD l.2)) (by rw [e, List.append_assoc]; rfl) (fun z hz => by
      rcases List.mem_append.mp hz with hz | hz
      · exact Rat.le_of_lt (asc.2.2 z hz l List.mem_cons_self)
      · rw [List.mem_singleton.mp hz]; exact Rat.le_refl) (fun z hz => Rat.le_of_lt (asc.2.1.1 z hz)) (h.a hl) (by rw [List.length_append, List.length_singleton]; omega)
    refine ⟨y6, y7, y8, y9, ?_⟩
    have iL : atI ((acc ++ [u]).map (pD r P)) (-1) = some (pD r P u) := by rw [List.map_append]; exact at_last _ _
    have zA : sized ((acc ++ [u]).map (pD r P)).length = true := by rw [List.length_map, List.length_append, List.length_singleton]; exact x_sized (by omega)
    have hA : (acc ++ [u] ++ [l.1]).map (pD r P) = (acc ++ [u]).map (pD r P) ++ [pD r P l.1] := by rw [List.map_append]; rfl
    have nu : noL (pD r P u) = true := rfl
    have k0 : pn_2_0 [.val (ed r.x0 r.y0), .val (ed r.x1 r.y1), .val (LO r.ls), .val (rD P), x4, .own ((acc ++ [u]).map (pD r P)), .val (rD (r.sl P pre)), x7, .val (rD l.1), .val (rD l.2)] none = some (.nx [.val (ed r.x0 r.y0), .val (ed r.x1 r.y1), .val (LO r.ls), .val (rD P), x4, .own ((acc ++ [u]).map (pD r P)), .val (rD (r.sl P pre)), .val (pD r P u), .val (rD l.1), .val (rD l.2)] none) := by
      generalize (acc ++ [u]).map (pD r P) = A at *
      generalize hq : pD r P u = q at *
      simp [pn_2_0, iL, nu]
    have k1 : pn_2_1 [.val (ed r.x0 r.y0), .val (ed r.x1 r.y1), .val (LO r.ls), .val (rD P), x4, .own ((acc ++ [u]).map (pD r P)), .val (rD (r.sl P pre)), .val (pD r P u), .val (rD l.1), .val (rD l.2)] none = some (.nx [.val (ed r.x0 r.y0), .val (ed r.x1 r.y1), .val (LO r.ls), .val (rD P), x4, .own ((acc ++ [u] ++ [l.1]).map (pD r P)), .val (rD (r.sl P pre)), .val (pD r P u), .val (rD l.1), .val (rD l.2)] none) := by
      rw [hA]
      unfold pD at *
      generalize (acc ++ [u]).map (fun x => D.tup [rD x, rD (r.g P x)]) = A at *
      generalize r.sl P pre = s0 at *
      generalize r.g P u = gu at *
      generalize r.g P l.1 = ga at *
      simp [pn_2_1, t1, t2, t3, zA]
    have hg : (gTL 2 (gsC (gTL 2 (gsC (gN 8) (gsC (gN 9) (gsN)))) (gsC (gN 6) (gsN)))) (D.tup [lD l, rD (r.sl P pre)]) [.val (ed r.x0 r.y0), .val (ed r.x1 r.y1), .val (LO r.ls), .val (rD P), x4, .own ((acc ++ [u]).map (pD r P)), x6, x7, x8, x9] = some [.val (ed r.x0 r.y0), .val (ed r.x1 r.y1), .val (LO r.ls), .val (rD P), x4, .own ((acc ++ [u]).map (pD r P)), .val (rD (r.sl P pre)), x7, .val (rD l.1), .val (rD l.2)] := by simp
    show forL _ _ (D.tup [lD l, rD (r.sl P pre)] :: zsD P (r.sl P pre + l.2 / P) rest) _ _ = _
    rw [x_forC, hg]
    simp only [Option.bind_some]
    rw [pn_2_b, x_sSeq, k0, x_nxN, k1, x_afN, ← pn_2_b, sl_step, ih]
    rw [List.append_assoc]; rfl
theorem pD_x0 (h : r.Ok) : pD r P r.x0 = ed r.x0 r.y0 := by unfold pD; rw [g_x0 h]
theorem pD_x1 (h : r.Ok) : pD r P r.x1 = ed r.x1 r.y1 := by unfold pD; rw [g_x1 h]
theorem points_ok (h : Bd r) (p : Pu P W m) : m_points [ed r.x0 r.y0, ed r.x1 r.y1, LO r.ls, rD P] = some (r.xs.map (pD r P)) := by
  have hl := h.len
  have es := slopes_ok h p
  have hc2 : (sls P (r.s0 P) r.ls).length = r.ls.length + 1 := by
    have key : ∀ (ls : List Lo) (s : Rat), (sls P s ls).length = ls.length + 1 := by
      intro ls
      induction ls with
      | nil => intro s; rfl
      | cons l ls ih => intro s; rw [sls_cons, List.length_cons, ih, List.length_cons]
    exact key _ _
  have zs := zsD_eq (P := P) r.ls (r.s0 P)
  obtain ⟨y6, y7, y8, y9, e2⟩ := pn2 h p (.val (.lst ((sls P (r.s0 P) r.ls).map rD))) r.ls [] [] r.x0 .un .un .un .un rfl (by simp) (fun l hl => Rat.le_of_lt (h.ok.bt l hl).1) h.x0 (by rw [List.length_nil]; omega)
  rw [sl_nil, List.nil_append] at e2
  have hx : r.xs.map (pD r P) = (r.x0 :: r.ls.map (·.1)).map (pD r P) ++ [ed r.x1 r.y1] := by
    unfold Rp.xs
    rw [← pD_x1 (P := P) h.ok, ← List.cons_append, List.map_append]; rfl
  have zA : sized ((r.x0 :: r.ls.map (·.1)).map (pD r P)).length = true := by rw [List.length_map, List.length_cons, List.length_map]; exact x_sized (by omega)
  have h0 : [ed r.x0 r.y0] = [r.x0].map (pD r P) := by show _ = [pD r P r.x0]; rw [pD_x0 h.ok]
  rw [hx]
  unfold m_points
  rw [pn_eq]
  simp only [x_runL, e0c, e0n, e00]
  have zS : sized ((sls P (r.s0 P) r.ls).map rD).length = true := by rw [List.length_map, hc2]; exact x_sized (by omega)
  have k0 : pn_0 [.val (ed r.x0 r.y0), .val (ed r.x1 r.y1), .val (LO r.ls), .val (rD P), .un, .un, .un, .un, .un, .un] none = some (.nx [.val (ed r.x0 r.y0), .val (ed r.x1 r.y1), .val (LO r.ls), .val (rD P), .val (.lst ((sls P (r.s0 P) r.ls).map rD)), .un, .un, .un, .un, .un] none) := by
    generalize (sls P (r.s0 P) r.ls).map rD = S at *
    simp [pn_0, es]
  have k1 : pn_1 [.val (ed r.x0 r.y0), .val (ed r.x1 r.y1), .val (LO r.ls), .val (rD P), .val (.lst ((sls P (r.s0 P) r.ls).map rD)), .un, .un, .un, .un, .un] none = some (.nx [.val (ed r.x0 r.y0), .val (ed r.x1 r.y1), .val (LO r.ls), .val (rD P), .val (.lst ((sls P (r.s0 P) r.ls).map rD)), .own ([r.x0].map (pD r P)), .un, .un, .un, .un] none) := by
    rw [← h0]
    generalize (sls P (r.s0 P) r.ls).map rD = S at *
    simp [pn_1]
  have k2 : pn_2 [.val (ed r.x0 r.y0), .val (ed r.x1 r.y1), .val (LO r.ls), .val (rD P), .val (.lst ((sls P (r.s0 P) r.ls).map rD)), .own ([r.x0].map (pD r P)), .un, .un, .un, .un] none = some (.nx [.val (ed r.x0 r.y0), .val (ed r.x1 r.y1), .val (LO r.ls), .val (rD P), .val (.lst ((sls P (r.s0 P) r.ls).map rD)), .own ((r.x0 :: r.ls.map (·.1)).map (pD r P)), y6, y7, y8, y9] none) := by
    unfold pn_2
    rw [x_sFor]
    have ki : mRng zipF (aCons (mV 2) (aCons (mV 4) (aNil))) (vw [] [.val (ed r.x0 r.y0), .val (ed r.x1 r.y1), .val (LO r.ls), .val (rD P), .val (.lst ((sls P (r.s0 P) r.ls).map rD)), .own ([r.x0].map (pD r P)), .un, .un, .un, .un]) none = some (zsD P (r.s0 P) r.ls, none) := by
      rw [← zs]
      generalize (sls P (r.s0 P) r.ls).map rD = S at *
      generalize [r.x0].map (pD r P) = F at *
      simp
    rw [ki]; exact e2
  have k3 : pn_3 [.val (ed r.x0 r.y0), .val (ed r.x1 r.y1), .val (LO r.ls), .val (rD P), .val (.lst ((sls P (r.s0 P) r.ls).map rD)), .own ((r.x0 :: r.ls.map (·.1)).map (pD r P)), y6, y7, y8, y9] none = some (.nx [.val (ed r.x0 r.y0), .val (ed r.x1 r.y1), .val (LO r.ls), .val (rD P), .val (.lst ((sls P (r.s0 P) r.ls).map rD)), .own ((r.x0 :: r.ls.map (·.1)).map (pD r P) ++ [ed r.x1 r.y1]), y6, y7, y8, y9] none) := by
    generalize (sls P (r.s0 P) r.ls).map rD = S at *
    generalize (r.x0 :: r.ls.map (·.1)).map (pD r P) = F at *
    simp [pn_3, zA]
  rw [x_sSeq, k0, x_nxN, x_sSeq, k1, x_nxN, x_sSeq, k2, x_nxN, x_sSeq, k3, x_nxN]
  generalize (r.x0 :: r.ls.map (·.1)).map (pD r P) = F at *
  simp [pn_4]
/-! the height at a place -/
abbrev prs (r : Rp) : List (Rat × Rat) := r.xs.zip r.xs.tail
theorem xs_len (r : Rp) : r.xs.length = r.ls.length + 2 := by unfold Rp.xs; simp
theorem prs_ok (h : Bd r) {q : Rat × Rat} (hq : q ∈ prs r) : Bm.In 192 15 q.1 ∧ Bm.In 192 15 q.2 ∧ q.1 < q.2 := by
  have h1 := List.of_mem_zip hq
  refine ⟨h.xs192 h1.1, h.xs192 (List.mem_of_mem_tail h1.2), ?_⟩
  have key : ∀ bs : List Rat, bs.Pairwise (· < ·) → ∀ q ∈ bs.zip bs.tail, q.1 < q.2 := by
    intro bs
    induction bs with
    | nil => intro _ q hq; simp at hq
    | cons b bs ih =>
      intro hs q hq
      rw [List.pairwise_cons] at hs
      cases bs with
      | nil => simp at hq
      | cons c cs =>
        rw [List.tail_cons, List.zip_cons_cons] at hq
        rcases List.mem_cons.mp hq with rfl | hq
        · exact hs.1 c List.mem_cons_self
        · exact ih hs.2 q hq
  exact key _ (xs_asc h.ok) q hq
theorem prs_ex (h : Bd r) {x : Rat} (h0 : r.x0 ≤ x) (h1 : x ≤ r.x1) : ∃ q ∈ prs r, q.1 ≤ x ∧ x ≤ q.2 := by
  have key : ∀ (bs : List Rat) (b : Rat), b ≤ x → (∃ w ∈ bs, x ≤ w) → ∃ q ∈ (b :: bs).zip bs, q.1 ≤ x ∧ x ≤ q.2 := by
    intro bs
    induction bs with
    | nil => intro b _ ⟨w, hw, _⟩; cases hw
    | cons c cs ih =>
      intro b hb ⟨w, hw, hxw⟩
      by_cases g : x ≤ c
      · exact ⟨(b, c), by simp, hb, g⟩
      · have hw' : w ∈ cs := by
          rcases List.mem_cons.mp hw with rfl | hw
          · exact absurd hxw g
          · exact hw
        obtain ⟨q, hq, e⟩ := ih c (by grind) ⟨w, hw', hxw⟩
        refine ⟨q, ?_, e⟩
        rw [List.zip_cons_cons]
        exact List.mem_cons_of_mem _ hq
  exact key _ r.x0 h0 ⟨r.x1, by simp, h1⟩
abbrev qD (r : Rp) (P : Rat) (q : Rat × Rat) : D := .tup [pD r P q.1, pD r P q.2]
theorem ha_skip (h : Bd r) {x : Rat} (sx : Sm 15 x) (x5 : Sl) {q : Rat × Rat} (hq : q ∈ prs r) (hn : ¬ (q.1 ≤ x ∧ x ≤ q.2)) (x8 : Sl) : ha_1_b [.val (ed r.x0 r.y0), .val (ed r.x1 r.y1), .val (LO r.ls), .val (rD P), .val (rD x), x5, .val (pD r P q.1), .val (pD r P q.2), x8] none = some (.nx [.val (ed r.x0 r.y0), .val (ed r.x1 r.y1), .val (LO r.ls), .val (rD P), .val (rD x), x5, .val (pD r P q.1), .val (pD r P q.2), x8] none) := by
  obtain ⟨i1, i2, lt⟩ := prs_ok h hq
  have t1 := less_ok (sx.mono (by omega)) ((s192 i1).mono (by omega : 15 ≤ 4000))
  have t2 := less_ok ((s192 i2).mono (by omega)) (sx.mono (by omega : 15 ≤ 4000))
  unfold pD
  generalize r.g P q.1 = g1 at *
  generalize r.g P q.2 = g2 at *
  by_cases c1 : x < q.1
  · rw [decide_eq_true c1] at t1
    simp [ha_1_b, ha_1_0, t1]
  · rw [decide_eq_false c1] at t1
    have c2 : q.2 < x := by grind
    rw [decide_eq_true c2] at t2
    simp [ha_1_b, ha_1_0, t1, t2]
theorem ha_hit (h : Bd r) (p : Pu P W m) {x : Rat} (ix : Bm.In 192 15 x) (x5 : Sl) {q : Rat × Rat} (hq : q ∈ prs r) (h1 : q.1 ≤ x) (h2 : x ≤ q.2) (x8 : Sl) : ∃ y8, ha_1_b [.val (ed r.x0 r.y0), .val (ed r.x1 r.y1), .val (LO r.ls), .val (rD P), .val (rD x), x5, .val (pD r P q.1), .val (pD r P q.2), x8] none = some (.rt (rD (r.g P x)) [.val (ed r.x0 r.y0), .val (ed r.x1 r.y1), .val (LO r.ls), .val (rD P), .val (rD x), x5, .val (pD r P q.1), .val (pD r P q.2), y8] none) := by
  obtain ⟨i1, i2, lt⟩ := prs_ok h hq
  have sx := s192 ix
  have e := seg_all (P := P) h.ok hq h1 h2
  have t1 := less_ok (sx.mono (by omega)) ((s192 i1).mono (by omega : 15 ≤ 4000))
  have t2 := less_ok ((s192 i2).mono (by omega)) (sx.mono (by omega : 15 ≤ 4000))
  rw [decide_eq_false (Rat.not_lt.mpr h1)] at t1
  rw [decide_eq_false (Rat.not_lt.mpr h2)] at t2
  have g1 := h.s_g p i1
  have g2 := h.s_g p i2
  have s1 := s192 i1
  have s2 := s192 i2
  have u1 := minus_ok (g2.mono (by omega)) (g1.mono (by omega : 300 ≤ 4000))
  have u2 := minus_ok (s2.mono (by omega)) (s1.mono (by omega : 15 ≤ 4000))
  have nd : q.2 - q.1 ≠ 0 := by grind
  have u3 := over_ok ((g2.sub g1).mono (by omega)) ((s2.sub s1).mono (by omega : _ ≤ 4000)) nd
  have u4 := minus_ok (sx.mono (by omega)) (s1.mono (by omega : 15 ≤ 4000))
  have sq := (g2.sub g1).div (s2.sub s1) nd
  have u5 := times_ok (sq.mono (by omega)) ((sx.sub s1).mono (by omega : _ ≤ 4000))
  have u6 := plus_ok (g1.mono (by omega)) ((sq.mul (sx.sub s1)).mono (by omega : _ ≤ 4000))
  rw [← e] at u6
  refine ⟨.val (rD ((r.g P q.2 - r.g P q.1) / (q.2 - q.1))), ?_⟩
  unfold pD
  generalize r.g P q.1 = G1 at *
  generalize r.g P q.2 = G2 at *
  generalize r.g P x = G at *
  simp [ha_1_b, ha_1_0, t1, t2, u1, u2, u3, u4, u5, u6]
theorem ha_loop (h : Bd r) (p : Pu P W m) {x : Rat} (ix : Bm.In 192 15 x) (x5 : Sl) : ∀ (zs : List (Rat × Rat)) (x6 x7 x8 : Sl), (∀ q ∈ zs, q ∈ prs r) → (∃ q ∈ zs, q.1 ≤ x ∧ x ≤ q.2) → ∃ E', forL (gTL 2 (gsC (gN 6) (gsC (gN 7) (gsN)))) ha_1_b (zs.map (qD r P)) [.val (ed r.x0 r.y0), .val (ed r.x1 r.y1), .val (LO r.ls), .val (rD P), .val (rD x), x5, x6, x7, x8] none = some (.rt (rD (r.g P x)) E' none)
  | [], x6, x7, x8, _, ⟨q, hq, _⟩ => by cases hq
  | q :: zs, x6, x7, x8, hz, ⟨q', hq', hx⟩ => by
    have hq0 := hz q List.mem_cons_self
    have hg : (gTL 2 (gsC (gN 6) (gsC (gN 7) (gsN)))) (qD r P q) [.val (ed r.x0 r.y0), .val (ed r.x1 r.y1), .val (LO r.ls), .val (rD P), .val (rD x), x5, x6, x7, x8] = some [.val (ed r.x0 r.y0), .val (ed r.x1 r.y1), .val (LO r.ls), .val (rD P), .val (rD x), x5, .val (pD r P q.1), .val (pD r P q.2), x8] := by simp
    rw [List.map_cons, x_forC, hg]
    simp only [Option.bind_some]
    by_cases c : q.1 ≤ x ∧ x ≤ q.2
    · obtain ⟨y8, k⟩ := ha_hit h p ix x5 hq0 c.1 c.2 x8
      exact ⟨_, by rw [k]; rfl⟩
    · have k := ha_skip (P := P) h (s192 ix) x5 hq0 c x8
      have hq2 : q' ∈ zs := by
        rcases List.mem_cons.mp hq' with rfl | hq'
        · exact absurd hx c
        · exact hq'
      obtain ⟨E', ih⟩ := ha_loop h p ix x5 zs (.val (pD r P q.1)) (.val (pD r P q.2)) x8 (fun z hz' => hz z (List.mem_cons_of_mem _ hz')) ⟨q', hq2, hx⟩
      exact ⟨E', by rw [k, x_afN, ih]⟩
theorem ha_none (h : Bd r) {x : Rat} (sx : Sm 15 x) (x5 : Sl) : ∀ (zs : List (Rat × Rat)) (x6 x7 x8 : Sl), (∀ q ∈ zs, q ∈ prs r) → (∀ q ∈ zs, x < q.1) → ∃ y6 y7 y8, forL (gTL 2 (gsC (gN 6) (gsC (gN 7) (gsN)))) ha_1_b (zs.map (qD r P)) [.val (ed r.x0 r.y0), .val (ed r.x1 r.y1), .val (LO r.ls), .val (rD P), .val (rD x), x5, x6, x7, x8] none = some (.nx [.val (ed r.x0 r.y0), .val (ed r.x1 r.y1), .val (LO r.ls), .val (rD P), .val (rD x), x5, y6, y7, y8] none)
  | [], x6, x7, x8, _, _ => ⟨x6, x7, x8, rfl⟩
  | q :: zs, x6, x7, x8, hz, hx => by
    have hq0 := hz q List.mem_cons_self
    have k := ha_skip (P := P) h sx x5 hq0 (fun c => by have := hx q List.mem_cons_self; grind) x8
    obtain ⟨y6, y7, y8, ih⟩ := ha_none h sx x5 zs (.val (pD r P q.1)) (.val (pD r P q.2)) x8 (fun z hz' => hz z (List.mem_cons_of_mem _ hz')) fun z hz' => hx z (List.mem_cons_of_mem _ hz')
    refine ⟨y6, y7, y8, ?_⟩
    have hg : (gTL 2 (gsC (gN 6) (gsC (gN 7) (gsN)))) (qD r P q) [.val (ed r.x0 r.y0), .val (ed r.x1 r.y1), .val (LO r.ls), .val (rD P), .val (rD x), x5, x6, x7, x8] = some [.val (ed r.x0 r.y0), .val (ed r.x1 r.y1), .val (LO r.ls), .val (rD P), .val (rD x), x5, .val (pD r P q.1), .val (pD r P q.2), x8] := by simp
    rw [List.map_cons, x_forC, hg]
    simp only [Option.bind_some]
    rw [k, x_afN, ih]
theorem height_ok (h : Bd r) (p : Pu P W m) {x : Rat} (ix : Bm.In 192 15 x) (h0 : r.x0 ≤ x) (h1 : x ≤ r.x1) : m_height_at [ed r.x0 r.y0, ed r.x1 r.y1, LO r.ls, rD P, rD x] = some (rD (r.g P x)) := by
  have es := points_ok h p
  have hne : 1 ≤ (r.xs.map (pD r P)).length := by rw [List.length_map, xs_len]; omega
  have hcut := cut_drop (r.xs.map (pD r P)) 1 hne
  have hc2 : cutD (r.xs.map (pD r P)) (some 1) none = r.xs.tail.map (pD r P) := by
    rw [show (1 : Int) = ((1 : Nat) : Int) from rfl, hcut, List.drop_one, List.map_tail]
  have zz := zipD_two (pD r P) (pD r P) r.xs r.xs.tail
  unfold m_height_at
  rw [ha_eq]
  simp only [x_runF, e0c, e0n, e00]
  have k0 : ha_0 [.val (ed r.x0 r.y0), .val (ed r.x1 r.y1), .val (LO r.ls), .val (rD P), .val (rD x), .un, .un, .un, .un] none = some (.nx [.val (ed r.x0 r.y0), .val (ed r.x1 r.y1), .val (LO r.ls), .val (rD P), .val (rD x), .val (.lst (r.xs.map (pD r P))), .un, .un, .un] none) := by
    generalize r.xs.map (pD r P) = XS at *
    simp [ha_0, es]
  have ki : mRng zipF (aCons (mV 5) (aCons (mSl (mV 5) (oSome (mC (.int 1))) (oNo)) (aNil))) (vw [] [.val (ed r.x0 r.y0), .val (ed r.x1 r.y1), .val (LO r.ls), .val (rD P), .val (rD x), .val (.lst (r.xs.map (pD r P))), .un, .un, .un]) none = some ((prs r).map (qD r P), none) := by
    unfold prs qD
    rw [← zz]
    generalize r.xs.map (pD r P) = XS at *
    generalize r.xs.tail.map (pD r P) = XT at *
    simp [hc2]
  obtain ⟨E', e⟩ := ha_loop h p ix (.val (.lst (r.xs.map (pD r P)))) (prs r) .un .un .un (fun q hq => hq) (prs_ex h h0 h1)
  rw [x_sSeq, k0, x_nxN, x_sSeq]
  unfold ha_1
  rw [x_sFor, ki]
  simp only [Option.bind_some, x_frz0]
  rw [e]
  rfl
theorem height_none (h : Bd r) (p : Pu P W m) {x : Rat} (sx : Sm 15 x) (h0 : x < r.x0) : m_height_at [ed r.x0 r.y0, ed r.x1 r.y1, LO r.ls, rD P, rD x] = some .non := by
  have es := points_ok h p
  have hne : 1 ≤ (r.xs.map (pD r P)).length := by rw [List.length_map, xs_len]; omega
  have hcut := cut_drop (r.xs.map (pD r P)) 1 hne
  have hc2 : cutD (r.xs.map (pD r P)) (some 1) none = r.xs.tail.map (pD r P) := by
    rw [show (1 : Int) = ((1 : Nat) : Int) from rfl, hcut, List.drop_one, List.map_tail]
  have zz := zipD_two (pD r P) (pD r P) r.xs r.xs.tail
  unfold m_height_at
  rw [ha_eq]
  simp only [x_runF, e0c, e0n, e00]
  have k0 : ha_0 [.val (ed r.x0 r.y0), .val (ed r.x1 r.y1), .val (LO r.ls), .val (rD P), .val (rD x), .un, .un, .un, .un] none = some (.nx [.val (ed r.x0 r.y0), .val (ed r.x1 r.y1), .val (LO r.ls), .val (rD P), .val (rD x), .val (.lst (r.xs.map (pD r P))), .un, .un, .un] none) := by
    generalize r.xs.map (pD r P) = XS at *
    simp [ha_0, es]
  have ki : mRng zipF (aCons (mV 5) (aCons (mSl (mV 5) (oSome (mC (.int 1))) (oNo)) (aNil))) (vw [] [.val (ed r.x0 r.y0), .val (ed r.x1 r.y1), .val (LO r.ls), .val (rD P), .val (rD x), .val (.lst (r.xs.map (pD r P))), .un, .un, .un]) none = some ((prs r).map (qD r P), none) := by
    unfold prs qD
    rw [← zz]
    generalize r.xs.map (pD r P) = XS at *
    generalize r.xs.tail.map (pD r P) = XT at *
    simp [hc2]
  have asc := xs_asc h.ok
  obtain ⟨y6, y7, y8, e⟩ := ha_none (P := P) h sx (.val (.lst (r.xs.map (pD r P)))) (prs r) .un .un .un (fun q hq => hq) (fun q hq => by
    have h1 := (List.of_mem_zip hq).1
    have : r.x0 ≤ q.1 := by
      unfold Rp.xs at h1
      rcases List.mem_cons.mp h1 with e | h1
      · rw [e]; exact Rat.le_refl
      · unfold Rp.xs at asc
        exact Rat.le_of_lt ((List.pairwise_cons.mp asc).1 _ h1)
    grind)
  rw [x_sSeq, k0, x_nxN, x_sSeq]
  unfold ha_1
  rw [x_sFor, ki]
  simp only [Option.bind_some, x_frz0]
  rw [e, x_nxN]
  simp [ha_2]
/-! the sag -/
theorem sag_eq (x : Rat) : r.line x - r.g P x = r.M x / P := by unfold Rp.g; grind
theorem sag_ok (h : Bd r) (p : Pu P W m) {x : Rat} (ix : Bm.In 192 15 x) (h0 : r.x0 ≤ x) (h1 : x ≤ r.x1) : m_sag [ed r.x0 r.y0, ed r.x1 r.y1, LO r.ls, rD P, rD x] = some (rD (r.M x / P)) := by
  have w0 := w_ne h.ok
  have t1 := minus_ok (h.s_y1.mono (by omega)) (h.s_y0.mono (by omega : 6 ≤ 4000))
  have t2 := minus_ok (h.s_x1.mono (by omega)) (h.s_x0.mono (by omega : 10 ≤ 4000))
  have t2' : m_minus [rD r.x1, rD r.x0] = some (rD r.w) := t2
  have sw : Sm 21 r.w := h.s_x1.sub h.s_x0
  have t3 := over_ok ((h.s_y1.sub h.s_y0).mono (by omega)) (sw.mono (by omega : 21 ≤ 4000)) w0
  have ss : Sm 34 ((r.y1 - r.y0) / r.w) := (h.s_y1.sub h.s_y0).div sw w0
  have t4 := minus_ok ((s192 ix).mono (by omega)) (h.s_x0.mono (by omega : 10 ≤ 4000))
  have t5 := times_ok (ss.mono (by omega)) (((s192 ix).sub h.s_x0).mono (by omega : _ ≤ 4000))
  have t6 := plus_ok (h.s_y0.mono (by omega)) ((ss.mul ((s192 ix).sub h.s_x0)).mono (by omega : _ ≤ 4000))
  have t6' : m_plus [rD r.y0, rD ((r.y1 - r.y0) / r.w * (x - r.x0))] = some (rD (r.line x)) := t6
  have eh := height_ok h p ix h0 h1
  have t7 := minus_ok ((h.s_line ix).mono (by omega)) ((h.s_g p ix).mono (by omega : 300 ≤ 4000))
  rw [sag_eq] at t7
  unfold m_sag
  rw [sa_eq]
  simp only [x_runF, e0c, e0n, e00]
  have k0 : sa_0 [.val (ed r.x0 r.y0), .val (ed r.x1 r.y1), .val (LO r.ls), .val (rD P), .val (rD x), .un, .un] none = some (.nx [.val (ed r.x0 r.y0), .val (ed r.x1 r.y1), .val (LO r.ls), .val (rD P), .val (rD x), .val (rD ((r.y1 - r.y0) / r.w)), .un] none) := by simp [sa_0, t1, t2', t3]
  have k1 : sa_1 [.val (ed r.x0 r.y0), .val (ed r.x1 r.y1), .val (LO r.ls), .val (rD P), .val (rD x), .val (rD ((r.y1 - r.y0) / r.w)), .un] none = some (.nx [.val (ed r.x0 r.y0), .val (ed r.x1 r.y1), .val (LO r.ls), .val (rD P), .val (rD x), .val (rD ((r.y1 - r.y0) / r.w)), .val (rD (r.line x))] none) := by
    generalize (r.y1 - r.y0) / r.w = s at *
    simp [sa_1, t4, t5, t6']
  rw [x_sSeq, k0, x_nxN, x_sSeq, k1, x_nxN]
  generalize r.line x = l at *
  generalize r.g P x = g at *
  simp [sa_2, eh, t7]
theorem lineown_ok (h : Bd r) {x : Rat} (ix : Bm.In 192 15 x) : m__law_line_own [ed r.x0 r.y0, ed r.x1 r.y1, rD x] = some (rD (r.line x)) := by
  have w0 := w_ne h.ok
  have t1 := _law_sub_ok (h.s_y1.mono (by omega)) (h.s_y0.mono (by omega : 6 ≤ 4000))
  have t2 := _law_sub_ok (h.s_x1.mono (by omega)) (h.s_x0.mono (by omega : 10 ≤ 4000))
  have t2' : m__law_sub [rD r.x1, rD r.x0] = some (rD r.w) := t2
  have sw : Sm 21 r.w := h.s_x1.sub h.s_x0
  have t3 := _law_div_ok ((h.s_y1.sub h.s_y0).mono (by omega)) (sw.mono (by omega : 21 ≤ 4000)) w0
  have ss : Sm 34 ((r.y1 - r.y0) / r.w) := (h.s_y1.sub h.s_y0).div sw w0
  have t4 := _law_sub_ok ((s192 ix).mono (by omega)) (h.s_x0.mono (by omega : 10 ≤ 4000))
  have t5 := _law_mul_ok (ss.mono (by omega)) (((s192 ix).sub h.s_x0).mono (by omega : _ ≤ 4000))
  have t6 := _law_add_ok (h.s_y0.mono (by omega)) ((ss.mul ((s192 ix).sub h.s_x0)).mono (by omega : _ ≤ 4000))
  have t6' : m__law_add [rD r.y0, rD ((r.y1 - r.y0) / r.w * (x - r.x0))] = some (rD (r.line x)) := t6
  unfold m__law_line_own
  rw [vl_eq]
  simp only [x_runF, e0c, e0n, e00]
  have k0 : vl_0 [.val (ed r.x0 r.y0), .val (ed r.x1 r.y1), .val (rD x), .un] none = some (.nx [.val (ed r.x0 r.y0), .val (ed r.x1 r.y1), .val (rD x), .val (rD ((r.y1 - r.y0) / r.w))] none) := by simp [vl_0, t1, t2', t3]
  rw [x_sSeq, k0, x_nxN]
  generalize (r.y1 - r.y0) / r.w = s at *
  simp [vl_1, t4, t5, t6']
/-! the moment of the law -/
theorem num_gt0 (q : Rat) : 0 < q.num ↔ 0 < q := by
  constructor
  · intro g
    have q1 : ¬ q < 0 := fun h => by have := (num_lt0 q).mpr h; omega
    have q2 : q ≠ 0 := fun h => by rw [h] at g; exact absurd g (by decide)
    grind
  · intro g
    have : ¬ q.num < 0 := fun h => by have := (num_lt0 q).mp h; grind
    have : q.num ≠ 0 := num_ne (by grind)
    omega
theorem rat_num (q : Rat) : dIx (rD q) (.int 0) = some (.int q.num) := by simp [rD]
theorem gt_rat (q : Rat) : dGt (.int q.num) (.int 0) = some (.bl (decide (0 < q))) := by
  have : decide (0 < q) = decide (q.num > 0) := by
    rw [Bool.eq_iff_iff, decide_eq_true_eq, decide_eq_true_eq]; exact (num_gt0 q).symm
  rw [this]; rfl
theorem sf_sm {n : Nat} {g : Lo → Rat} : ∀ (ls : List Lo), (∀ l ∈ ls, Sm n (g l)) → Sm (1 + ls.length * (n + 1)) (sf g ls)
  | [], _ => Sm.zero (by omega)
  | l :: ls, h => by
    rw [List.length_cons, Nat.succ_mul]
    exact ((h l List.mem_cons_self).add (sf_sm ls fun z hz => h z (List.mem_cons_of_mem _ hz))).mono (by omega)
theorem vm2 (h : Bd r) {x : Rat} : ∀ (rest pre : List Lo) (x7 x8 : Sl), r.ls = pre ++ rest →
    ∃ y7 y8, forL (gTL 2 (gsC (gN 7) (gsC (gN 8) (gsN)))) vm_2_b (rest.map lD) [.val (ed r.x0 r.y0), .val (ed r.x1 r.y1), .val (LO r.ls), .val (rD x), .val (rD r.w), .val (rD (sf (fun l => l.2 * (r.x1 - l.1) / r.w) pre)), .un, x7, x8] none = some (.nx [.val (ed r.x0 r.y0), .val (ed r.x1 r.y1), .val (LO r.ls), .val (rD x), .val (rD r.w), .val (rD (sf (fun l => l.2 * (r.x1 - l.1) / r.w) r.ls)), .un, y7, y8] none)
  | [], pre, x7, x8, e => ⟨x7, x8, by rw [e, List.append_nil]; rfl⟩
  | l :: rest, pre, x7, x8, e => by
    have hl : l ∈ r.ls := by rw [e]; simp
    have w0 := w_ne h.ok
    have sw : Sm 21 r.w := h.s_x1.sub h.s_x0
    have each : ∀ z ∈ r.ls, Sm 47 (z.2 * (r.x1 - z.1) / r.w) := fun z hz => ((h.s_f hz).mul (h.s_x1.sub (h.s_a hz))).div sw w0
    have pl := pre_len h e
    have sp : Sm 400 (sf (fun l => l.2 * (r.x1 - l.1) / r.w) pre) := (sf_sm pre fun z hz => each z (pre_mem e hz)).mono (by
      have : pre.length * (47 + 1) ≤ 7 * (47 + 1) := Nat.mul_le_mul_right _ pl
      omega)
    have t1 := _law_sub_ok (h.s_x1.mono (by omega)) ((h.s_a hl).mono (by omega : 10 ≤ 4000))
    have t2 := _law_mul_ok ((h.s_f hl).mono (by omega)) ((h.s_x1.sub (h.s_a hl)).mono (by omega : _ ≤ 4000))
    have t3 := _law_div_ok (((h.s_f hl).mul (h.s_x1.sub (h.s_a hl))).mono (by omega)) (sw.mono (by omega : 21 ≤ 4000)) w0
    have t4 := _law_add_ok (sp.mono (by omega)) ((each l hl).mono (by omega : 47 ≤ 4000))
    rw [← sf_one (fun l => l.2 * (r.x1 - l.1) / r.w)] at t4
    obtain ⟨y7, y8, ih⟩ := vm2 h (x := x) rest (pre ++ [l]) (.val (rD l.1)) (.val (rD l.2)) (by rw [e, List.append_assoc]; rfl)
    refine ⟨y7, y8, ?_⟩
    have k : vm_2_b [.val (ed r.x0 r.y0), .val (ed r.x1 r.y1), .val (LO r.ls), .val (rD x), .val (rD r.w), .val (rD (sf (fun l => l.2 * (r.x1 - l.1) / r.w) pre)), .un, .val (rD l.1), .val (rD l.2)] none = some (.nx [.val (ed r.x0 r.y0), .val (ed r.x1 r.y1), .val (LO r.ls), .val (rD x), .val (rD r.w), .val (rD (sf (fun l => l.2 * (r.x1 - l.1) / r.w) (pre ++ [l]))), .un, .val (rD l.1), .val (rD l.2)] none) := by
      generalize sf (fun l => l.2 * (r.x1 - l.1) / r.w) pre = A at *
      generalize sf (fun l => l.2 * (r.x1 - l.1) / r.w) (pre ++ [l]) = B at *
      simp [vm_2_b, vm_2_0, t1, t2, t3, t4]
    have hg : (gTL 2 (gsC (gN 7) (gsC (gN 8) (gsN)))) (lD l) [.val (ed r.x0 r.y0), .val (ed r.x1 r.y1), .val (LO r.ls), .val (rD x), .val (rD r.w), .val (rD (sf (fun l => l.2 * (r.x1 - l.1) / r.w) pre)), .un, x7, x8] = some [.val (ed r.x0 r.y0), .val (ed r.x1 r.y1), .val (LO r.ls), .val (rD x), .val (rD r.w), .val (rD (sf (fun l => l.2 * (r.x1 - l.1) / r.w) pre)), .un, .val (rD l.1), .val (rD l.2)] := by simp
    rw [List.map_cons, x_forC, hg]
    simp only [Option.bind_some]
    rw [k, x_afN, ih]
theorem vm4 (h : Bd r) {x : Rat} (ix : Bm.In 192 15 x) (x5 : Sl) : ∀ (rest pre : List Lo) (x7 x8 : Sl), r.ls = pre ++ rest →
    ∃ y7 y8, forL (gTL 2 (gsC (gN 7) (gsC (gN 8) (gsN)))) vm_4_b (rest.map lD) [.val (ed r.x0 r.y0), .val (ed r.x1 r.y1), .val (LO r.ls), .val (rD x), .val (rD r.w), x5, .val (rD (r.sup * (x - r.x0) - sf (fun l => if l.1 < x then l.2 * (x - l.1) else 0) pre)), x7, x8] none = some (.nx [.val (ed r.x0 r.y0), .val (ed r.x1 r.y1), .val (LO r.ls), .val (rD x), .val (rD r.w), x5, .val (rD (r.M x)), y7, y8] none)
  | [], pre, x7, x8, e => ⟨x7, x8, by unfold Rp.M; rw [e, List.append_nil]; rfl⟩
  | l :: rest, pre, x7, x8, e => by
    have hl : l ∈ r.ls := by rw [e]; simp
    have sx := s192 ix
    have ssup : Sm 400 r.sup := by
      have w0 := w_ne h.ok
      have sw : Sm 21 r.w := h.s_x1.sub h.s_x0
      have := (sf_sm (n := 26) r.ls fun z hz => ((h.s_f hz).mul (h.s_x1.sub (h.s_a hz))))
      have q : r.ls.length * (26 + 1) ≤ 6 * (26 + 1) := Nat.mul_le_mul_right _ h.len
      exact (this.div sw w0).mono (by omega)
    have each : ∀ z ∈ r.ls, Sm 31 (if z.1 < x then z.2 * (x - z.1) else 0) := fun z hz => by
      split
      · exact (h.s_f hz).mul (sx.sub (h.s_a hz))
      · exact Sm.zero (by decide)
    have pl := pre_len h e
    have sp : Sm 400 (sf (fun l => if l.1 < x then l.2 * (x - l.1) else 0) pre) := (sf_sm pre fun z hz => each z (pre_mem e hz)).mono (by
      have : pre.length * (31 + 1) ≤ 7 * (31 + 1) := Nat.mul_le_mul_right _ pl
      omega)
    have sA := (ssup.mul (sx.sub h.s_x0)).sub sp
    have t1 := _law_sub_ok (sx.mono (by omega)) ((h.s_a hl).mono (by omega : 10 ≤ 4000))
    have t2 := _law_mul_ok ((h.s_f hl).mono (by omega)) ((sx.sub (h.s_a hl)).mono (by omega : _ ≤ 4000))
    have t3 := _law_sub_ok (sA.mono (by omega)) (((h.s_f hl).mul (sx.sub (h.s_a hl))).mono (by omega : _ ≤ 4000))
    have gt := gt_rat (x - l.1)
    obtain ⟨y7, y8, ih⟩ := vm4 h ix x5 rest (pre ++ [l]) (.val (rD l.1)) (.val (rD l.2)) (by rw [e, List.append_assoc]; rfl)
    refine ⟨y7, y8, ?_⟩
    have k : vm_4_b [.val (ed r.x0 r.y0), .val (ed r.x1 r.y1), .val (LO r.ls), .val (rD x), .val (rD r.w), x5, .val (rD (r.sup * (x - r.x0) - sf (fun l => if l.1 < x then l.2 * (x - l.1) else 0) pre)), .val (rD l.1), .val (rD l.2)] none = some (.nx [.val (ed r.x0 r.y0), .val (ed r.x1 r.y1), .val (LO r.ls), .val (rD x), .val (rD r.w), x5, .val (rD (r.sup * (x - r.x0) - sf (fun l => if l.1 < x then l.2 * (x - l.1) else 0) (pre ++ [l]))), .val (rD l.1), .val (rD l.2)] none) := by
      rw [sf_one]
      by_cases c : l.1 < x
      · rw [decide_eq_true (show 0 < x - l.1 by grind)] at gt
        rw [if_pos c]
        rw [show r.sup * (x - r.x0) - sf (fun l => if l.1 < x then l.2 * (x - l.1) else 0) pre - l.2 * (x - l.1) = r.sup * (x - r.x0) - (sf (fun l => if l.1 < x then l.2 * (x - l.1) else 0) pre + l.2 * (x - l.1)) by grind] at t3
        generalize r.sup * (x - r.x0) - sf (fun l => if l.1 < x then l.2 * (x - l.1) else 0) pre = A at *
        generalize r.sup * (x - r.x0) - (sf (fun l => if l.1 < x then l.2 * (x - l.1) else 0) pre + l.2 * (x - l.1)) = B at *
        simp [vm_4_b, vm_4_0, t1, rat_num, gt, t2, t3]
      · rw [decide_eq_false (show ¬ 0 < x - l.1 by grind)] at gt
        rw [if_neg c, Rat.add_zero]
        generalize r.sup * (x - r.x0) - sf (fun l => if l.1 < x then l.2 * (x - l.1) else 0) pre = A at *
        simp [vm_4_b, vm_4_0, t1, rat_num, gt]
    have hg : (gTL 2 (gsC (gN 7) (gsC (gN 8) (gsN)))) (lD l) [.val (ed r.x0 r.y0), .val (ed r.x1 r.y1), .val (LO r.ls), .val (rD x), .val (rD r.w), x5, .val (rD (r.sup * (x - r.x0) - sf (fun l => if l.1 < x then l.2 * (x - l.1) else 0) pre)), x7, x8] = some [.val (ed r.x0 r.y0), .val (ed r.x1 r.y1), .val (LO r.ls), .val (rD x), .val (rD r.w), x5, .val (rD (r.sup * (x - r.x0) - sf (fun l => if l.1 < x then l.2 * (x - l.1) else 0) pre)), .val (rD l.1), .val (rD l.2)] := by simp
    rw [List.map_cons, x_forC, hg]
    simp only [Option.bind_some]
    rw [k, x_afN, ih]
theorem moment_ok (h : Bd r) {x : Rat} (ix : Bm.In 192 15 x) : m__law_moment [ed r.x0 r.y0, ed r.x1 r.y1, LO r.ls, rD x] = some (rD (r.M x)) := by
  have t1 := _law_sub_ok (h.s_x1.mono (by omega)) (h.s_x0.mono (by omega : 10 ≤ 4000))
  have t1' : m__law_sub [rD r.x1, rD r.x0] = some (rD r.w) := t1
  obtain ⟨y7, y8, e2⟩ := vm2 h (x := x) r.ls [] .un .un rfl
  have es : sf (fun l => l.2 * (r.x1 - l.1) / r.w) r.ls = r.sup := by
    unfold Rp.sup
    rw [Rat.div_def, Rat.mul_comm, ← sf_mul]
    exact sf_congr fun l _ => by rw [Rat.div_def]; grind
  have ssup : Sm 400 r.sup := by
    have w0 := w_ne h.ok
    have sw : Sm 21 r.w := h.s_x1.sub h.s_x0
    have := (sf_sm (n := 26) r.ls fun z hz => ((h.s_f hz).mul (h.s_x1.sub (h.s_a hz))))
    have q : r.ls.length * (26 + 1) ≤ 6 * (26 + 1) := Nat.mul_le_mul_right _ h.len
    exact (this.div sw w0).mono (by omega)
  rw [es] at e2
  have t2 := _law_sub_ok ((s192 ix).mono (by omega)) (h.s_x0.mono (by omega : 10 ≤ 4000))
  have t3 := _law_mul_ok (ssup.mono (by omega)) (((s192 ix).sub h.s_x0).mono (by omega : _ ≤ 4000))
  obtain ⟨z7, z8, e4⟩ := vm4 h ix (.val (rD r.sup)) r.ls [] y7 y8 rfl
  rw [show r.sup * (x - r.x0) - sf (fun l => if l.1 < x then l.2 * (x - l.1) else 0) [] = r.sup * (x - r.x0) by show _ - 0 = _; grind] at e4
  unfold m__law_moment
  rw [vm_eq]
  simp only [x_runF, e0c, e0n, e00]
  have k0 : vm_0 [.val (ed r.x0 r.y0), .val (ed r.x1 r.y1), .val (LO r.ls), .val (rD x), .un, .un, .un, .un, .un] none = some (.nx [.val (ed r.x0 r.y0), .val (ed r.x1 r.y1), .val (LO r.ls), .val (rD x), .val (rD r.w), .un, .un, .un, .un] none) := by simp [vm_0, t1']
  have k1 : vm_1 [.val (ed r.x0 r.y0), .val (ed r.x1 r.y1), .val (LO r.ls), .val (rD x), .val (rD r.w), .un, .un, .un, .un] none = some (.nx [.val (ed r.x0 r.y0), .val (ed r.x1 r.y1), .val (LO r.ls), .val (rD x), .val (rD r.w), .val (rD 0), .un, .un, .un] none) := by simp [vm_1, tup01]
  have k2 : vm_2 [.val (ed r.x0 r.y0), .val (ed r.x1 r.y1), .val (LO r.ls), .val (rD x), .val (rD r.w), .val (rD 0), .un, .un, .un] none = some (.nx [.val (ed r.x0 r.y0), .val (ed r.x1 r.y1), .val (LO r.ls), .val (rD x), .val (rD r.w), .val (rD r.sup), .un, y7, y8] none) := by
    unfold vm_2
    rw [x_sFor]
    have ki : mIt itD (mV 2) (vw [] [.val (ed r.x0 r.y0), .val (ed r.x1 r.y1), .val (LO r.ls), .val (rD x), .val (rD r.w), .val (rD 0), .un, .un, .un]) none = some (r.ls.map lD, none) := by simp
    rw [ki]; exact e2
  have k3 : vm_3 [.val (ed r.x0 r.y0), .val (ed r.x1 r.y1), .val (LO r.ls), .val (rD x), .val (rD r.w), .val (rD r.sup), .un, y7, y8] none = some (.nx [.val (ed r.x0 r.y0), .val (ed r.x1 r.y1), .val (LO r.ls), .val (rD x), .val (rD r.w), .val (rD r.sup), .val (rD (r.sup * (x - r.x0))), y7, y8] none) := by simp [vm_3, t2, t3]
  have k4 : vm_4 [.val (ed r.x0 r.y0), .val (ed r.x1 r.y1), .val (LO r.ls), .val (rD x), .val (rD r.w), .val (rD r.sup), .val (rD (r.sup * (x - r.x0))), y7, y8] none = some (.nx [.val (ed r.x0 r.y0), .val (ed r.x1 r.y1), .val (LO r.ls), .val (rD x), .val (rD r.w), .val (rD r.sup), .val (rD (r.M x)), z7, z8] none) := by
    unfold vm_4
    rw [x_sFor]
    have ki : mIt itD (mV 2) (vw [] [.val (ed r.x0 r.y0), .val (ed r.x1 r.y1), .val (LO r.ls), .val (rD x), .val (rD r.w), .val (rD r.sup), .val (rD (r.sup * (x - r.x0))), y7, y8]) none = some (r.ls.map lD, none) := by simp
    rw [ki]; exact e4
  rw [x_sSeq, k0, x_nxN, x_sSeq, k1, x_nxN, x_sSeq, k2, x_nxN, x_sSeq, k3, x_nxN, x_sSeq, k4, x_nxN]
  simp [vm_5]
end N12
end Lw
set_option Elab.async false
set_option linter.all false
set_option maxRecDepth 100000
set_option maxHeartbeats 4000000
namespace Lw
open PySem PySem.Spec PyProof.Rows L2 Dn
namespace N12
theorem in6 {a q : Int} {n : Nat} (hq : q = 1 ∨ q = 2 ∨ q = 3) (ha : a.natAbs * 6 < 2 ^ n) : Bm.In 6 n ((a : Rat) / (q : Rat)) := by
  have k : ((6 : Nat) : Int) = 6 := rfl
  rcases hq with rfl | rfl | rfl
  · refine ⟨by decide, a * 6, ?_, by omega⟩
    rw [k, Rat.intCast_mul, show ((1 : Int) : Rat) = 1 from rfl, show ((6 : Int) : Rat) = 6 from rfl]; grind
  · refine ⟨by decide, a * 3, ?_, by omega⟩
    rw [k, Rat.intCast_mul, show ((2 : Int) : Rat) = 2 from rfl, show ((6 : Int) : Rat) = 6 from rfl, show ((3 : Int) : Rat) = 3 from rfl]; grind
  · refine ⟨by decide, a * 2, ?_, by omega⟩
    rw [k, Rat.intCast_mul, show ((2 : Int) : Rat) = 2 from rfl, show ((6 : Int) : Rat) = 6 from rfl, show ((3 : Int) : Rat) = 3 from rfl]; grind
/-- a number by 1, 2 or 3 -/
theorem third_ok {a q : Int} (hq : q = 1 ∨ q = 2 ∨ q = 3) : m__law_ratio [.int a, .int q] = some (rD ((a : Rat) / (q : Rat))) :=
  ratio_ok (by omega) (Nat.lt_of_lt_of_le (show q.natAbs < 2 ^ 2 by omega) (Nat.pow_le_pow_right (by decide) (by decide)))
theorem oks_sm {n : Nat} : ∀ (rs : List Rat) (a : Rat) (m : Nat), Sm m a → (∀ r ∈ rs, Sm n r) → m + rs.length * (n + 1) ≤ 4000 → n ≤ 4000 → OkS a rs
  | [], _, _, _, _, _, _ => trivial
  | r :: rs, a, m, ha, hr, hk, hn => by
    rw [List.length_cons, Nat.succ_mul] at hk
    have h1 := hr r List.mem_cons_self
    have h2 := ha.add h1
    exact ⟨h1.mono (by omega), h2.mono (by omega), oks_sm rs (a + r) (m + n + 1) h2 (fun x hx => hr x (List.mem_cons_of_mem _ hx)) (by omega) hn⟩

variable {r : Rp} {P : Rat} {W m : Nat}
/-! the greatest sag -/
def bd : Option (Rat × Rat) → D
  | none => .non
  | some b => .tup [rD b.1, rD b.2]
theorem is_bd (a b : D) : dIs (.tup [a, b]) .non = some (.bl false) := rfl
theorem is_nn : dIs .non .non = some (.bl true) := rfl
def stepG (r : Rp) (P : Rat) : Option (Rat × Rat) → Lo → Option (Rat × Rat)
  | none, l => some (r.M l.1 / P, l.1)
  | some b, l => if b.1 < r.M l.1 / P then some (r.M l.1 / P, l.1) else some b
def OkB (b : Option (Rat × Rat)) : Prop := ∀ c, b = some c → Sm 400 c.1
theorem Bd.s_MP (h : Bd r) (p : Pu P W m) {x : Rat} (ix : Bm.In 192 15 x) : Sm 400 (r.M x / P) := ((h.s_M ix).div p.sm p.n0).mono (by omega)
theorem stepG_ok (h : Bd r) (p : Pu P W m) {b : Option (Rat × Rat)} (hb : OkB b) {l : Lo} (hl : l ∈ r.ls) : OkB (stepG r P b l) := by
  intro c e
  cases b with
  | none => cases e; exact h.s_MP p (h.a hl)
  | some b =>
    change (if b.1 < r.M l.1 / P then some (r.M l.1 / P, l.1) else some b) = some c at e
    split at e
    · cases e; exact h.s_MP p (h.a hl)
    · cases e; exact hb _ rfl
theorem gs_loop (h : Bd r) (p : Pu P W m) : ∀ (rest : List Lo) (b : Option (Rat × Rat)) (x5 x6 x7 : Sl), (∀ l ∈ rest, l ∈ r.ls) → OkB b → ∃ y5 y6 y7, forL (gTL 2 (gsC (gN 5) (gsC (gN 6) (gsN)))) gs_1_b (rest.map lD) [.val (ed r.x0 r.y0), .val (ed r.x1 r.y1), .val (LO r.ls), .val (rD P), .val (bd b), x5, x6, x7] none = some (.nx [.val (ed r.x0 r.y0), .val (ed r.x1 r.y1), .val (LO r.ls), .val (rD P), .val (bd (rest.foldl (stepG r P) b)), y5, y6, y7] none)
  | [], b, x5, x6, x7, _, _ => ⟨x5, x6, x7, rfl⟩
  | l :: rest, b, x5, x6, x7, hr, hb => by
    have hl := hr l List.mem_cons_self
    have es := sag_ok h p (h.a hl) (Rat.le_of_lt (h.ok.bt l hl).1) (Rat.le_of_lt (h.ok.bt l hl).2)
    have sm := h.s_MP p (h.a hl)
    obtain ⟨y5, y6, y7, ih⟩ := gs_loop h p rest (stepG r P b l) (.val (rD l.1)) (.val (rD l.2)) (.val (rD (r.M l.1 / P))) (fun z hz => hr z (List.mem_cons_of_mem _ hz)) (stepG_ok h p hb hl)
    refine ⟨y5, y6, y7, ?_⟩
    have k0 : gs_1_0 [.val (ed r.x0 r.y0), .val (ed r.x1 r.y1), .val (LO r.ls), .val (rD P), .val (bd b), .val (rD l.1), .val (rD l.2), x7] none = some (.nx [.val (ed r.x0 r.y0), .val (ed r.x1 r.y1), .val (LO r.ls), .val (rD P), .val (bd b), .val (rD l.1), .val (rD l.2), .val (rD (r.M l.1 / P))] none) := by
      generalize r.M l.1 / P = q at *
      generalize bd b = B at *
      simp [gs_1_0, es]
    have k1 : gs_1_1 [.val (ed r.x0 r.y0), .val (ed r.x1 r.y1), .val (LO r.ls), .val (rD P), .val (bd b), .val (rD l.1), .val (rD l.2), .val (rD (r.M l.1 / P))] none = some (.nx [.val (ed r.x0 r.y0), .val (ed r.x1 r.y1), .val (LO r.ls), .val (rD P), .val (bd (stepG r P b l)), .val (rD l.1), .val (rD l.2), .val (rD (r.M l.1 / P))] none) := by
      cases b with
      | none =>
        rw [show stepG r P none l = some (r.M l.1 / P, l.1) from rfl]
        generalize r.M l.1 / P = q at *
        simp [gs_1_1, bd, is_nn]
      | some b =>
        have t := less_ok ((hb _ rfl).mono (by omega)) (sm.mono (by omega : 400 ≤ 4000))
        by_cases c : b.1 < r.M l.1 / P
        · rw [decide_eq_true c] at t
          rw [show stepG r P (some b) l = some (r.M l.1 / P, l.1) from if_pos c]
          generalize r.M l.1 / P = q at *
          simp [gs_1_1, bd, is_bd, t]
        · rw [decide_eq_false c] at t
          rw [show stepG r P (some b) l = some b from if_neg c]
          generalize r.M l.1 / P = q at *
          simp [gs_1_1, bd, is_bd, t]
    have hg : (gTL 2 (gsC (gN 5) (gsC (gN 6) (gsN)))) (lD l) [.val (ed r.x0 r.y0), .val (ed r.x1 r.y1), .val (LO r.ls), .val (rD P), .val (bd b), x5, x6, x7] = some [.val (ed r.x0 r.y0), .val (ed r.x1 r.y1), .val (LO r.ls), .val (rD P), .val (bd b), .val (rD l.1), .val (rD l.2), x7] := by simp
    rw [List.map_cons, x_forC, hg]
    simp only [Option.bind_some]
    rw [gs_1_b, x_sSeq, k0, x_nxN, k1, x_afN, ← gs_1_b, ih]
    rfl
theorem greatest_ok (h : Bd r) (p : Pu P W m) : m_greatest_sag [ed r.x0 r.y0, ed r.x1 r.y1, LO r.ls, rD P] = some (bd (r.ls.foldl (stepG r P) none)) := by
  obtain ⟨y5, y6, y7, e⟩ := gs_loop h p r.ls none .un .un .un (fun l hl => hl) (fun c e => by cases e)
  unfold m_greatest_sag
  rw [gs_eq]
  simp only [x_runF, e0c, e0n, e00]
  generalize r.ls.foldl (stepG r P) none = B at *
  have k0 : gs_0 [.val (ed r.x0 r.y0), .val (ed r.x1 r.y1), .val (LO r.ls), .val (rD P), .un, .un, .un, .un] none = some (.nx [.val (ed r.x0 r.y0), .val (ed r.x1 r.y1), .val (LO r.ls), .val (rD P), .val (bd none), .un, .un, .un] none) := by simp [gs_0, bd]
  have k1 : gs_1 [.val (ed r.x0 r.y0), .val (ed r.x1 r.y1), .val (LO r.ls), .val (rD P), .val (bd none), .un, .un, .un] none = some (.nx [.val (ed r.x0 r.y0), .val (ed r.x1 r.y1), .val (LO r.ls), .val (rD P), .val (bd B), y5, y6, y7] none) := by
    unfold gs_1
    rw [x_sFor]
    have ki : mIt itD (mV 2) (vw [] [.val (ed r.x0 r.y0), .val (ed r.x1 r.y1), .val (LO r.ls), .val (rD P), .val (bd none), .un, .un, .un]) none = some (r.ls.map lD, none) := by simp
    rw [ki]; exact e
  rw [x_sSeq, k0, x_nxN, x_sSeq, k1, x_nxN]
  simp [gs_2]
/-! the pull through a point -/
theorem pu1 : Pu 1 1 0 := ⟨by decide, by decide, by decide, by decide, sm1.mono (by decide), fun {N n a} h => by
  rw [Nat.mul_one, Nat.add_zero, show a / 1 = a by grind]; exact h⟩
def ptR (r : Rp) (x v : Rat) : D := if r.line x - v = 0 ∨ r.M x = 0 then .non else if 0 < r.M x / (r.line x - v) then rD (r.M x / (r.line x - v)) else .non
theorem pull_ok (h : Bd r) {x v : Rat} (ix : Bm.In 192 15 x) (h0 : r.x0 ≤ x) (h1 : x ≤ r.x1) (sv : Sm 400 v) : m_pull_through [ed r.x0 r.y0, ed r.x1 r.y1, LO r.ls, ed x v] = some (ptR r x v) := by
  have w0 := w_ne h.ok
  have t1 := minus_ok (h.s_y1.mono (by omega)) (h.s_y0.mono (by omega : 6 ≤ 4000))
  have t2 := minus_ok (h.s_x1.mono (by omega)) (h.s_x0.mono (by omega : 10 ≤ 4000))
  have t2' : m_minus [rD r.x1, rD r.x0] = some (rD r.w) := t2
  have sw : Sm 21 r.w := h.s_x1.sub h.s_x0
  have t3 := over_ok ((h.s_y1.sub h.s_y0).mono (by omega)) (sw.mono (by omega : 21 ≤ 4000)) w0
  have ss : Sm 34 ((r.y1 - r.y0) / r.w) := (h.s_y1.sub h.s_y0).div sw w0
  have t4 := minus_ok ((s192 ix).mono (by omega)) (h.s_x0.mono (by omega : 10 ≤ 4000))
  have t5 := times_ok (ss.mono (by omega)) (((s192 ix).sub h.s_x0).mono (by omega : _ ≤ 4000))
  have t6 := plus_ok (h.s_y0.mono (by omega)) ((ss.mul ((s192 ix).sub h.s_x0)).mono (by omega : _ ≤ 4000))
  have t6' : m_plus [rD r.y0, rD ((r.y1 - r.y0) / r.w * (x - r.x0))] = some (rD (r.line x)) := t6
  have es := sag_ok h pu1 ix h0 h1
  rw [show r.M x / 1 = r.M x by grind] at es
  have t7 := minus_ok ((h.s_line ix).mono (by omega)) (sv.mono (by omega : 400 ≤ 4000))
  have sd := (h.s_line ix).sub sv
  have q1 := Lw.eq_rat (r.line x - v) 0
  have q2 := Lw.eq_rat (r.M x) 0
  unfold m_pull_through
  rw [pt_eq]
  simp only [x_runF, e0c, e0n, e00]
  have k0 : pt_0 [.val (ed r.x0 r.y0), .val (ed r.x1 r.y1), .val (LO r.ls), .val (ed x v), .un, .un, .un, .un] none = some (.nx [.val (ed r.x0 r.y0), .val (ed r.x1 r.y1), .val (LO r.ls), .val (ed x v), .val (rD (r.M x)), .un, .un, .un] none) := by
    generalize r.M x = M at *
    simp [pt_0, one, es]
  have k1 : pt_1 [.val (ed r.x0 r.y0), .val (ed r.x1 r.y1), .val (LO r.ls), .val (ed x v), .val (rD (r.M x)), .un, .un, .un] none = some (.nx [.val (ed r.x0 r.y0), .val (ed r.x1 r.y1), .val (LO r.ls), .val (ed x v), .val (rD (r.M x)), .val (rD ((r.y1 - r.y0) / r.w)), .un, .un] none) := by
    generalize r.M x = M at *
    simp [pt_1, t1, t2', t3]
  have k2 : pt_2 [.val (ed r.x0 r.y0), .val (ed r.x1 r.y1), .val (LO r.ls), .val (ed x v), .val (rD (r.M x)), .val (rD ((r.y1 - r.y0) / r.w)), .un, .un] none = some (.nx [.val (ed r.x0 r.y0), .val (ed r.x1 r.y1), .val (LO r.ls), .val (ed x v), .val (rD (r.M x)), .val (rD ((r.y1 - r.y0) / r.w)), .val (rD (r.line x - v)), .un] none) := by
    generalize r.M x = M at *
    generalize (r.y1 - r.y0) / r.w = s at *
    generalize r.line x = l at *
    simp [pt_2, t4, t5, t6', t7]
  rw [x_sSeq, k0, x_nxN, x_sSeq, k1, x_nxN, x_sSeq, k2, x_nxN]
  unfold ptR
  have sM := h.s_M ix
  generalize r.line x - v = d at *
  generalize r.M x = M at *
  generalize (r.y1 - r.y0) / r.w = s at *
  by_cases c1 : d = 0
  · rw [decide_eq_true c1] at q1
    rw [if_pos (.inl c1)]
    simp [pt_3, nought, q1]
  · rw [decide_eq_false c1] at q1
    by_cases c2 : M = 0
    · rw [decide_eq_true c2] at q2
      rw [if_pos (.inr c2)]
      simp [pt_3, nought, q1, q2]
    · rw [decide_eq_false c2] at q2
      rw [if_neg (fun q => by rcases q with q | q; exact c1 q; exact c2 q)]
      have t8 := over_ok (sM.mono (by omega)) (sd.mono (by omega : _ ≤ 4000)) c1
      have t9 := less_ok (Sm.zero (by decide) : Ok 0) ((sM.div sd c1).mono (by omega))
      by_cases c3 : 0 < M / d
      · rw [decide_eq_true c3] at t9
        rw [if_pos c3]
        simp [pt_3, pt_4, pt_5, nought, q1, q2, t8, t9]
      · rw [decide_eq_false c3] at t9
        rw [if_neg c3]
        simp [pt_3, pt_4, pt_5, nought, q1, q2, t8, t9]
/-! the loads of points -/
def trD (f : Rat → D) : List Rat → List D
  | u :: a :: b :: bs => D.tup [f u, f a, f b] :: trD f (a :: b :: bs)
  | _ => []
theorem zip3_eq (f : Rat → D) : ∀ xs : List Rat, zipD3 (xs.map f) (xs.tail.map f) (xs.tail.tail.map f) = trD f xs
  | [] => rfl
  | [_] => rfl
  | [_, _] => rfl
  | u :: a :: b :: bs => by
    have ih := zip3_eq f (a :: b :: bs)
    show D.tup [f u, f a, f b] :: zipD3 ((a :: b :: bs).map f) ((b :: bs).map f) (bs.map f) = D.tup [f u, f a, f b] :: trD f (a :: b :: bs)
    rw [← ih]; rfl
theorem lo_loop (h : Bd r) (p : Pu P W m) (d0 : D) : ∀ (rest pre : List Lo) (u : Rat) (x3 x4 x5 x6 x7 : Sl), r.ls = pre ++ rest → (∀ l ∈ pre, l.1 ≤ u) → (∀ l ∈ rest, u < l.1) → u < r.x1 → Bm.In 192 15 u →
    ∃ y3 y4 y5 y6 y7, forL (gTL 3 (gsC (gN 3) (gsC (gN 4) (gsC (gN 5) (gsN))))) lo_1_b (trD (pD r P) (u :: (rest.map (·.1) ++ [r.x1]))) [.val d0, .val (rD P), .own (pre.map lD), x3, x4, x5, x6, x7] none = some (.nx [.val d0, .val (rD P), .own (r.ls.map lD), y3, y4, y5, y6, y7] none)
  | [], pre, u, x3, x4, x5, x6, x7, e, _, _, _, _ => ⟨x3, x4, x5, x6, x7, by rw [e, List.append_nil]; rfl⟩
  | l :: rest, pre, u, x3, x4, x5, x6, x7, e, hu, hr, h1, iu => by
    have hl : l ∈ r.ls := by rw [e]; simp
    have asc := h.ok.asc
    rw [e, List.pairwise_append, List.pairwise_cons] at asc
    have ul := hr l List.mem_cons_self
    have lx := (h.ok.bt l hl).2
    have hpre : ∀ z ∈ pre ++ [l], z.1 ≤ l.1 := fun z hz => by
      rcases List.mem_append.mp hz with hz | hz
      · exact Rat.le_of_lt (asc.2.2 z hz l List.mem_cons_self)
      · rw [List.mem_singleton.mp hz]; exact Rat.le_refl
    have e' : r.ls = (pre ++ [l]) ++ rest := by rw [e, List.append_assoc]; rfl
    obtain ⟨b, bs, eb, lb, ib, hb⟩ : ∃ b bs, rest.map (·.1) ++ [r.x1] = b :: bs ∧ l.1 < b ∧ Bm.In 192 15 b ∧ ∀ z ∈ rest, b ≤ z.1 := by
      cases rest with
      | nil => exact ⟨r.x1, [], rfl, lx, h.x1, by simp⟩
      | cons k ks =>
        refine ⟨k.1, ks.map (·.1) ++ [r.x1], rfl, asc.2.1.1 k List.mem_cons_self, h.a (by rw [e]; simp), fun z hz => ?_⟩
        rcases List.mem_cons.mp hz with rfl | hz
        · exact Rat.le_refl
        · exact Rat.le_of_lt ((List.pairwise_cons.mp asc.2.1.2).1 z hz)
    have g1 : r.g P l.1 = r.g P u + r.sl P pre * (l.1 - u) := g_line h.ok e hu (Rat.le_of_lt ul) fun z hz => by
      rcases List.mem_cons.mp hz with rfl | hz
      · exact Rat.le_refl
      · exact Rat.le_of_lt (asc.2.1.1 z hz)
    have g2 : r.g P b = r.g P l.1 + r.sl P (pre ++ [l]) * (b - l.1) := g_line h.ok e' hpre (Rat.le_of_lt lb) hb
    have n1 : l.1 - u ≠ 0 := by grind
    have n2 : b - l.1 ≠ 0 := by grind
    have q1 : (r.g P l.1 - r.g P u) / (l.1 - u) = r.sl P pre := by
      rw [g1]; generalize r.sl P pre = s; generalize l.1 - u = d at *; grind
    have q2 : (r.g P b - r.g P l.1) / (b - l.1) = r.sl P (pre ++ [l]) := by
      rw [g2]; generalize r.sl P (pre ++ [l]) = s; generalize b - l.1 = d at *; grind
    have su := s192 iu
    have sl := s192 (h.a hl)
    have sb := s192 ib
    have gu := h.s_g p iu
    have ga := h.s_g p (h.a hl)
    have gb := h.s_g p ib
    have t1 := minus_ok (ga.mono (by omega)) (gu.mono (by omega : 300 ≤ 4000))
    have t2 := minus_ok (sl.mono (by omega)) (su.mono (by omega : 15 ≤ 4000))
    have t3 := over_ok ((ga.sub gu).mono (by omega)) ((sl.sub su).mono (by omega : _ ≤ 4000)) n1
    rw [q1] at t3
    have t4 := minus_ok (gb.mono (by omega)) (ga.mono (by omega : 300 ≤ 4000))
    have t5 := minus_ok (sb.mono (by omega)) (sl.mono (by omega : 15 ≤ 4000))
    have t6 := over_ok ((gb.sub ga).mono (by omega)) ((sb.sub sl).mono (by omega : _ ≤ 4000)) n2
    rw [q2] at t6
    have s1 := h.s_sl p e
    have s2 := h.s_sl p e'
    have t7 := minus_ok (s2.mono (by omega)) (s1.mono (by omega : 300 ≤ 4000))
    have q3 : r.sl P (pre ++ [l]) - r.sl P pre = l.2 / P := by rw [← sl_step]; grind
    rw [q3] at t7
    have t8 := times_ok (p.sm.mono (by omega)) ((h.s_step p hl).mono (by omega : 300 ≤ 4000))
    have q4 : P * (l.2 / P) = l.2 := by have := p.n0; grind
    rw [q4] at t8
    have zp : sized pre.length = true := x_sized (by have := h.len; rw [e, List.length_append] at this; omega)
    obtain ⟨y3, y4, y5, y6, y7, ih⟩ := lo_loop h p d0 rest (pre ++ [l]) l.1 (.val (pD r P u)) (.val (pD r P l.1)) (.val (pD r P b)) (.val (rD (r.sl P pre))) (.val (rD (r.sl P (pre ++ [l])))) e' hpre (fun z hz => asc.2.1.1 z hz) lx (h.a hl)
    refine ⟨y3, y4, y5, y6, y7, ?_⟩
    have k0 : lo_1_0 [.val d0, .val (rD P), .own (pre.map lD), .val (pD r P u), .val (pD r P l.1), .val (pD r P b), x6, x7] none = some (.nx [.val d0, .val (rD P), .own (pre.map lD), .val (pD r P u), .val (pD r P l.1), .val (pD r P b), .val (rD (r.sl P pre)), x7] none) := by
      unfold pD
      generalize r.sl P pre = A at *
      generalize r.g P u = G1 at *
      generalize r.g P l.1 = G2 at *
      generalize r.g P b = G3 at *
      simp [lo_1_0, t1, t2, t3]
    have k1 : lo_1_1 [.val d0, .val (rD P), .own (pre.map lD), .val (pD r P u), .val (pD r P l.1), .val (pD r P b), .val (rD (r.sl P pre)), x7] none = some (.nx [.val d0, .val (rD P), .own (pre.map lD), .val (pD r P u), .val (pD r P l.1), .val (pD r P b), .val (rD (r.sl P pre)), .val (rD (r.sl P (pre ++ [l])))] none) := by
      unfold pD
      generalize r.sl P pre = A at *
      generalize r.sl P (pre ++ [l]) = B at *
      generalize r.g P u = G1 at *
      generalize r.g P l.1 = G2 at *
      generalize r.g P b = G3 at *
      simp [lo_1_1, t4, t5, t6]
    have k2 : lo_1_2 [.val d0, .val (rD P), .own (pre.map lD), .val (pD r P u), .val (pD r P l.1), .val (pD r P b), .val (rD (r.sl P pre)), .val (rD (r.sl P (pre ++ [l])))] none = some (.nx [.val d0, .val (rD P), .own ((pre ++ [l]).map lD), .val (pD r P u), .val (pD r P l.1), .val (pD r P b), .val (rD (r.sl P pre)), .val (rD (r.sl P (pre ++ [l])))] none) := by
      unfold pD
      generalize r.sl P pre = A at *
      generalize r.sl P (pre ++ [l]) = B at *
      generalize r.g P u = G1 at *
      generalize r.g P l.1 = G2 at *
      generalize r.g P b = G3 at *
      generalize l.2 / P = q at *
      simp [lo_1_2, t7, t8, zp]
    have hg : (gTL 3 (gsC (gN 3) (gsC (gN 4) (gsC (gN 5) (gsN))))) (D.tup [pD r P u, pD r P l.1, pD r P b]) [.val d0, .val (rD P), .own (pre.map lD), x3, x4, x5, x6, x7] = some [.val d0, .val (rD P), .own (pre.map lD), .val (pD r P u), .val (pD r P l.1), .val (pD r P b), x6, x7] := by simp
    rw [List.map_cons, List.cons_append, eb]
    show forL _ _ (D.tup [pD r P u, pD r P l.1, pD r P b] :: trD (pD r P) (l.1 :: b :: bs)) _ _ = _
    rw [x_forC, hg]
    simp only [Option.bind_some]
    rw [lo_1_b, x_sSeq, k0, x_nxN, x_sSeq, k1, x_nxN, k2, x_afN, ← lo_1_b]
    rw [eb] at ih
    exact ih
theorem loadsof_ok (h : Bd r) (p : Pu P W m) : m_loads_of [.lst (r.xs.map (pD r P)), rD P] = some (r.ls.map lD) := by
  obtain ⟨y3, y4, y5, y6, y7, e⟩ := lo_loop h p (.lst (r.xs.map (pD r P))) r.ls [] r.x0 .un .un .un .un .un rfl (by simp) (fun l hl => (h.ok.bt l hl).1) h.ok.lt h.x0
  have hlen : (r.xs.map (pD r P)).length = r.ls.length + 2 := by rw [List.length_map, xs_len]
  have c1 := cut_drop (r.xs.map (pD r P)) 1 (by omega)
  have c2 := cut_drop (r.xs.map (pD r P)) 2 (by omega)
  have hc1 : cutD (r.xs.map (pD r P)) (some 1) none = r.xs.tail.map (pD r P) := by
    rw [show (1 : Int) = ((1 : Nat) : Int) from rfl, c1, List.drop_one, List.map_tail]
  have hc2 : cutD (r.xs.map (pD r P)) (some 2) none = r.xs.tail.tail.map (pD r P) := by
    rw [show (2 : Int) = ((2 : Nat) : Int) from rfl, c2]
    unfold Rp.xs
    simp
  have z3 := zip3_eq (pD r P) r.xs
  have hx : trD (pD r P) r.xs = trD (pD r P) (r.x0 :: (r.ls.map (·.1) ++ [r.x1])) := rfl
  rw [← hx] at e
  unfold m_loads_of
  rw [lo_eq]
  simp only [x_runL, e0c, e0n, e00]
  have k0 : lo_0 [.val (.lst (r.xs.map (pD r P))), .val (rD P), .un, .un, .un, .un, .un, .un] none = some (.nx [.val (.lst (r.xs.map (pD r P))), .val (rD P), .own ([].map lD), .un, .un, .un, .un, .un] none) := by
    generalize r.xs.map (pD r P) = XS at *
    simp [lo_0]
  have k1 : lo_1 [.val (.lst (r.xs.map (pD r P))), .val (rD P), .own ([].map lD), .un, .un, .un, .un, .un] none = some (.nx [.val (.lst (r.xs.map (pD r P))), .val (rD P), .own (r.ls.map lD), y3, y4, y5, y6, y7] none) := by
    unfold lo_1
    rw [x_sFor]
    have ki : mRng zipF3 (aCons (mV 0) (aCons (mSl (mV 0) (oSome (mC (.int 1))) (oNo)) (aCons (mSl (mV 0) (oSome (mC (.int 2))) (oNo)) (aNil)))) (vw [] [.val (.lst (r.xs.map (pD r P))), .val (rD P), .own ([].map lD), .un, .un, .un, .un, .un]) none = some (trD (pD r P) r.xs, none) := by
      rw [← z3]
      generalize r.xs.map (pD r P) = XS at *
      generalize r.xs.tail.map (pD r P) = XT at *
      generalize r.xs.tail.tail.map (pD r P) = XU at *
      simp [hc1, hc2]
    rw [ki]; exact e
  rw [x_sSeq, k0, x_nxN, x_sSeq, k1, x_nxN]
  generalize r.xs.map (pD r P) = XS at *
  simp [lo_2]
/-! the pulls at the ends, and all load -/
theorem sls_head (s : Rat) (ls : List Lo) : ∃ tl, sls P s ls = s :: tl := by
  cases ls with
  | nil => exact ⟨[], rfl⟩
  | cons l ls => exact ⟨_, rfl⟩
theorem sls_end : ∀ (ls : List Lo) (s : Rat), ∃ fr, sls P s ls = fr ++ [s + sf (fun l => l.2 / P) ls]
  | [], s => ⟨[], by show [s] = [s + 0]; congr 1; grind⟩
  | l :: ls, s => by
    obtain ⟨fr, e⟩ := sls_end ls (s + l.2 / P)
    refine ⟨s :: fr, ?_⟩
    rw [sls_cons, e, List.cons_append]
    show _ = s :: (fr ++ [s + (l.2 / P + sf (fun l => l.2 / P) ls)])
    rw [show s + (l.2 / P + sf (fun l => l.2 / P) ls) = s + l.2 / P + sf (fun l => l.2 / P) ls by grind]
theorem sls_first (r : Rp) (P : Rat) : atI ((sls P (r.s0 P) r.ls).map rD) 0 = some (rD (r.s0 P)) := by
  obtain ⟨tl, e⟩ := sls_head (P := P) (r.s0 P) r.ls
  rw [e, List.map_cons]; exact atI_nat (j := 0) rfl
theorem sls_lastD (r : Rp) (P : Rat) : atI ((sls P (r.s0 P) r.ls).map rD) (-1) = some (rD (r.sl P r.ls)) := by
  obtain ⟨fr, e⟩ := sls_end (P := P) r.ls (r.s0 P)
  rw [e, List.map_append]; exact at_last _ _
theorem pull_all (h : Bd r) (p : Pu P W m) : 0 - P * r.s0 P + P * r.sl P r.ls = sf (·.2) r.ls := by
  unfold Rp.sl
  have e : sf (fun l => l.2 / P) r.ls = P⁻¹ * sf (·.2) r.ls := by
    rw [← sf_mul]; exact sf_congr fun l _ => by rw [Rat.div_def]; grind
  have n := p.n0
  rw [e]; grind
theorem ends_ok (h : Bd r) (p : Pu P W m) : m_end_pulls [ed r.x0 r.y0, ed r.x1 r.y1, LO r.ls, rD P] = some (.tup [rD (0 - P * r.s0 P), rD (P * r.sl P r.ls)]) := by
  have es := slopes_ok h p
  have i0 := sls_first r P
  have iL := sls_lastD r P
  have s0 := h.s_sl p (pre := []) (rest := r.ls) rfl
  rw [sl_nil] at s0
  have s1 := h.s_sl p (pre := r.ls) (rest := []) (by rw [List.append_nil])
  have t1 := times_ok (p.sm.mono (by omega)) (s0.mono (by omega : 300 ≤ 4000))
  have t2 := times_ok (p.sm.mono (by omega)) (s1.mono (by omega : 300 ≤ 4000))
  have t3 := minus_ok (Sm.zero (by decide) : Ok 0) ((p.sm.mul s0).mono (by omega))
  have zS : sized ((sls P (r.s0 P) r.ls).map rD).length = true := by
    have hc2 : (sls P (r.s0 P) r.ls).length = r.ls.length + 1 := by
      have key : ∀ (ls : List Lo) (s : Rat), (sls P s ls).length = ls.length + 1 := by
        intro ls
        induction ls with
        | nil => intro s; rfl
        | cons l ls ih => intro s; rw [sls_cons, List.length_cons, ih, List.length_cons]
      exact key _ _
    rw [List.length_map, hc2]; exact x_sized (by have := h.len; omega)
  unfold m_end_pulls
  rw [ep_eq]
  simp only [x_runF, e0c, e0n, e00]
  generalize (sls P (r.s0 P) r.ls).map rD = S at *
  generalize r.s0 P = a at *
  generalize r.sl P r.ls = b at *
  have k0 : ep_0 [.val (ed r.x0 r.y0), .val (ed r.x1 r.y1), .val (LO r.ls), .val (rD P), .un] none = some (.nx [.val (ed r.x0 r.y0), .val (ed r.x1 r.y1), .val (LO r.ls), .val (rD P), .val (.lst S)] none) := by simp [ep_0, es]
  rw [x_sSeq, k0, x_nxN]
  simp [ep_1, nought, i0, iL, t1, t2, t3]
theorem sumR_sf (g : Lo → Rat) : ∀ ls : List Lo, sumR 0 (ls.map g) = sf g ls
  | [] => rfl
  | l :: ls => by
    rw [List.map_cons, sumR_cons, sumR_eq, sumR_sf g ls]
    show 0 + g l + sf g ls = g l + sf g ls
    grind
theorem whole_ok (h : Bd r) : m_whole_load [LO r.ls] = some (rD (sf (·.2) r.ls)) := by
  have hl := h.len
  have o := oks_sm (n := 5) (r.ls.map (·.2)) 0 1 (Sm.zero (by decide)) (fun q hq => by
    obtain ⟨l, hl, rfl⟩ := List.mem_map.mp hq; exact h.s_f hl) (by rw [List.length_map]; omega) (by decide)
  have e := sum_okS _ o
  rw [sumR_sf] at e
  simp only [List.map_map, Function.comp_def] at e
  have c1 : lcL (gTL 2 (gsC (gN 1) (gsC (gN 2) (gsN)))) tYesM (mV 2) [.val (LO r.ls), .un, .un] (r.ls.map lD) none = some (r.ls.map (fun l => rD l.2), none) :=
    lc_map _ _ lD _ r.ls fun l hl => ⟨_, rfl, by simp⟩
  have z : sized r.ls.length = true := x_sized (by omega)
  unfold m_whole_load
  rw [wl_eq]
  simp only [x_runF, e0c, e0n, e00]
  simp [wl_0, c1, e, z]
/-! what the law draws -/
theorem rI (v : Int) : D.tup [.int v, .int 1] = rD (v : Rat) := rfl
theorem small_ok (Q : Pl) : ∃ v Q', m__law_small_told Q [] = some (rD v, Q') ∧ Bm.In 6 6 v := by
  obtain ⟨a, Q1, d1, l1, u1⟩ := draw_ok Q 9 (by decide) (by decide)
  obtain ⟨b, Q2, d2, l2, u2⟩ := draw_ok Q1 5 (by decide) (by decide)
  obtain ⟨c, Q3, d3, l3, u3⟩ := draw_ok Q2 9 (by decide) (by decide)
  obtain ⟨d, Q4, d4, l4, u4⟩ := draw_ok Q3 3 (by decide) (by decide)
  have t := third_ok (a := c - 4) (q := 1 + d) (by omega)
  have iq : Bm.In 6 6 (((c - 4 : Int) : Rat) / ((1 + d : Int) : Rat)) := in6 (by omega) (by omega)
  generalize (((c - 4 : Int) : Rat) / ((1 + d : Int) : Rat)) = q at *
  obtain ⟨x, Q5, e, hx⟩ := pick_ok Q4 [D.tup [.int (a - 4), .int 1], D.tup [.int (b - 2), .int 1], rD q] (by simp) (by simp)
  have iI : ∀ z : Int, z.natAbs < 8 → Bm.In 6 6 (z : Rat) := fun z hz => (Bm.In.up (Bm.In.int (n := 3) hz) (M := 6) (m := 3) (by decide) (by decide) (by decide))
  obtain ⟨v, rfl, iv⟩ : ∃ v, x = rD v ∧ Bm.In 6 6 v := by
    simp only [List.mem_cons, List.not_mem_nil, or_false] at hx
    rcases hx with rfl | rfl | rfl
    · exact ⟨_, rI _, iI _ (by omega)⟩
    · exact ⟨_, rI _, iI _ (by omega)⟩
    · exact ⟨_, rfl, iq⟩
  refine ⟨v, Q5, ?_, iv⟩
  unfold m__law_small_told
  rw [st_eq]
  simp [x_runP, st_0, d1, d2, d3, d4, t, e]
theorem div_small {N n k : Nat} {a : Rat} (h2 : 2 ≤ k) (h9 : k ≤ 9) (h : Bm.In N n a) : Bm.In (N * 2520) (n + 12) (a / ((k : Nat) : Rat)) := by
  obtain ⟨h0, z, e, l⟩ := h
  have key : ∀ k q : Nat, k * q = 2520 → 0 < k → q ≤ 2520 → Bm.In (N * 2520) (n + 12) (a / ((k : Nat) : Rat)) := fun k q e1 e2 e3 => by
    have q0 : 0 < q := by
      rcases Nat.eq_zero_or_pos q with h | h
      · subst h; omega
      · exact h
    refine ⟨by omega, z * q, ?_, ?_⟩
    · have n0 := Bm.nz h0
      have n1 := Bm.nz e2
      have n2 := Bm.nz q0
      have e4 : (((N * 2520 : Nat) : Int) : Rat) = ((N : Int) : Rat) * (((k : Nat) : Int) : Rat) * (((q : Nat) : Int) : Rat) := by
        rw [← e1, Int.natCast_mul, Int.natCast_mul, Rat.intCast_mul, Rat.intCast_mul]; grind
      rw [e, e4, Rat.intCast_mul]
      show _ / (((k : Nat) : Int) : Rat) = _
      generalize ((N : Int) : Rat) = a at *
      generalize (((k : Nat) : Int) : Rat) = b at *
      generalize (((q : Nat) : Int) : Rat) = d at *
      generalize (z : Rat) = w at *
      grind
    · rw [Int.natAbs_mul, Int.natAbs_natCast, Nat.pow_add]
      exact Nat.lt_of_lt_of_le (Nat.mul_lt_mul_of_pos_right l q0) (Nat.mul_le_mul_left _ (by omega))
  have h4 : k = 2 ∨ k = 3 ∨ k = 4 ∨ k = 5 ∨ k = 6 ∨ k = 7 ∨ k = 8 ∨ k = 9 := by omega
  rcases h4 with h4 | h4 | h4 | h4 | h4 | h4 | h4 | h4 <;> rw [h4]
  · exact key 2 1260 rfl (by decide) (by decide)
  · exact key 3 840 rfl (by decide) (by decide)
  · exact key 4 630 rfl (by decide) (by decide)
  · exact key 5 504 rfl (by decide) (by decide)
  · exact key 6 420 rfl (by decide) (by decide)
  · exact key 7 360 rfl (by decide) (by decide)
  · exact key 8 315 rfl (by decide) (by decide)
  · exact key 9 280 rfl (by decide) (by decide)
/-- loads drawn so far, all before the next quarter -/
structure Dr (a : Rat) (k : Nat) (ls : List Lo) : Prop where
  bt : ∀ l ∈ ls, a < l.1 ∧ l.1 < a + (k : Rat) / 4
  asc : ls.Pairwise fun a b => a.1 < b.1
  ia : ∀ l ∈ ls, Bm.In 12 10 l.1
  if' : ∀ l ∈ ls, Bm.In 2 5 l.2
  len : ls.length ≤ 6
theorem quarter_lt {a : Rat} {k n : Nat} (h : k < n) : a + (k : Rat) / 4 < a + (n : Rat) / 4 := by
  have : (k : Rat) < (n : Rat) := by exact_mod_cast h
  grind
theorem Dr.next {a : Rat} {k : Nat} {ls : List Lo} (h : Dr a k ls) : Dr a (k + 1) ls := ⟨fun l hl => ⟨(h.bt l hl).1, by
  have := (h.bt l hl).2
  have q := quarter_lt (a := a) (show k < k + 1 by omega)
  grind⟩, h.asc, h.ia, h.if', h.len⟩
theorem Dr.add {a : Rat} {k : Nat} {ls : List Lo} (h : Dr a k ls) (hk : 1 ≤ k) (hk2 : k < 40) (ia : Bm.In 6 6 a) {f : Rat} (iF : Bm.In 2 5 f) (hl : ls.length < 6) : Dr a (k + 1) (ls ++ [(a + (k : Rat) / 4, f)]) := by
  have q := quarter_lt (a := a) (show k < k + 1 by omega)
  have q0 : a < a + (k : Rat) / 4 := by
    have : (0 : Rat) < (k : Rat) := by exact_mod_cast (show 0 < k by omega)
    grind
  have i4 : Bm.In 4 6 ((k : Rat) / 4) := ⟨by decide, (k : Int), rfl, by omega⟩
  have i12 : Bm.In 12 10 (a + (k : Rat) / 4) := (Bm.In.add ((Bm.In.up ia (M := 2) (m := 1) (K := 12) (by decide) (by decide) (by decide)).mono (show 6 + 1 ≤ 8 by decide)) (Bm.In.up i4 (M := 3) (m := 2) (K := 12) (by decide) (by decide) (by decide))).mono (by decide)
  refine ⟨fun l hl => ?_, ?_, fun l hl => ?_, fun l hl => ?_, by rw [List.length_append, List.length_singleton]; omega⟩
  · rcases List.mem_append.mp hl with hl | hl
    · have := h.bt l hl; exact ⟨this.1, by grind⟩
    · rw [List.mem_singleton.mp hl]; exact ⟨q0, q⟩
  · rw [List.pairwise_append]
    refine ⟨h.asc, by simp, fun x hx y hy => ?_⟩
    rw [List.mem_singleton.mp hy]; exact (h.bt x hx).2
  · rcases List.mem_append.mp hl with hl | hl
    · exact h.ia l hl
    · rw [List.mem_singleton.mp hl]; exact i12
  · rcases List.mem_append.mp hl with hl | hl
    · exact h.if' l hl
    · rw [List.mem_singleton.mp hl]; exact iF
theorem range_cons (lo : Nat) (n : Nat) : rangeD (lo : Nat) (n + 1) = D.int (lo : Nat) :: rangeD ((lo + 1 : Nat) : Int) n := by
  unfold rangeD
  rw [List.range_succ_eq_map, List.map_cons, List.map_map]
  congr 1
  simp; intro a _; omega
theorem hg_turn (Q : Pl) {a b : Rat} (ia : Bm.In 6 6 a) {k : Nat} (hk : 1 ≤ k) (hk2 : k < 40) (x2 x3 : Sl) {ls : List Lo} (h : Dr a k ls) : ∃ ls' Q', hg_4_b [.pool, .val (ed a b), x2, x3, .own (ls.map lD), .val (.int (k : Nat))] (some Q) = some (.nx [.pool, .val (ed a b), x2, x3, .own (ls'.map lD), .val (.int (k : Nat))] (some Q')) ∧ Dr a (k + 1) ls' := by
  obtain ⟨v, Q1, d1, l1, u1⟩ := draw_ok Q 8 (by decide) (by decide)
  have sa : Sm 6 a := ia.sm (by decide) (by decide)
  by_cases c : v = 0
  · by_cases c2 : ls.length < 6
    · obtain ⟨w, Q2, d2, l2, u2⟩ := draw_ok Q1 9 (by decide) (by decide)
      obtain ⟨q, Q3, d3, l3, u3⟩ := draw_ok Q2 2 (by decide) (by decide)
      have t1 : m__law_ratio [.int (k : Nat), .int 4] = some (rD ((k : Rat) / 4)) := ratio_ok (p := (k : Int)) (q := 4) (by decide) (Nat.lt_of_lt_of_le (show (4 : Int).natAbs < 2 ^ 3 by decide) (Nat.pow_le_pow_right (by decide) (by decide)))
      have t2 := third_ok (a := w) (q := 1 + q) (by omega)
      have s4 : Sm 6 ((k : Rat) / 4) := Bm.In.sm (N := 4) (n := 6) ⟨by decide, (k : Int), rfl, by omega⟩ (by decide) (by decide)
      have t3 := _law_add_ok (sa.mono (by omega)) (s4.mono (by omega : 6 ≤ 4000))
      have iF : Bm.In 2 5 ((w : Rat) / ((1 + q : Int) : Rat)) := by
        have hq : q = 0 ∨ q = 1 := by omega
        rcases hq with rfl | rfl
        · refine ⟨by decide, w * 2, ?_, by omega⟩
          have k1 : (((2 : Nat) : Int) : Rat) = 2 := rfl
          rw [k1, Rat.intCast_mul, show ((1 + 0 : Int) : Rat) = 1 from rfl, show ((2 : Int) : Rat) = 2 from rfl]; grind
        · exact ⟨by decide, w, rfl, by omega⟩
      have z : sized ls.length = true := x_sized (by omega)
      refine ⟨ls ++ [(a + (k : Rat) / 4, (w : Rat) / ((1 + q : Int) : Rat))], Q3, ?_, h.add hk hk2 ia iF c2⟩
      have c3 : ((ls.length : Int) < 6) := by omega
      generalize (k : Rat) / 4 = k4 at *
      generalize (w : Rat) / ((1 + q : Int) : Rat) = f at *
      simp [hg_4_b, hg_4_0, d1, c, c2, c3, d2, d3, t1, t2, t3, z]
    · refine ⟨ls, Q1, ?_, h.next⟩
      have c3 : ¬ ((ls.length : Int) < 6) := by omega
      simp [hg_4_b, hg_4_0, d1, c, c2, c3]
  · exact ⟨ls, Q1, by simp [hg_4_b, hg_4_0, d1, c], h.next⟩
theorem hg_loop {a b : Rat} (ia : Bm.In 6 6 a) (x2 x3 : Sl) : ∀ (n k : Nat) (ls : List Lo) (x5 : Sl) (Q : Pl), 1 ≤ k → k + n < 40 → Dr a k ls → ∃ (ls' : List Lo) (y5 : Sl) (Q' : Pl), forL (gN 5) hg_4_b (rangeD (k : Nat) n) [.pool, .val (ed a b), x2, x3, .own (ls.map lD), x5] (some Q) = some (.nx [.pool, .val (ed a b), x2, x3, .own (ls'.map lD), y5] (some Q')) ∧ Dr a (k + n) ls'
  | 0, k, ls, x5, Q, _, _, h => ⟨ls, x5, Q, by simp [rangeD, x_for0], h⟩
  | n + 1, k, ls, x5, Q, hk, hn, h => by
    obtain ⟨l1, Q1, e1, h1⟩ := hg_turn Q (b := b) ia hk (by omega) x2 x3 h
    obtain ⟨l2, y5, Q2, e2, h2⟩ := hg_loop (b := b) ia x2 x3 n (k + 1) l1 (.val (.int (k : Nat))) Q1 (by omega) (by omega) h1
    refine ⟨l2, y5, Q2, ?_, by rw [show k + (n + 1) = k + 1 + n by omega]; exact h2⟩
    rw [range_cons, x_forC, x_gN]
    simp only [Option.bind_some, List.set_cons_succ, List.set_cons_zero]
    rw [e1, x_afN, e2]
theorem hung_ok (Q : Pl) : ∃ (r : Rp) (Q' : Pl), m__law_hung Q [] = some (.tup [ed r.x0 r.y0, ed r.x1 r.y1, LO r.ls], Q') ∧ Bd r := by
  obtain ⟨a, Q1, e1, ia⟩ := small_ok Q
  obtain ⟨b, Q2, e2, ib⟩ := small_ok Q1
  obtain ⟨w, Q3, d3, l3, u3⟩ := draw_ok Q2 8 (by decide) (by decide)
  obtain ⟨c, Q4, e4, ic⟩ := small_ok Q3
  obtain ⟨wn, hw⟩ : ∃ wn : Nat, 2 + w = (wn : Int) := ⟨(2 + w).toNat, by omega⟩
  obtain ⟨ls, y5, Q5, e5, hd⟩ := hg_loop (b := b) ia (.val (.int (2 + w))) (.val (ed (a + (((2 + w : Int)) : Rat)) c)) (4 * wn - 1) 1 [] .un Q4 (by omega) (by omega) ⟨by simp, by simp, by simp, by simp, by simp⟩
  have sa : Sm 6 a := ia.sm (by decide) (by decide)
  have sw : Sm 5 (((2 + w : Int)) : Rat) := Sm.int (by omega) (by decide)
  have t := _law_add_ok (sa.mono (by omega)) (sw.mono (by omega : 5 ≤ 4000))
  rw [← rI] at t
  have rg : rng2 [.int 1, .int (4 * (2 + w))] = some (rangeD ((1 : Nat) : Int) (4 * wn - 1)) := by
    rw [x_rng2 1 (4 * (2 + w)) (by omega) (by omega) (by omega) (by omega)]
    congr 2; omega
  have hwR : (((2 + w : Int)) : Rat) = ((wn : Nat) : Rat) := by rw [hw]; rfl
  refine ⟨⟨a, b, a + (((2 + w : Int)) : Rat), c, ls⟩, Q5, ?_, ?_⟩
  · unfold m__law_hung
    rw [hg_eq]
    have z : sized ls.length = true := x_sized (by have := hd.len; omega)
    generalize (((2 + w : Int)) : Rat) = wr at *
    have k0 : hg_0 [.pool, .un, .un, .un, .un, .un] (some Q) = some (.nx [.pool, .val (ed a b), .un, .un, .un, .un] (some Q2)) := by simp [hg_0, e1, e2]
    have k1 : hg_1 [.pool, .val (ed a b), .un, .un, .un, .un] (some Q2) = some (.nx [.pool, .val (ed a b), .val (.int (2 + w)), .un, .un, .un] (some Q3)) := by simp [hg_1, d3]
    have k2 : hg_2 [.pool, .val (ed a b), .val (.int (2 + w)), .un, .un, .un] (some Q3) = some (.nx [.pool, .val (ed a b), .val (.int (2 + w)), .val (ed (a + wr) c), .un, .un] (some Q4)) := by simp [hg_2, t, e4]
    have k3 : hg_3 [.pool, .val (ed a b), .val (.int (2 + w)), .val (ed (a + wr) c), .un, .un] (some Q4) = some (.nx [.pool, .val (ed a b), .val (.int (2 + w)), .val (ed (a + wr) c), .own ([].map lD), .un] (some Q4)) := by simp [hg_3]
    have k4 : hg_4 [.pool, .val (ed a b), .val (.int (2 + w)), .val (ed (a + wr) c), .own ([].map lD), .un] (some Q4) = some (.nx [.pool, .val (ed a b), .val (.int (2 + w)), .val (ed (a + wr) c), .own (ls.map lD), y5] (some Q5)) := by
      unfold hg_4
      rw [x_sFor]
      have ki : mRng rng2 (aCons (mC (.int 1)) (aCons (mOp dMul (mC (.int 4)) (mV 2)) (aNil))) (vw [] [.pool, .val (ed a b), .val (.int (2 + w)), .val (ed (a + wr) c), .own ([].map lD), .un]) (some Q4) = some (rangeD ((1 : Nat) : Int) (4 * wn - 1), some Q4) := by
        generalize rangeD ((1 : Nat) : Int) (4 * wn - 1) = R at *
        have mm : dMul (.int 4) (.int (2 + w)) = some (.int (4 * (2 + w))) := x_mul 4 (2 + w) (by simp [show ((4 : Int).natAbs < 2 ^ 63) from by decide])
        simp [rg, mm]
      rw [ki]; exact e5
    simp only [x_runP, e0c, e0n, e00]
    rw [x_sSeq, k0, x_nxN, x_sSeq, k1, x_nxN, x_sSeq, k2, x_nxN, x_sSeq, k3, x_nxN, x_sSeq, k4, x_nxN]
    simp [hg_5, vw, frz, put]
  · have w2 : (0 : Rat) < (((2 + w : Int)) : Rat) := by exact_mod_cast (show (0 : Int) < 2 + w by omega)
    have e4 : a + ((1 + (4 * wn - 1) : Nat) : Rat) / 4 = a + (((2 + w : Int)) : Rat) := by
      rw [show 1 + (4 * wn - 1) = 4 * wn by omega, hwR]
      have : ((4 * wn : Nat) : Rat) = 4 * ((wn : Nat) : Rat) := by push_cast; rfl
      rw [this]; grind
    have iw : Bm.In 6 9 (((2 + w : Int)) : Rat) := (Bm.In.up (Bm.In.int (n := 5) (z := 2 + w) (by omega)) (M := 6) (m := 3) (by decide) (by decide) (by decide)).mono (by decide)
    refine ⟨⟨by show a < a + _; grind, fun l hl => ?_, hd.asc⟩, ia.mono (by decide), (Bm.In.add (ia.mono (by decide)) iw).mono (by decide), ib, ic, hd.ia, hd.if', hd.len, ia, ?_, fun {N n x} hx => ?_⟩
    · have := hd.bt l hl
      rw [e4] at this; exact this
    · have : Rp.w ⟨a, b, a + (((2 + w : Int)) : Rat), c, ls⟩ = (((2 + w : Int)) : Rat) := by
        show a + (((2 + w : Int)) : Rat) - a = _
        grind
      rw [this]; exact Bm.In.int (by omega)
    · have : Rp.w ⟨a, b, a + (((2 + w : Int)) : Rat), c, ls⟩ = ((wn : Nat) : Rat) := by
        show a + (((2 + w : Int)) : Rat) - a = _
        rw [hwR]; grind
      rw [this]
      exact div_small (by omega) (by omega) hx
end N12
end Lw
set_option Elab.async false
set_option linter.all false
set_option maxRecDepth 100000
set_option maxHeartbeats 4000000
namespace Lw
open PySem PySem.Spec PyProof.Rows L2 Dn
namespace N12
def l3_0 : SM := sPnew 1 (mCallL m__law_pool (aCons (mV 0) (aNil)))
def l3_1 : SM := sAsgF [] (gTL 3 (gsC (gN 12) (gsC (gN 13) (gsC (gN 14) (gsN))))) (mCallP 1 m__law_hung (aNil))
def l3_2 : SM := sAsgF [] (gN 2) (mCall m__law_ratio (aCons (mOp dAdd (mC (.int 1)) (mCallP 1 m__law_draw (aCons (mC (.int 9)) (aNil)))) (aCons (mOp dAdd (mC (.int 1)) (mCallP 1 m__law_draw (aCons (mC (.int 3)) (aNil)))) (aNil))))
def l3_3 : SM := sAsgF [] (gN 3) (mFrz (mCallL gList (aCons (mV 14) (aNil))))
def l3_4 : SM := sAsgF [] (gN 4) (mFrz (mCallL m_points (aCons (mV 12) (aCons (mV 13) (aCons (mV 3) (aCons (mV 2) (aNil)))))))
def l3_5 : SM := sOwn [] 5 (mLstL (aNil))
def l3_6_0 : SM := sAppF [] 5 (mTup (aCons (mV 15) (aCons (mCall m__law_sub (aCons (mCall m__law_line_own (aCons (mV 12) (aCons (mV 13) (aCons (mV 15) (aNil))))) (aCons (mCall m__law_div (aCons (mCall m__law_moment (aCons (mV 12) (aCons (mV 13) (aCons (mV 14) (aCons (mV 15) (aNil)))))) (aCons (mV 2) (aNil)))) (aNil)))) (aNil))))
def l3_6_b : SM := l3_6_0
def l3_6 : SM := sFor [] (gTL 2 (gsC (gN 15) (gsC (gN 16) (gsN)))) (mIt itD (mOp dAdd (mOp dAdd (mFrz (mLstL (aCons (mTup (aCons (mOp dIx (mV 12) (mC (.int 0))) (aCons (mC .non) (aNil)))) (aNil)))) (mV 14)) (mFrz (mLstL (aCons (mTup (aCons (mOp dIx (mV 13) (mC (.int 0))) (aCons (mC .non) (aNil)))) (aNil)))))) l3_6_b
def l3_7 : SM := sIf (mOr (mNot (mTru (mCall (m__law_same 20) (aCons (mV 4) (aCons (mV 5) (aNil)))))) (mTst (mOp dNe (mV 3) (mV 14)))) (sRetF [] (mC (.bl false))) (sNil)
def l3_8 : SM := sAsgLS 6 (mLc [7] (mRng rng1 (aCons (mOp dSub (mCall gLen (aCons (mV 5) (aNil))) (mC (.int 1))) (aNil))) (gN 7) (tYesM) (mCall m__law_div (aCons (mCall m__law_sub (aCons (mOp dIx (mOp dIx (mV 5) (mOp dAdd (mV 7) (mC (.int 1)))) (mC (.int 1))) (aCons (mOp dIx (mOp dIx (mV 5) (mV 7)) (mC (.int 1))) (aNil)))) (aCons (mCall m__law_sub (aCons (mOp dIx (mOp dIx (mV 5) (mOp dAdd (mV 7) (mC (.int 1)))) (mC (.int 0))) (aCons (mOp dIx (mOp dIx (mV 5) (mV 7)) (mC (.int 0))) (aNil)))) (aNil)))))
def l3_9 : SM := sIf (mNot (mTru (mCall (m__law_same 20) (aCons (mFrz (mCallL m_slopes (aCons (mV 12) (aCons (mV 13) (aCons (mV 3) (aCons (mV 2) (aNil))))))) (aCons (mV 6) (aNil)))))) (sRetF [] (mC (.bl false))) (sNil)
def l3_10_0 : SM := sIf (mTst (mOp dNe (mCall m__law_sub (aCons (mOp dIx (mV 6) (mOp dAdd (mV 7) (mC (.int 1)))) (aCons (mOp dIx (mV 6) (mV 7)) (aNil)))) (mCall m__law_div (aCons (mOp dIx (mOp dIx (mV 14) (mV 7)) (mC (.int 1))) (aCons (mV 2) (aNil)))))) (sRetF [] (mC (.bl false))) (sNil)
def l3_10_b : SM := l3_10_0
def l3_10 : SM := sFor [] (gN 7) (mRng rng1 (aCons (mCall gLen (aCons (mV 14) (aNil))) (aNil))) l3_10_b
def l3_11 : SM := sIf (mNot (mTru (mCall (m__law_same 20) (aCons (mFrz (mCallL m_loads_of (aCons (mFrz (mCallL gList (aCons (mV 5) (aNil)))) (aCons (mV 2) (aNil))))) (aCons (mV 14) (aNil)))))) (sRetF [] (mC (.bl false))) (sNil)
def l3_12 : SM := sAsgF [] (gN 8) (mTup (aCons (mC (.int 0)) (aCons (mC (.int 1)) (aNil))))
def l3_13_0 : SM := sAsgF [] (gN 8) (mCall m__law_add (aCons (mV 8) (aCons (mV 16) (aNil))))
def l3_13_b : SM := l3_13_0
def l3_13 : SM := sFor [] (gTL 2 (gsC (gN 15) (gsC (gN 16) (gsN)))) (mIt itD (mV 14)) l3_13_b
def l3_14 : SM := sAsgF [] (gN 9) (mTup (aCons (mCall m__law_sub (aCons (mTup (aCons (mC (.int 0)) (aCons (mC (.int 1)) (aNil)))) (aCons (mCall m__law_mul (aCons (mV 2) (aCons (mOp dIx (mV 6) (mC (.int 0))) (aNil)))) (aNil)))) (aCons (mCall m__law_mul (aCons (mV 2) (aCons (mOp dIx (mV 6) (mUn dNeg (mC (.int 1)))) (aNil)))) (aNil))))
def l3_15 : SM := sIf (mOr (mNot (mTru (mCall (m__law_same 20) (aCons (mFrz (mLstL (aCons (mCall m_end_pulls (aCons (mV 12) (aCons (mV 13) (aCons (mV 3) (aCons (mV 2) (aNil)))))) (aCons (mCall m_whole_load (aCons (mV 3) (aNil))) (aNil))))) (aCons (mFrz (mLstL (aCons (mV 9) (aCons (mV 8) (aNil))))) (aNil)))))) (mTst (mOp dNe (mCall m__law_add (aCons (mOp dIx (mV 9) (mC (.int 0))) (aCons (mOp dIx (mV 9) (mC (.int 1))) (aNil)))) (mV 8)))) (sRetF [] (mC (.bl false))) (sNil)
def l3_16 : SM := sAsgF [] (gN 10) (mC .non)
def l3_17_0 : SM := sAsgF [] (gN 17) (mCall m__law_div (aCons (mCall m__law_moment (aCons (mV 12) (aCons (mV 13) (aCons (mV 14) (aCons (mV 15) (aNil)))))) (aCons (mV 2) (aNil))))
def l3_17_1 : SM := sAsgF [] (gN 10) (mIte (mOr (mTst (mOp dIs (mV 10) (mC .non))) (mTst (mOp dGt (mOp dIx (mCall m__law_sub (aCons (mV 17) (aCons (mOp dIx (mV 10) (mC (.int 0))) (aNil)))) (mC (.int 0))) (mC (.int 0))))) (mTup (aCons (mV 17) (aCons (mV 15) (aNil)))) (mV 10))
def l3_17_b : SM := sSeq l3_17_0 l3_17_1
def l3_17 : SM := sFor [] (gTL 2 (gsC (gN 15) (gsC (gN 16) (gsN)))) (mIt itD (mV 14)) l3_17_b
def l3_18 : SM := sIf (mNot (mTru (mCall (m__law_same 20) (aCons (mCall m_greatest_sag (aCons (mV 12) (aCons (mV 13) (aCons (mV 3) (aCons (mV 2) (aNil)))))) (aCons (mV 10) (aNil)))))) (sRetF [] (mC (.bl false))) (sNil)
def l3_19_0 : SM := sDrop (mCallP 1 m__law_next (aNil))
def l3_19_1 : SM := sAsgF [] (gN 18) (mCall m__law_sub (aCons (mOp dIx (mV 13) (mC (.int 0))) (aCons (mOp dIx (mV 12) (mC (.int 0))) (aNil))))
def l3_19_2 : SM := sAsgF [] (gN 19) (mCall m__law_add (aCons (mOp dIx (mV 12) (mC (.int 0))) (aCons (mCall m__law_mul (aCons (mV 18) (aCons (mCall m__law_ratio (aCons (mOp dAdd (mC (.int 1)) (mCallP 1 m__law_draw (aCons (mC (.int 30)) (aNil)))) (aCons (mC (.int 32)) (aNil)))) (aNil)))) (aNil))))
def l3_19_3 : SM := sAsgF [] (gN 20) (mCall m__law_moment (aCons (mV 12) (aCons (mV 13) (aCons (mV 14) (aCons (mV 19) (aNil))))))
def l3_19_4 : SM := sAsgF [] (gN 21) (mCall m__law_line_own (aCons (mV 12) (aCons (mV 13) (aCons (mV 19) (aNil)))))
def l3_19_5 : SM := sAsgF [] (gN 22) (mCall m__law_sub (aCons (mV 21) (aCons (mCall m__law_div (aCons (mV 20) (aCons (mV 2) (aNil)))) (aNil))))
def l3_19_6 : SM := sIf (mNot (mTru (mCall (m__law_same 20) (aCons (mFrz (mLstL (aCons (mCall m_height_at (aCons (mV 12) (aCons (mV 13) (aCons (mV 3) (aCons (mV 2) (aCons (mV 19) (aNil))))))) (aCons (mCall m_sag (aCons (mV 12) (aCons (mV 13) (aCons (mV 3) (aCons (mV 2) (aCons (mV 19) (aNil))))))) (aNil))))) (aCons (mFrz (mLstL (aCons (mV 22) (aCons (mCall m__law_div (aCons (mV 20) (aCons (mV 2) (aNil)))) (aNil))))) (aNil)))))) (sRetF [] (mC (.bl false))) (sNil)
def l3_19_7 : SM := sAsgF [] (gN 23) (mCallP 1 m__law_pick (aCons (mFrz (mLstL (aCons (mV 22) (aCons (mCallP 1 m__law_small_told (aNil)) (aCons (mV 21) (aNil)))))) (aNil)))
def l3_19_8 : SM := sAsgF [] (gN 24) (mCall m__law_sub (aCons (mV 21) (aCons (mV 23) (aNil))))
def l3_19_9 : SM := sAsgF [] (gN 25) (mCall m_pull_through (aCons (mV 12) (aCons (mV 13) (aCons (mV 3) (aCons (mTup (aCons (mV 19) (aCons (mV 23) (aNil)))) (aNil))))))
def l3_19_10 : SM := sAsgF [] (gN 26) (mAndV (mOp dNe (mOp dIx (mV 24) (mC (.int 0))) (mC (.int 0))) (mOp dGt (mOp dMul (mOp dIx (mV 20) (mC (.int 0))) (mOp dIx (mV 24) (mC (.int 0)))) (mC (.int 0))))
def l3_19_11 : SM := sIf (mNot (mTru (mCall (m__law_same 20) (aCons (mV 25) (aCons (mIte (mTru (mV 26)) (mCall m__law_div (aCons (mV 20) (aCons (mV 24) (aNil)))) (mC .non)) (aNil)))))) (sRetF [] (mC (.bl false))) (sNil)
def l3_19_12 : SM := sIf (mAnd (mTst (mOp dIsNot (mV 25) (mC .non))) (mTst (mOp dNe (mCall m_height_at (aCons (mV 12) (aCons (mV 13) (aCons (mV 3) (aCons (mV 25) (aCons (mV 19) (aNil))))))) (mV 23)))) (sRetF [] (mC (.bl false))) (sNil)
def l3_19_b : SM := sSeq l3_19_0 (sSeq l3_19_1 (sSeq l3_19_2 (sSeq l3_19_3 (sSeq l3_19_4 (sSeq l3_19_5 (sSeq l3_19_6 (sSeq l3_19_7 (sSeq l3_19_8 (sSeq l3_19_9 (sSeq l3_19_10 (sSeq l3_19_11 l3_19_12)))))))))))
def l3_19 : SM := sFor [] (gN 11) (mRng rng1 (aCons (mC (.int 4)) (aNil))) l3_19_b
def l3_20 : SM := sRetF [] (mOp dIs (mCall m_height_at (aCons (mV 12) (aCons (mV 13) (aCons (mV 3) (aCons (mV 2) (aCons (mCall m__law_sub (aCons (mOp dIx (mV 12) (mC (.int 0))) (aCons (mTup (aCons (mC (.int 1)) (aCons (mC (.int 1)) (aNil)))) (aNil)))) (aNil))))))) (mC .non))
theorem l3_eq : b_law = sSeq l3_0 (sSeq l3_1 (sSeq l3_2 (sSeq l3_3 (sSeq l3_4 (sSeq l3_5 (sSeq l3_6 (sSeq l3_7 (sSeq l3_8 (sSeq l3_9 (sSeq l3_10 (sSeq l3_11 (sSeq l3_12 (sSeq l3_13 (sSeq l3_14 (sSeq l3_15 (sSeq l3_16 (sSeq l3_17 (sSeq l3_18 (sSeq l3_19 l3_20))))))))))))))))))) := rfl

variable {r : Rp} {P : Rat} {W m : Nat}
theorem rat_same (q : Rat) : m__law_same 20 [rD q, rD q] = some (.bl true) := same_refl 19 _ (by simp [pd, rD])
theorem non_same : m__law_same 20 [.non, .non] = some (.bl true) := same_refl 19 _ (by simp [pd])
theorem noLL_rD : ∀ qs : List Rat, noLL (qs.map rD) = true
  | [] => rfl
  | q :: qs => by rw [List.map_cons]; show (noL (rD q) && noLL (qs.map rD)) = true; rw [noLL_rD qs]; rfl
/-- what is due -/
theorem due_loop (h : Bd r) (p : Pu P W m) (ns : List Int) (x4 x6 x7 x8 x9 x10 x11 x17 x18 x19 x20 x21 x22 x23 x24 x25 x26 : Sl) (pl : Option Pl) : ∀ (qs : List (Rat × D)) (acc : List Rat) (x15 x16 : Sl), (∀ q ∈ qs, Bm.In 192 15 q.1) → acc.length + qs.length ≤ 100 →
    ∃ y15 y16, forL (gTL 2 (gsC (gN 15) (gsC (gN 16) (gsN)))) l3_6_b (qs.map fun q => D.tup [rD q.1, q.2]) [.val (.scr ns), .pool, .val (rD P), .val (LO r.ls), x4, .own (acc.map (pD r P)), x6, x7, x8, x9, x10, x11, .val (ed r.x0 r.y0), .val (ed r.x1 r.y1), .val (LO r.ls), x15, x16, x17, x18, x19, x20, x21, x22, x23, x24, x25, x26] pl = some (.nx [.val (.scr ns), .pool, .val (rD P), .val (LO r.ls), x4, .own ((acc ++ qs.map (·.1)).map (pD r P)), x6, x7, x8, x9, x10, x11, .val (ed r.x0 r.y0), .val (ed r.x1 r.y1), .val (LO r.ls), y15, y16, x17, x18, x19, x20, x21, x22, x23, x24, x25, x26] pl)
  | [], acc, x15, x16, _, _ => ⟨x15, x16, by simp [x_for0]⟩
  | q :: qs, acc, x15, x16, hq, ha => by
    rw [List.length_cons] at ha
    have iq := hq q List.mem_cons_self
    have e1 := lineown_ok h iq
    have e2 := moment_ok h iq
    have sm := h.s_M iq
    have t1 := _law_div_ok (sm.mono (by omega)) (p.sm.mono (by omega : 300 ≤ 4000)) p.n0
    have t2 := _law_sub_ok ((h.s_line iq).mono (by omega)) ((sm.div p.sm p.n0).mono (by omega : _ ≤ 4000))
    have t2' : m__law_sub [rD (r.line q.1), rD (r.M q.1 / P)] = some (rD (r.g P q.1)) := t2
    have zA : sized (acc.map (pD r P)).length = true := by rw [List.length_map]; exact x_sized (by omega)
    have hA : (acc ++ [q.1]).map (pD r P) = acc.map (pD r P) ++ [pD r P q.1] := by rw [List.map_append]; rfl
    obtain ⟨y15, y16, ih⟩ := due_loop h p ns x4 x6 x7 x8 x9 x10 x11 x17 x18 x19 x20 x21 x22 x23 x24 x25 x26 pl qs (acc ++ [q.1]) (.val (rD q.1)) (.val q.2) (fun z hz => hq z (List.mem_cons_of_mem _ hz)) (by rw [List.length_append, List.length_singleton]; omega)
    refine ⟨y15, y16, ?_⟩
    have k : l3_6_b [.val (.scr ns), .pool, .val (rD P), .val (LO r.ls), x4, .own (acc.map (pD r P)), x6, x7, x8, x9, x10, x11, .val (ed r.x0 r.y0), .val (ed r.x1 r.y1), .val (LO r.ls), .val (rD q.1), .val q.2, x17, x18, x19, x20, x21, x22, x23, x24, x25, x26] pl = some (.nx [.val (.scr ns), .pool, .val (rD P), .val (LO r.ls), x4, .own ((acc ++ [q.1]).map (pD r P)), x6, x7, x8, x9, x10, x11, .val (ed r.x0 r.y0), .val (ed r.x1 r.y1), .val (LO r.ls), .val (rD q.1), .val q.2, x17, x18, x19, x20, x21, x22, x23, x24, x25, x26] pl) := by
      rw [hA]
      generalize acc.map (pD r P) = A at *
      unfold pD
      generalize r.line q.1 = l at *
      generalize r.M q.1 / P = d at *
      generalize r.M q.1 = M at *
      generalize r.g P q.1 = g at *
      simp [l3_6_b, l3_6_0, e1, e2, t1, t2', zA]
    have hg : (gTL 2 (gsC (gN 15) (gsC (gN 16) (gsN)))) (D.tup [rD q.1, q.2]) [.val (.scr ns), .pool, .val (rD P), .val (LO r.ls), x4, .own (acc.map (pD r P)), x6, x7, x8, x9, x10, x11, .val (ed r.x0 r.y0), .val (ed r.x1 r.y1), .val (LO r.ls), x15, x16, x17, x18, x19, x20, x21, x22, x23, x24, x25, x26] = some [.val (.scr ns), .pool, .val (rD P), .val (LO r.ls), x4, .own (acc.map (pD r P)), x6, x7, x8, x9, x10, x11, .val (ed r.x0 r.y0), .val (ed r.x1 r.y1), .val (LO r.ls), .val (rD q.1), .val q.2, x17, x18, x19, x20, x21, x22, x23, x24, x25, x26] := by simp
    rw [List.map_cons, x_forC, hg]
    simp only [Option.bind_some]
    rw [k, x_afN, ih]
    rw [List.append_assoc]; rfl
theorem dif_range (g : Rat → Rat) : ∀ bs : List Rat, dif g bs = (List.range (bs.length - 1)).map fun i => (g (bs.getD (i + 1) 0) - g (bs.getD i 0)) / (bs.getD (i + 1) 0 - bs.getD i 0)
  | [] => rfl
  | [_] => rfl
  | a :: b :: bs => by
    have ih := dif_range g (b :: bs)
    show (g b - g a) / (b - a) :: dif g (b :: bs) = _
    rw [ih]
    simp only [List.length_cons, Nat.add_sub_cancel]
    rw [List.range_succ_eq_map, List.map_cons, List.map_map]
    rfl
theorem sls_at : ∀ (rest pre : List Lo) (s : Rat) , (sls P s (pre ++ rest))[pre.length]? = some (s + sf (fun l => l.2 / P) pre)
  | rest, [], s => by
    obtain ⟨tl, e⟩ := sls_head (P := P) s ([] ++ rest)
    rw [e]; show some s = some (s + 0); congr 1; grind
  | rest, l :: pre, s => by
    rw [List.cons_append, sls_cons, List.length_cons, List.getElem?_cons_succ, sls_at rest pre]
    show some (s + l.2 / P + sf (fun l => l.2 / P) pre) = some (s + (l.2 / P + sf (fun l => l.2 / P) pre))
    congr 1; grind
theorem steps_loop (h : Bd r) (p : Pu P W m) (ns : List Int) (x4 x5 x8 x9 x10 x11 x15 x16 x17 x18 x19 x20 x21 x22 x23 x24 x25 x26 : Sl) (pl : Option Pl) : ∀ (rest pre : List Lo) (x7 : Sl), r.ls = pre ++ rest →
    ∃ y7, forL (gN 7) l3_10_b (rangeD (pre.length : Nat) rest.length) [.val (.scr ns), .pool, .val (rD P), .val (LO r.ls), x4, x5, .val (.lst ((sls P (r.s0 P) r.ls).map rD)), x7, x8, x9, x10, x11, .val (ed r.x0 r.y0), .val (ed r.x1 r.y1), .val (LO r.ls), x15, x16, x17, x18, x19, x20, x21, x22, x23, x24, x25, x26] pl = some (.nx [.val (.scr ns), .pool, .val (rD P), .val (LO r.ls), x4, x5, .val (.lst ((sls P (r.s0 P) r.ls).map rD)), y7, x8, x9, x10, x11, .val (ed r.x0 r.y0), .val (ed r.x1 r.y1), .val (LO r.ls), x15, x16, x17, x18, x19, x20, x21, x22, x23, x24, x25, x26] pl)
  | [], pre, x7, _ => ⟨x7, by simp [rangeD, x_for0]⟩
  | l :: rest, pre, x7, e => by
    have hl : l ∈ r.ls := by rw [e]; simp
    have e' : r.ls = (pre ++ [l]) ++ rest := by rw [e, List.append_assoc]; rfl
    have a0 := sls_at (P := P) (l :: rest) pre (r.s0 P)
    have a1 := sls_at (P := P) rest (pre ++ [l]) (r.s0 P)
    rw [← e] at a0
    rw [← e', List.length_append, List.length_singleton] at a1
    have s1 := h.s_sl p e
    have s2 := h.s_sl p e'
    have i0 : atI ((sls P (r.s0 P) r.ls).map rD) (pre.length : Int) = some (rD (r.sl P pre)) := atI_nat (by rw [List.getElem?_map, a0]; rfl)
    have i1 : atI ((sls P (r.s0 P) r.ls).map rD) ((pre.length : Int) + 1) = some (rD (r.sl P (pre ++ [l]))) := by
      rw [show ((pre.length : Int) + 1) = ((pre.length + 1 : Nat) : Int) from rfl]
      exact atI_nat (by rw [List.getElem?_map, a1]; rfl)
    have i2 : atI (r.ls.map lD) (pre.length : Int) = some (lD l) := atI_nat (by rw [List.getElem?_map, e]; simp)
    have t1 := _law_sub_ok (s2.mono (by omega)) (s1.mono (by omega : 300 ≤ 4000))
    rw [show r.sl P (pre ++ [l]) - r.sl P pre = l.2 / P by rw [← sl_step]; grind] at t1
    have t2 := _law_div_ok ((h.s_f hl).mono (by omega)) (p.sm.mono (by omega : 300 ≤ 4000)) p.n0
    obtain ⟨y7, ih⟩ := steps_loop h p ns x4 x5 x8 x9 x10 x11 x15 x16 x17 x18 x19 x20 x21 x22 x23 x24 x25 x26 pl rest (pre ++ [l]) (.val (.int (pre.length : Nat))) e'
    refine ⟨y7, ?_⟩
    have k : l3_10_b [.val (.scr ns), .pool, .val (rD P), .val (LO r.ls), x4, x5, .val (.lst ((sls P (r.s0 P) r.ls).map rD)), .val (.int (pre.length : Nat)), x8, x9, x10, x11, .val (ed r.x0 r.y0), .val (ed r.x1 r.y1), .val (LO r.ls), x15, x16, x17, x18, x19, x20, x21, x22, x23, x24, x25, x26] pl = some (.nx [.val (.scr ns), .pool, .val (rD P), .val (LO r.ls), x4, x5, .val (.lst ((sls P (r.s0 P) r.ls).map rD)), .val (.int (pre.length : Nat)), x8, x9, x10, x11, .val (ed r.x0 r.y0), .val (ed r.x1 r.y1), .val (LO r.ls), x15, x16, x17, x18, x19, x20, x21, x22, x23, x24, x25, x26] pl) := by
      generalize (sls P (r.s0 P) r.ls).map rD = S at *
      generalize r.sl P pre = s1 at *
      generalize r.sl P (pre ++ [l]) = s2 at *
      generalize l.2 / P = q at *
      simp [l3_10_b, l3_10_0, i0, i1, i2, t1, t2, ne_rat]
    rw [List.length_append, List.length_singleton] at ih
    rw [List.length_cons, range_cons, x_forC, x_gN]
    simp only [Option.bind_some, List.set_cons_succ, List.set_cons_zero]
    rw [k, x_afN, ih]
theorem total_loop (h : Bd r) (ns : List Int) (x4 x5 x6 x7 x9 x10 x11 x17 x18 x19 x20 x21 x22 x23 x24 x25 x26 : Sl) (pl : Option Pl) : ∀ (rest pre : List Lo) (x15 x16 : Sl), r.ls = pre ++ rest →
    ∃ y15 y16, forL (gTL 2 (gsC (gN 15) (gsC (gN 16) (gsN)))) l3_13_b (rest.map lD) [.val (.scr ns), .pool, .val (rD P), .val (LO r.ls), x4, x5, x6, x7, .val (rD (sf (·.2) pre)), x9, x10, x11, .val (ed r.x0 r.y0), .val (ed r.x1 r.y1), .val (LO r.ls), x15, x16, x17, x18, x19, x20, x21, x22, x23, x24, x25, x26] pl = some (.nx [.val (.scr ns), .pool, .val (rD P), .val (LO r.ls), x4, x5, x6, x7, .val (rD (sf (·.2) r.ls)), x9, x10, x11, .val (ed r.x0 r.y0), .val (ed r.x1 r.y1), .val (LO r.ls), y15, y16, x17, x18, x19, x20, x21, x22, x23, x24, x25, x26] pl)
  | [], pre, x15, x16, e => ⟨x15, x16, by rw [e, List.append_nil]; rfl⟩
  | l :: rest, pre, x15, x16, e => by
    have hl : l ∈ r.ls := by rw [e]; simp
    have sp : Sm 100 (sf (·.2) pre) := (sf_sm (n := 5) pre fun z hz => h.s_f (pre_mem e hz)).mono (by
      have := pre_len h e
      have : pre.length * (5 + 1) ≤ 7 * (5 + 1) := Nat.mul_le_mul_right _ this
      omega)
    have t := _law_add_ok (sp.mono (by omega)) ((h.s_f hl).mono (by omega : 5 ≤ 4000))
    rw [← sf_one (·.2)] at t
    obtain ⟨y15, y16, ih⟩ := total_loop h ns x4 x5 x6 x7 x9 x10 x11 x17 x18 x19 x20 x21 x22 x23 x24 x25 x26 pl rest (pre ++ [l]) (.val (rD l.1)) (.val (rD l.2)) (by rw [e, List.append_assoc]; rfl)
    refine ⟨y15, y16, ?_⟩
    have k : l3_13_b [.val (.scr ns), .pool, .val (rD P), .val (LO r.ls), x4, x5, x6, x7, .val (rD (sf (·.2) pre)), x9, x10, x11, .val (ed r.x0 r.y0), .val (ed r.x1 r.y1), .val (LO r.ls), .val (rD l.1), .val (rD l.2), x17, x18, x19, x20, x21, x22, x23, x24, x25, x26] pl = some (.nx [.val (.scr ns), .pool, .val (rD P), .val (LO r.ls), x4, x5, x6, x7, .val (rD (sf (·.2) (pre ++ [l]))), x9, x10, x11, .val (ed r.x0 r.y0), .val (ed r.x1 r.y1), .val (LO r.ls), .val (rD l.1), .val (rD l.2), x17, x18, x19, x20, x21, x22, x23, x24, x25, x26] pl) := by
      generalize sf (·.2) pre = A at *
      generalize sf (·.2) (pre ++ [l]) = B at *
      simp [l3_13_b, l3_13_0, t]
    have hg : (gTL 2 (gsC (gN 15) (gsC (gN 16) (gsN)))) (lD l) [.val (.scr ns), .pool, .val (rD P), .val (LO r.ls), x4, x5, x6, x7, .val (rD (sf (·.2) pre)), x9, x10, x11, .val (ed r.x0 r.y0), .val (ed r.x1 r.y1), .val (LO r.ls), x15, x16, x17, x18, x19, x20, x21, x22, x23, x24, x25, x26] = some [.val (.scr ns), .pool, .val (rD P), .val (LO r.ls), x4, x5, x6, x7, .val (rD (sf (·.2) pre)), x9, x10, x11, .val (ed r.x0 r.y0), .val (ed r.x1 r.y1), .val (LO r.ls), .val (rD l.1), .val (rD l.2), x17, x18, x19, x20, x21, x22, x23, x24, x25, x26] := by simp
    rw [List.map_cons, x_forC, hg]
    simp only [Option.bind_some]
    rw [k, x_afN, ih]
theorem lowest_loop (h : Bd r) (p : Pu P W m) (ns : List Int) (x4 x5 x6 x7 x8 x9 x11 x18 x19 x20 x21 x22 x23 x24 x25 x26 : Sl) (pl : Option Pl) : ∀ (rest : List Lo) (b : Option (Rat × Rat)) (x15 x16 x17 : Sl), (∀ l ∈ rest, l ∈ r.ls) → OkB b →
    ∃ y15 y16 y17, forL (gTL 2 (gsC (gN 15) (gsC (gN 16) (gsN)))) l3_17_b (rest.map lD) [.val (.scr ns), .pool, .val (rD P), .val (LO r.ls), x4, x5, x6, x7, x8, x9, .val (bd b), x11, .val (ed r.x0 r.y0), .val (ed r.x1 r.y1), .val (LO r.ls), x15, x16, x17, x18, x19, x20, x21, x22, x23, x24, x25, x26] pl = some (.nx [.val (.scr ns), .pool, .val (rD P), .val (LO r.ls), x4, x5, x6, x7, x8, x9, .val (bd (rest.foldl (stepG r P) b)), x11, .val (ed r.x0 r.y0), .val (ed r.x1 r.y1), .val (LO r.ls), y15, y16, y17, x18, x19, x20, x21, x22, x23, x24, x25, x26] pl)
  | [], b, x15, x16, x17, _, _ => ⟨x15, x16, x17, rfl⟩
  | l :: rest, b, x15, x16, x17, hr, hb => by
    have hl := hr l List.mem_cons_self
    have e2 := moment_ok h (h.a hl)
    have sm := h.s_MP p (h.a hl)
    have t1 := _law_div_ok ((h.s_M (h.a hl)).mono (by omega)) (p.sm.mono (by omega : 300 ≤ 4000)) p.n0
    obtain ⟨y15, y16, y17, ih⟩ := lowest_loop h p ns x4 x5 x6 x7 x8 x9 x11 x18 x19 x20 x21 x22 x23 x24 x25 x26 pl rest (stepG r P b l) (.val (rD l.1)) (.val (rD l.2)) (.val (rD (r.M l.1 / P))) (fun z hz => hr z (List.mem_cons_of_mem _ hz)) (stepG_ok h p hb hl)
    refine ⟨y15, y16, y17, ?_⟩
    have k0 : l3_17_0 [.val (.scr ns), .pool, .val (rD P), .val (LO r.ls), x4, x5, x6, x7, x8, x9, .val (bd b), x11, .val (ed r.x0 r.y0), .val (ed r.x1 r.y1), .val (LO r.ls), .val (rD l.1), .val (rD l.2), x17, x18, x19, x20, x21, x22, x23, x24, x25, x26] pl = some (.nx [.val (.scr ns), .pool, .val (rD P), .val (LO r.ls), x4, x5, x6, x7, x8, x9, .val (bd b), x11, .val (ed r.x0 r.y0), .val (ed r.x1 r.y1), .val (LO r.ls), .val (rD l.1), .val (rD l.2), .val (rD (r.M l.1 / P)), x18, x19, x20, x21, x22, x23, x24, x25, x26] pl) := by
      generalize r.M l.1 / P = q at *
      generalize r.M l.1 = M at *
      generalize bd b = B at *
      simp [l3_17_0, e2, t1]
    have k1 : l3_17_1 [.val (.scr ns), .pool, .val (rD P), .val (LO r.ls), x4, x5, x6, x7, x8, x9, .val (bd b), x11, .val (ed r.x0 r.y0), .val (ed r.x1 r.y1), .val (LO r.ls), .val (rD l.1), .val (rD l.2), .val (rD (r.M l.1 / P)), x18, x19, x20, x21, x22, x23, x24, x25, x26] pl = some (.nx [.val (.scr ns), .pool, .val (rD P), .val (LO r.ls), x4, x5, x6, x7, x8, x9, .val (bd (stepG r P b l)), x11, .val (ed r.x0 r.y0), .val (ed r.x1 r.y1), .val (LO r.ls), .val (rD l.1), .val (rD l.2), .val (rD (r.M l.1 / P)), x18, x19, x20, x21, x22, x23, x24, x25, x26] pl) := by
      cases b with
      | none =>
        rw [show stepG r P none l = some (r.M l.1 / P, l.1) from rfl]
        generalize r.M l.1 / P = q at *
        simp [l3_17_1, bd, is_nn]
      | some b =>
        have t := _law_sub_ok (sm.mono (by omega)) ((hb _ rfl).mono (by omega : 400 ≤ 4000))
        have gt := gt_rat (r.M l.1 / P - b.1)
        by_cases c : b.1 < r.M l.1 / P
        · rw [decide_eq_true (show 0 < r.M l.1 / P - b.1 by grind)] at gt
          rw [show stepG r P (some b) l = some (r.M l.1 / P, l.1) from if_pos c]
          generalize r.M l.1 / P = q at *
          simp [l3_17_1, bd, is_bd, t, rat_num, gt]
        · rw [decide_eq_false (show ¬ 0 < r.M l.1 / P - b.1 by grind)] at gt
          rw [show stepG r P (some b) l = some b from if_neg c]
          generalize r.M l.1 / P = q at *
          simp [l3_17_1, bd, is_bd, t, rat_num, gt]
    have hg : (gTL 2 (gsC (gN 15) (gsC (gN 16) (gsN)))) (lD l) [.val (.scr ns), .pool, .val (rD P), .val (LO r.ls), x4, x5, x6, x7, x8, x9, .val (bd b), x11, .val (ed r.x0 r.y0), .val (ed r.x1 r.y1), .val (LO r.ls), x15, x16, x17, x18, x19, x20, x21, x22, x23, x24, x25, x26] = some [.val (.scr ns), .pool, .val (rD P), .val (LO r.ls), x4, x5, x6, x7, x8, x9, .val (bd b), x11, .val (ed r.x0 r.y0), .val (ed r.x1 r.y1), .val (LO r.ls), .val (rD l.1), .val (rD l.2), x17, x18, x19, x20, x21, x22, x23, x24, x25, x26] := by simp
    rw [List.map_cons, x_forC, hg]
    simp only [Option.bind_some]
    rw [l3_17_b, x_sSeq, k0, x_nxN, k1, x_afN, ← l3_17_b, ih]
    rfl
/-! one place more -/
theorem sign_div {a b : Rat} (hb : b ≠ 0) : 0 < a / b ↔ 0 < a.num * b.num := by
  have k1 := num_gt0 a
  have k2 := num_gt0 b
  have k3 := num_lt0 a
  have k4 := num_lt0 b
  rw [Rat.div_def]
  rcases (show 0 < b ∨ b < 0 by grind) with h | h
  · have hi := Rat.inv_pos.mpr h
    have hbn := k2.mpr h
    constructor
    · intro q
      have : 0 < a := by
        rcases (show 0 < a ∨ a ≤ 0 by grind) with g | g
        · exact g
        · exfalso
          have := Rat.mul_nonneg (a := -a) (b := b⁻¹) (by grind) (Rat.le_of_lt hi)
          grind
      exact Int.mul_pos (k1.mpr this) hbn
    · intro q
      have : 0 < a.num := by
        rcases Int.lt_trichotomy a.num 0 with g | g | g
        · have := Int.mul_neg_of_neg_of_pos g hbn; omega
        · rw [g, Int.zero_mul] at q; omega
        · exact g
      exact Rat.mul_pos (k1.mp this) hi
  · have hi := Rat.inv_pos.mpr (show 0 < -b by grind)
    have e : (-b)⁻¹ = -(b⁻¹) := by grind
    rw [e] at hi
    have hbn := k4.mpr h
    constructor
    · intro q
      have : a < 0 := by
        rcases (show a < 0 ∨ 0 ≤ a by grind) with g | g
        · exact g
        · exfalso
          have := Rat.mul_nonneg (a := a) (b := -(b⁻¹)) g (Rat.le_of_lt hi)
          grind
      exact Int.mul_pos_of_neg_of_neg (k3.mpr this) hbn
    · intro q
      have : a.num < 0 := by
        rcases Int.lt_trichotomy a.num 0 with g | g | g
        · exact g
        · rw [g, Int.zero_mul] at q; omega
        · have := Int.mul_neg_of_pos_of_neg g hbn; omega
      have := Rat.mul_pos (a := -a) (b := -(b⁻¹)) (by have := k3.mp this; grind) hi
      grind
theorem gM_eq {x v : Rat} (h1 : r.M x ≠ 0) (h2 : r.line x - v ≠ 0) : r.g (r.M x / (r.line x - v)) x = v := by
  unfold Rp.g
  generalize r.M x = M at *
  generalize hd : r.line x - v = d at *
  have : M / (M / d) = d := by grind
  rw [this]; grind
theorem pu_new (h : Bd r) (w0 : 0 < W) (hW : W ≤ 64) {x v : Rat} (ix : Bm.In 192 15 x) (iv : Bm.In (KM * W) 61 v) (h1 : r.M x ≠ 0) (h2 : r.line x - v ≠ 0) : ∃ W' m', Pu (r.M x / (r.line x - v)) W' m' := by
  obtain ⟨V, v0, v1, dv⟩ := Bm.In.div (h.M ix) h1 (m := 24) (by decide)
  have idr : Bm.In (KM * W) 62 (r.line x - v) := Bm.In.sub (h.l2 w0 hW ix) iv
  have kw : KM * W < 2 ^ 30 := by unfold KM; omega
  refine ⟨KM * W * V, 86, ?_, Nat.mul_pos (by unfold KM; omega) v0, ?_, by decide, ?_, fun {N n a} ha => ?_⟩
  · intro q
    have : r.M x / (r.line x - v) * (r.line x - v) = r.M x := by
      generalize r.line x - v = d at *; grind
    rw [q, Rat.zero_mul] at this
    exact h1 this.symm
  · have a : KM * W * V < 2 ^ 30 * 2 ^ 50 := Nat.mul_lt_mul_of_lt_of_le kw (Nat.le_of_lt v1) (by decide)
    rw [← Nat.pow_add] at a
    exact Nat.lt_of_lt_of_le a (Nat.pow_le_pow_right (by decide) (by decide))
  · exact ((h.s_M ix).div (idr.sm (k := 62) (Nat.lt_of_lt_of_le kw (Nat.pow_le_pow_right (by decide) (by decide))) (by decide)) h2).mono (by decide)
  · have e : a / (r.M x / (r.line x - v)) = a * (r.line x - v) / r.M x := by
      generalize r.line x - v = d at *
      generalize r.M x = M at *
      have : M / d ≠ 0 := by
        intro q
        have : M / d * d = M := by grind
        rw [q, Rat.zero_mul] at this
        exact h1 this.symm
      grind
    rw [e]
    have := dv (Bm.In.mul ha idr)
    rw [show N * (KM * W) * V = N * (KM * W * V) by rw [Nat.mul_assoc]] at this
    exact this.mono (by omega)
theorem place_turn (h : Bd r) (p : Pu P W m) (hW : W ≤ 64) (hm : m ≤ 10) (ns : List Int) (x11 x4 x5 x6 x7 x8 x9 x10 x15 x16 x17 x18 x19 x20 x21 x22 x23 x24 x25 x26 : Sl) (Q : Pl) : ∃ y18 y19 y20 y21 y22 y23 y24 y25 y26 Q', l3_19_b [.val (.scr ns), .pool, .val (rD P), .val (LO r.ls), x4, x5, x6, x7, x8, x9, x10, x11, .val (ed r.x0 r.y0), .val (ed r.x1 r.y1), .val (LO r.ls), x15, x16, x17, x18, x19, x20, x21, x22, x23, x24, x25, x26] (some Q) = some (.nx [.val (.scr ns), .pool, .val (rD P), .val (LO r.ls), x4, x5, x6, x7, x8, x9, x10, x11, .val (ed r.x0 r.y0), .val (ed r.x1 r.y1), .val (LO r.ls), x15, x16, x17, y18, y19, y20, y21, y22, y23, y24, y25, y26] (some Q')) := by
  obtain ⟨Q1, n1⟩ := next_ok Q
  obtain ⟨k, Q2, d2, l2, u2⟩ := draw_ok Q1 30 (by decide) (by decide)
  have t1 := _law_sub_ok (h.s_x1.mono (by omega)) (h.s_x0.mono (by omega : 10 ≤ 4000))
  have t1' : m__law_sub [rD r.x1, rD r.x0] = some (rD r.w) := t1
  have t2 : m__law_ratio [.int (1 + k), .int 32] = some (rD (((1 + k : Int) : Rat) / 32)) := ratio_ok (p := 1 + k) (q := 32) (by decide) (Nat.lt_of_lt_of_le (show (32 : Int).natAbs < 2 ^ 6 by decide) (Nat.pow_le_pow_right (by decide) (by decide)))
  have i32 : Bm.In 32 5 (((1 + k : Int) : Rat) / 32) := ⟨by decide, 1 + k, rfl, by omega⟩
  have s32 : Sm 6 (((1 + k : Int) : Rat) / 32) := i32.sm (by decide) (by decide)
  have sw : Sm 21 r.w := h.s_x1.sub h.s_x0
  have t3 := _law_mul_ok (sw.mono (by omega)) (s32.mono (by omega : 6 ≤ 4000))
  have t4 := _law_add_ok (h.s_x0.mono (by omega)) ((sw.mul s32).mono (by omega : _ ≤ 4000))
  have iwt : Bm.In 192 13 (r.w * (((1 + k : Int) : Rat) / 32)) := (Bm.In.up (Bm.In.mul h.iwd i32) (M := 6) (m := 3) (K := 192) (by decide) (by decide) (by decide)).mono (by decide)
  have ix0' : Bm.In 192 13 r.x0 := (Bm.In.up h.ixs (M := 32) (m := 5) (K := 192) (by decide) (by decide) (by decide)).mono (by decide)
  have ix : Bm.In 192 15 (r.x0 + r.w * (((1 + k : Int) : Rat) / 32)) := (Bm.In.add ix0' iwt).mono (by decide)
  have q0 : (0 : Rat) ≤ ((1 + k : Int) : Rat) := by exact_mod_cast (show (0 : Int) ≤ 1 + k by omega)
  have q1 : ((1 + k : Int) : Rat) ≤ 32 := by exact_mod_cast (show 1 + k ≤ (32 : Int) by omega)
  have wp : 0 ≤ r.w := by have := h.ok.lt; unfold Rp.w; grind
  have r0 : 0 ≤ ((1 + k : Int) : Rat) / 32 := by grind
  have r1 : ((1 + k : Int) : Rat) / 32 ≤ 1 := by grind
  generalize ((1 + k : Int) : Rat) / 32 = t at *
  have xa : r.x0 ≤ r.x0 + r.w * t := by have := Rat.mul_nonneg wp r0; grind
  have xb : r.x0 + r.w * t ≤ r.x1 := by
    have := Rat.mul_nonneg wp (show 0 ≤ 1 - t by grind)
    have e : r.x1 = r.x0 + r.w := by unfold Rp.w; grind
    grind
  have e3 := moment_ok h ix
  have e4 := lineown_ok h ix
  have e5 := height_ok h p ix xa xb
  have e6 := sag_ok h p ix xa xb
  generalize hx : r.x0 + r.w * t = x at *
  have sM := h.s_M ix
  have t5 := _law_div_ok (sM.mono (by omega)) (p.sm.mono (by omega : 300 ≤ 4000)) p.n0
  have t6 := _law_sub_ok ((h.s_line ix).mono (by omega)) ((sM.div p.sm p.n0).mono (by omega : _ ≤ 4000))
  have t6' : m__law_sub [rD (r.line x), rD (r.M x / P)] = some (rD (r.g P x)) := t6
  have es : m__law_same 20 [.lst [rD (r.g P x), rD (r.M x / P)], .lst [rD (r.g P x), rD (r.M x / P)]] = some (.bl true) := same_refl 19 _ (by simp [pd, rD])
  obtain ⟨s, Q3, d3, is⟩ := small_ok Q2
  obtain ⟨dv, Q4, d4, hd⟩ := pick_ok Q3 [rD (r.g P x), rD s, rD (r.line x)] (by simp) (by simp)
  obtain ⟨v, rfl, iv⟩ : ∃ v, dv = rD v ∧ Bm.In (KM * W) 61 v := by
    simp only [List.mem_cons, List.not_mem_nil, or_false] at hd
    rcases hd with rfl | rfl | rfl
    · exact ⟨_, rfl, h.g2 p hW hm ix⟩
    · exact ⟨_, rfl, up_small p.w0 hW is⟩
    · exact ⟨_, rfl, h.l2 p.w0 hW ix⟩
  have kw : KM * W < 2 ^ 30 := by unfold KM; omega
  have sv : Sm 61 v := iv.sm (Nat.lt_of_lt_of_le kw (Nat.pow_le_pow_right (by decide) (by decide))) (by decide)
  have t8 := _law_sub_ok ((h.s_line ix).mono (by omega)) (sv.mono (by omega : 61 ≤ 4000))
  have sd := (h.s_line ix).sub sv
  have e9 := pull_ok h ix xa xb (sv.mono (by omega : 61 ≤ 400))
  have mm := rmul (r.M x).num (r.line x - v).num (Nat.lt_of_lt_of_le sM.1 (Nat.pow_le_pow_right (by decide) (by decide))) (Nat.lt_of_lt_of_le sd.1 (Nat.pow_le_pow_right (by decide) (by decide)))
  have k0 : l3_19_0 [.val (.scr ns), .pool, .val (rD P), .val (LO r.ls), x4, x5, x6, x7, x8, x9, x10, x11, .val (ed r.x0 r.y0), .val (ed r.x1 r.y1), .val (LO r.ls), x15, x16, x17, x18, x19, x20, x21, x22, x23, x24, x25, x26] (some Q) = some (.nx [.val (.scr ns), .pool, .val (rD P), .val (LO r.ls), x4, x5, x6, x7, x8, x9, x10, x11, .val (ed r.x0 r.y0), .val (ed r.x1 r.y1), .val (LO r.ls), x15, x16, x17, x18, x19, x20, x21, x22, x23, x24, x25, x26] (some Q1)) := by
    generalize r.g P x = g at *
    generalize r.M x / P = mp at *
    generalize ptR r x v = pp at *
    generalize r.line x = l at *
    generalize r.M x = M at *
    simp [l3_19_0, n1]
  have k1 : l3_19_1 [.val (.scr ns), .pool, .val (rD P), .val (LO r.ls), x4, x5, x6, x7, x8, x9, x10, x11, .val (ed r.x0 r.y0), .val (ed r.x1 r.y1), .val (LO r.ls), x15, x16, x17, x18, x19, x20, x21, x22, x23, x24, x25, x26] (some Q1) = some (.nx [.val (.scr ns), .pool, .val (rD P), .val (LO r.ls), x4, x5, x6, x7, x8, x9, x10, x11, .val (ed r.x0 r.y0), .val (ed r.x1 r.y1), .val (LO r.ls), x15, x16, x17, .val (rD r.w), x19, x20, x21, x22, x23, x24, x25, x26] (some Q1)) := by
    generalize r.g P x = g at *
    generalize r.M x / P = mp at *
    generalize ptR r x v = pp at *
    generalize r.line x = l at *
    generalize r.M x = M at *
    simp [l3_19_1, t1']
  have k2 : l3_19_2 [.val (.scr ns), .pool, .val (rD P), .val (LO r.ls), x4, x5, x6, x7, x8, x9, x10, x11, .val (ed r.x0 r.y0), .val (ed r.x1 r.y1), .val (LO r.ls), x15, x16, x17, .val (rD r.w), x19, x20, x21, x22, x23, x24, x25, x26] (some Q1) = some (.nx [.val (.scr ns), .pool, .val (rD P), .val (LO r.ls), x4, x5, x6, x7, x8, x9, x10, x11, .val (ed r.x0 r.y0), .val (ed r.x1 r.y1), .val (LO r.ls), x15, x16, x17, .val (rD r.w), .val (rD x), x20, x21, x22, x23, x24, x25, x26] (some Q2)) := by
    generalize r.g P x = g at *
    generalize r.M x / P = mp at *
    generalize ptR r x v = pp at *
    generalize r.line x = l at *
    generalize r.M x = M at *
    simp [l3_19_2, d2, t2, t3, hx, t4]
  have k3 : l3_19_3 [.val (.scr ns), .pool, .val (rD P), .val (LO r.ls), x4, x5, x6, x7, x8, x9, x10, x11, .val (ed r.x0 r.y0), .val (ed r.x1 r.y1), .val (LO r.ls), x15, x16, x17, .val (rD r.w), .val (rD x), x20, x21, x22, x23, x24, x25, x26] (some Q2) = some (.nx [.val (.scr ns), .pool, .val (rD P), .val (LO r.ls), x4, x5, x6, x7, x8, x9, x10, x11, .val (ed r.x0 r.y0), .val (ed r.x1 r.y1), .val (LO r.ls), x15, x16, x17, .val (rD r.w), .val (rD x), .val (rD (r.M x)), x21, x22, x23, x24, x25, x26] (some Q2)) := by
    generalize r.g P x = g at *
    generalize r.M x / P = mp at *
    generalize ptR r x v = pp at *
    generalize r.line x = l at *
    generalize r.M x = M at *
    simp [l3_19_3, e3]
  have k4 : l3_19_4 [.val (.scr ns), .pool, .val (rD P), .val (LO r.ls), x4, x5, x6, x7, x8, x9, x10, x11, .val (ed r.x0 r.y0), .val (ed r.x1 r.y1), .val (LO r.ls), x15, x16, x17, .val (rD r.w), .val (rD x), .val (rD (r.M x)), x21, x22, x23, x24, x25, x26] (some Q2) = some (.nx [.val (.scr ns), .pool, .val (rD P), .val (LO r.ls), x4, x5, x6, x7, x8, x9, x10, x11, .val (ed r.x0 r.y0), .val (ed r.x1 r.y1), .val (LO r.ls), x15, x16, x17, .val (rD r.w), .val (rD x), .val (rD (r.M x)), .val (rD (r.line x)), x22, x23, x24, x25, x26] (some Q2)) := by
    generalize r.g P x = g at *
    generalize r.M x / P = mp at *
    generalize ptR r x v = pp at *
    generalize r.line x = l at *
    generalize r.M x = M at *
    simp [l3_19_4, e4]
  have k5 : l3_19_5 [.val (.scr ns), .pool, .val (rD P), .val (LO r.ls), x4, x5, x6, x7, x8, x9, x10, x11, .val (ed r.x0 r.y0), .val (ed r.x1 r.y1), .val (LO r.ls), x15, x16, x17, .val (rD r.w), .val (rD x), .val (rD (r.M x)), .val (rD (r.line x)), x22, x23, x24, x25, x26] (some Q2) = some (.nx [.val (.scr ns), .pool, .val (rD P), .val (LO r.ls), x4, x5, x6, x7, x8, x9, x10, x11, .val (ed r.x0 r.y0), .val (ed r.x1 r.y1), .val (LO r.ls), x15, x16, x17, .val (rD r.w), .val (rD x), .val (rD (r.M x)), .val (rD (r.line x)), .val (rD (r.g P x)), x23, x24, x25, x26] (some Q2)) := by
    generalize r.g P x = g at *
    generalize r.M x / P = mp at *
    generalize ptR r x v = pp at *
    generalize r.line x = l at *
    generalize r.M x = M at *
    simp [l3_19_5, t5, t6']
  have k6 : l3_19_6 [.val (.scr ns), .pool, .val (rD P), .val (LO r.ls), x4, x5, x6, x7, x8, x9, x10, x11, .val (ed r.x0 r.y0), .val (ed r.x1 r.y1), .val (LO r.ls), x15, x16, x17, .val (rD r.w), .val (rD x), .val (rD (r.M x)), .val (rD (r.line x)), .val (rD (r.g P x)), x23, x24, x25, x26] (some Q2) = some (.nx [.val (.scr ns), .pool, .val (rD P), .val (LO r.ls), x4, x5, x6, x7, x8, x9, x10, x11, .val (ed r.x0 r.y0), .val (ed r.x1 r.y1), .val (LO r.ls), x15, x16, x17, .val (rD r.w), .val (rD x), .val (rD (r.M x)), .val (rD (r.line x)), .val (rD (r.g P x)), x23, x24, x25, x26] (some Q2)) := by
    generalize r.g P x = g at *
    generalize r.M x / P = mp at *
    generalize ptR r x v = pp at *
    generalize r.line x = l at *
    generalize r.M x = M at *
    simp [l3_19_6, e5, e6, t5, es]
  have k7 : l3_19_7 [.val (.scr ns), .pool, .val (rD P), .val (LO r.ls), x4, x5, x6, x7, x8, x9, x10, x11, .val (ed r.x0 r.y0), .val (ed r.x1 r.y1), .val (LO r.ls), x15, x16, x17, .val (rD r.w), .val (rD x), .val (rD (r.M x)), .val (rD (r.line x)), .val (rD (r.g P x)), x23, x24, x25, x26] (some Q2) = some (.nx [.val (.scr ns), .pool, .val (rD P), .val (LO r.ls), x4, x5, x6, x7, x8, x9, x10, x11, .val (ed r.x0 r.y0), .val (ed r.x1 r.y1), .val (LO r.ls), x15, x16, x17, .val (rD r.w), .val (rD x), .val (rD (r.M x)), .val (rD (r.line x)), .val (rD (r.g P x)), .val (rD v), x24, x25, x26] (some Q4)) := by
    generalize r.g P x = g at *
    generalize r.M x / P = mp at *
    generalize ptR r x v = pp at *
    generalize r.line x = l at *
    generalize r.M x = M at *
    simp [l3_19_7, d3, d4]
  have k8 : l3_19_8 [.val (.scr ns), .pool, .val (rD P), .val (LO r.ls), x4, x5, x6, x7, x8, x9, x10, x11, .val (ed r.x0 r.y0), .val (ed r.x1 r.y1), .val (LO r.ls), x15, x16, x17, .val (rD r.w), .val (rD x), .val (rD (r.M x)), .val (rD (r.line x)), .val (rD (r.g P x)), .val (rD v), x24, x25, x26] (some Q4) = some (.nx [.val (.scr ns), .pool, .val (rD P), .val (LO r.ls), x4, x5, x6, x7, x8, x9, x10, x11, .val (ed r.x0 r.y0), .val (ed r.x1 r.y1), .val (LO r.ls), x15, x16, x17, .val (rD r.w), .val (rD x), .val (rD (r.M x)), .val (rD (r.line x)), .val (rD (r.g P x)), .val (rD v), .val (rD (r.line x - v)), x25, x26] (some Q4)) := by
    generalize r.g P x = g at *
    generalize r.M x / P = mp at *
    generalize ptR r x v = pp at *
    generalize r.line x = l at *
    generalize r.M x = M at *
    simp [l3_19_8, t8]
  have k9 : l3_19_9 [.val (.scr ns), .pool, .val (rD P), .val (LO r.ls), x4, x5, x6, x7, x8, x9, x10, x11, .val (ed r.x0 r.y0), .val (ed r.x1 r.y1), .val (LO r.ls), x15, x16, x17, .val (rD r.w), .val (rD x), .val (rD (r.M x)), .val (rD (r.line x)), .val (rD (r.g P x)), .val (rD v), .val (rD (r.line x - v)), x25, x26] (some Q4) = some (.nx [.val (.scr ns), .pool, .val (rD P), .val (LO r.ls), x4, x5, x6, x7, x8, x9, x10, x11, .val (ed r.x0 r.y0), .val (ed r.x1 r.y1), .val (LO r.ls), x15, x16, x17, .val (rD r.w), .val (rD x), .val (rD (r.M x)), .val (rD (r.line x)), .val (rD (r.g P x)), .val (rD v), .val (rD (r.line x - v)), .val (ptR r x v), x26] (some Q4)) := by
    generalize r.g P x = g at *
    generalize r.M x / P = mp at *
    generalize ptR r x v = pp at *
    generalize r.line x = l at *
    generalize r.M x = M at *
    simp [l3_19_9, e9]
  have nz0 : (dNe (.int (r.line x - v).num) (.int 0)) = some (.bl (!decide (r.line x - v = 0))) := by
    have key : ∀ d : Rat, decide (d.num = 0) = decide (d = 0) := fun d => by
      rw [Bool.eq_iff_iff, decide_eq_true_eq, decide_eq_true_eq]
      exact ⟨fun q => by
        rcases (show d = 0 ∨ d ≠ 0 by grind) with g | g
        · exact g
        · exact absurd q (num_ne g), fun q => by rw [q]; rfl⟩
    rw [x_neI, key]
  have k10 : l3_19_10 [.val (.scr ns), .pool, .val (rD P), .val (LO r.ls), x4, x5, x6, x7, x8, x9, x10, x11, .val (ed r.x0 r.y0), .val (ed r.x1 r.y1), .val (LO r.ls), x15, x16, x17, .val (rD r.w), .val (rD x), .val (rD (r.M x)), .val (rD (r.line x)), .val (rD (r.g P x)), .val (rD v), .val (rD (r.line x - v)), .val (ptR r x v), x26] (some Q4) = some (.nx [.val (.scr ns), .pool, .val (rD P), .val (LO r.ls), x4, x5, x6, x7, x8, x9, x10, x11, .val (ed r.x0 r.y0), .val (ed r.x1 r.y1), .val (LO r.ls), x15, x16, x17, .val (rD r.w), .val (rD x), .val (rD (r.M x)), .val (rD (r.line x)), .val (rD (r.g P x)), .val (rD v), .val (rD (r.line x - v)), .val (ptR r x v), .val (.bl (decide (0 < r.M x / (r.line x - v)) && !decide (r.line x - v = 0)))] (some Q4)) := by
    have sg := fun hb : r.line x - v ≠ 0 => sign_div (a := r.M x) hb
    have e0 : dGt (.int ((r.M x).num * (r.line x - v).num)) (.int 0) = some (.bl (decide ((r.M x).num * (r.line x - v).num > 0))) := rfl
    generalize r.g P x = g at *
    generalize ptR r x v = pp at *
    generalize r.line x - v = d at *
    generalize r.line x = l at *
    generalize r.M x = M at *
    by_cases c : d = 0
    · rw [decide_eq_true c] at nz0 ⊢
      simp [l3_19_10, rat_num, nz0]
    · have s := sg c
      rw [decide_eq_false c] at nz0 ⊢
      have e1 : decide (0 < M / d) = decide (M.num * d.num > 0) := by
        rw [Bool.eq_iff_iff, decide_eq_true_eq, decide_eq_true_eq]; exact s
      rw [e1]
      simp [l3_19_10, rat_num, nz0, mm, e0]
  have k11 : l3_19_11 [.val (.scr ns), .pool, .val (rD P), .val (LO r.ls), x4, x5, x6, x7, x8, x9, x10, x11, .val (ed r.x0 r.y0), .val (ed r.x1 r.y1), .val (LO r.ls), x15, x16, x17, .val (rD r.w), .val (rD x), .val (rD (r.M x)), .val (rD (r.line x)), .val (rD (r.g P x)), .val (rD v), .val (rD (r.line x - v)), .val (ptR r x v), .val (.bl (decide (0 < r.M x / (r.line x - v)) && !decide (r.line x - v = 0)))] (some Q4) = some (.nx [.val (.scr ns), .pool, .val (rD P), .val (LO r.ls), x4, x5, x6, x7, x8, x9, x10, x11, .val (ed r.x0 r.y0), .val (ed r.x1 r.y1), .val (LO r.ls), x15, x16, x17, .val (rD r.w), .val (rD x), .val (rD (r.M x)), .val (rD (r.line x)), .val (rD (r.g P x)), .val (rD v), .val (rD (r.line x - v)), .val (ptR r x v), .val (.bl (decide (0 < r.M x / (r.line x - v)) && !decide (r.line x - v = 0)))] (some Q4)) := by
    unfold ptR
    have nn := non_same
    have rs := rat_same (r.M x / (r.line x - v))
    have td := fun hb : r.line x - v ≠ 0 => _law_div_ok (a := r.M x) (b := r.line x - v) (sM.mono (by omega)) (sd.mono (by omega)) hb
    generalize r.g P x = g at *
    generalize r.line x - v = d at *
    generalize r.line x = l at *
    generalize r.M x = M at *
    by_cases c : d = 0
    · rw [if_pos (.inl c), decide_eq_true c]
      simp [l3_19_11, nn]
    · rw [decide_eq_false c]
      have t := td c
      by_cases c2 : M = 0
      · rw [if_pos (.inr c2), decide_eq_false (show ¬ 0 < M / d by rw [c2, Rat.div_def, Rat.zero_mul]; grind)]
        simp [l3_19_11, nn]
      · rw [if_neg (fun q => by rcases q with q | q; exact c q; exact c2 q)]
        generalize M / d = q at *
        by_cases c3 : 0 < q
        · rw [if_pos c3, decide_eq_true c3]
          simp [l3_19_11, t, rs]
        · rw [if_neg c3, decide_eq_false c3]
          simp [l3_19_11, nn]
  have k12 : l3_19_12 [.val (.scr ns), .pool, .val (rD P), .val (LO r.ls), x4, x5, x6, x7, x8, x9, x10, x11, .val (ed r.x0 r.y0), .val (ed r.x1 r.y1), .val (LO r.ls), x15, x16, x17, .val (rD r.w), .val (rD x), .val (rD (r.M x)), .val (rD (r.line x)), .val (rD (r.g P x)), .val (rD v), .val (rD (r.line x - v)), .val (ptR r x v), .val (.bl (decide (0 < r.M x / (r.line x - v)) && !decide (r.line x - v = 0)))] (some Q4) = some (.nx [.val (.scr ns), .pool, .val (rD P), .val (LO r.ls), x4, x5, x6, x7, x8, x9, x10, x11, .val (ed r.x0 r.y0), .val (ed r.x1 r.y1), .val (LO r.ls), x15, x16, x17, .val (rD r.w), .val (rD x), .val (rD (r.M x)), .val (rD (r.line x)), .val (rD (r.g P x)), .val (rD v), .val (rD (r.line x - v)), .val (ptR r x v), .val (.bl (decide (0 < r.M x / (r.line x - v)) && !decide (r.line x - v = 0)))] (some Q4)) := by
    have isn : dIsNot .non .non = some (.bl false) := rfl
    have isr : ∀ q : Rat, isN (rD q) = false := fun _ => rfl
    by_cases c : r.line x - v = 0 ∨ r.M x = 0
    · have e : ptR r x v = .non := if_pos c
      rw [e]
      generalize r.g P x = g at *
      generalize r.M x = M at *
      generalize (decide (0 < M / (r.line x - v)) && !decide (r.line x - v = 0)) = B at *
      generalize r.line x - v = d at *
      generalize r.line x = l at *
      simp [l3_19_12, isn]
    · have c1 : r.line x - v ≠ 0 := fun q => c (.inl q)
      have c2 : r.M x ≠ 0 := fun q => c (.inr q)
      by_cases c3 : 0 < r.M x / (r.line x - v)
      · have e : ptR r x v = rD (r.M x / (r.line x - v)) := by unfold ptR; rw [if_neg c, if_pos c3]
        obtain ⟨W', m', p'⟩ := pu_new h p.w0 hW ix iv c2 c1
        have eh := height_ok h p' ix xa xb
        rw [gM_eq c2 c1] at eh
        have nv := ne_rat v v
        rw [decide_eq_true rfl] at nv
        rw [e]
        generalize r.g P x = g at *
        generalize (decide (0 < r.M x / (r.line x - v)) && !decide (r.line x - v = 0)) = B at *
        generalize r.M x / (r.line x - v) = q at *
        generalize r.line x - v = d at *
        generalize r.line x = l at *
        generalize r.M x = M at *
        simp [l3_19_12, isr, eh, nv]
      · have e : ptR r x v = .non := by unfold ptR; rw [if_neg c, if_neg c3]
        rw [e]
        generalize r.g P x = g at *
        generalize (decide (0 < r.M x / (r.line x - v)) && !decide (r.line x - v = 0)) = B at *
        generalize r.line x - v = d at *
        generalize r.line x = l at *
        generalize r.M x = M at *
        simp [l3_19_12, isn]
  refine ⟨.val (rD r.w), .val (rD x), .val (rD (r.M x)), .val (rD (r.line x)), .val (rD (r.g P x)), .val (rD v), .val (rD (r.line x - v)), .val (ptR r x v), .val (.bl (decide (0 < r.M x / (r.line x - v)) && !decide (r.line x - v = 0))), Q4, ?_⟩
  rw [l3_19_b, x_sSeq, k0, x_nxN, x_sSeq, k1, x_nxN, x_sSeq, k2, x_nxN, x_sSeq, k3, x_nxN, x_sSeq, k4, x_nxN, x_sSeq, k5, x_nxN, x_sSeq, k6, x_nxN, x_sSeq, k7, x_nxN, x_sSeq, k8, x_nxN, x_sSeq, k9, x_nxN, x_sSeq, k10, x_nxN, x_sSeq, k11, x_nxN, k12]
theorem place_loop (h : Bd r) (p : Pu P W m) (hW : W ≤ 64) (hm : m ≤ 10) (ns : List Int) (x4 x5 x6 x7 x8 x9 x10 x15 x16 x17 : Sl) : ∀ (ks : List Int) (x11 x18 x19 x20 x21 x22 x23 x24 x25 x26 : Sl) (Q : Pl), ∃ y11 y18 y19 y20 y21 y22 y23 y24 y25 y26 Q', forL (gN 11) l3_19_b (ks.map D.int) [.val (.scr ns), .pool, .val (rD P), .val (LO r.ls), x4, x5, x6, x7, x8, x9, x10, x11, .val (ed r.x0 r.y0), .val (ed r.x1 r.y1), .val (LO r.ls), x15, x16, x17, x18, x19, x20, x21, x22, x23, x24, x25, x26] (some Q) = some (.nx [.val (.scr ns), .pool, .val (rD P), .val (LO r.ls), x4, x5, x6, x7, x8, x9, x10, y11, .val (ed r.x0 r.y0), .val (ed r.x1 r.y1), .val (LO r.ls), x15, x16, x17, y18, y19, y20, y21, y22, y23, y24, y25, y26] (some Q'))
  | [], x11, x18, x19, x20, x21, x22, x23, x24, x25, x26, Q => ⟨x11, x18, x19, x20, x21, x22, x23, x24, x25, x26, Q, rfl⟩
  | k :: ks, x11, x18, x19, x20, x21, x22, x23, x24, x25, x26, Q => by
    obtain ⟨z18, z19, z20, z21, z22, z23, z24, z25, z26, Q1, e1⟩ := place_turn h p hW hm ns (.val (.int k)) x4 x5 x6 x7 x8 x9 x10 x15 x16 x17 x18 x19 x20 x21 x22 x23 x24 x25 x26 Q
    obtain ⟨y11, y18, y19, y20, y21, y22, y23, y24, y25, y26, Q2, e2⟩ := place_loop h p hW hm ns x4 x5 x6 x7 x8 x9 x10 x15 x16 x17 ks (.val (.int k)) z18 z19 z20 z21 z22 z23 z24 z25 z26 Q1
    refine ⟨y11, y18, y19, y20, y21, y22, y23, y24, y25, y26, Q2, ?_⟩
    rw [List.map_cons, x_forC, x_gN]
    simp only [Option.bind_some, List.set_cons_succ, List.set_cons_zero]
    rw [e1, x_afN, e2]
end N12
open N12
set_option maxHeartbeats 40000000 in
theorem law_true (ns : List Int) (hl : ns.length ≤ 63) : m_law [.scr ns] = some (.bl true) := by
  obtain ⟨z, hp⟩ := pool_ok ns
  obtain ⟨r, Q1, e1, h⟩ := hung_ok ⟨ns, 0, z, 0⟩
  obtain ⟨v, Q2, d2, l2, u2⟩ := draw_ok Q1 9 (by decide) (by decide)
  obtain ⟨q, Q3, d3, l3, u3⟩ := draw_ok Q2 3 (by decide) (by decide)
  have t2 := third_ok (a := 1 + v) (q := 1 + q) (by omega)
  have iP : Bm.In 6 6 (((1 + v : Int) : Rat) / ((1 + q : Int) : Rat)) := in6 (by omega) (by omega)
  have pP : 0 < ((1 + v : Int) : Rat) / ((1 + q : Int) : Rat) := by
    have a : (0 : Rat) < ((1 + v : Int) : Rat) := by exact_mod_cast (show (0 : Int) < 1 + v by omega)
    have b : (0 : Rat) < ((1 + q : Int) : Rat) := by exact_mod_cast (show (0 : Int) < 1 + q by omega)
    rw [Rat.div_def]; exact Rat.mul_pos a (Rat.inv_pos.mpr b)
  generalize ((1 + v : Int) : Rat) / ((1 + q : Int) : Rat) = P at *
  have nP : P ≠ 0 := by grind
  obtain ⟨W, w0, w1, dv⟩ := Bm.In.div iP nP (m := 3) (by decide)
  have hW : W ≤ 64 := Nat.le_of_lt w1
  have p : Pu P W 3 := ⟨nP, w0, Nat.lt_of_lt_of_le w1 (Nat.pow_le_pow_right (by decide) (by decide)), by decide, iP.sm (by decide) (by decide), dv⟩
  have hlen := h.len
  have zl : sized r.ls.length = true := x_sized (by omega)
  have e4 := points_ok h p
  have zxs : sized (r.xs.map (pD r P)).length = true := by rw [List.length_map, xs_len]; exact x_sized (by omega)
  have zx : (r.xs.map (pD r P)).length = r.ls.length + 2 := by rw [List.length_map, xs_len]
  obtain ⟨y15, y16, e6⟩ := due_loop h p ns (.val (.lst (r.xs.map (pD r P)))) .un .un .un .un .un .un .un .un .un .un .un .un .un .un .un .un (some Q3) ((r.x0, .non) :: (r.ls.map (fun l => (l.1, rD l.2)) ++ [(r.x1, .non)])) [] .un .un (fun q hq => by
    rcases List.mem_cons.mp hq with rfl | hq
    · exact h.x0
    · rcases List.mem_append.mp hq with hq | hq
      · obtain ⟨l, hl, rfl⟩ := List.mem_map.mp hq; exact h.a hl
      · rw [List.mem_singleton.mp hq]; exact h.x1) (by simp; omega)
  have hxs : ((r.x0, D.non) :: (r.ls.map (fun l => (l.1, rD l.2)) ++ [(r.x1, D.non)])).map (·.1) = r.xs := by
    unfold Rp.xs; simp [Function.comp_def]
  rw [hxs, List.nil_append] at e6
  have hit : ((r.x0, D.non) :: (r.ls.map (fun l => (l.1, rD l.2)) ++ [(r.x1, D.non)])).map (fun q => D.tup [rD q.1, q.2]) = D.tup [rD r.x0, .non] :: (r.ls.map lD ++ [D.tup [rD r.x1, .non]]) := by
    simp [Function.comp_def]
  rw [hit] at e6
  have es7 : m__law_same 20 [.lst (r.xs.map (pD r P)), .lst (r.xs.map (pD r P))] = some (.bl true) := same_refl 19 _ (by simp [pd, rD, xs_len]; omega)
  have nn7 := ne_self (d := LO r.ls) (by simp [fl_lst, fl_tup])
  have es9 : m__law_same 20 [.lst ((sls P (r.s0 P) r.ls).map rD), .lst ((sls P (r.s0 P) r.ls).map rD)] = some (.bl true) := same_refl 19 _ (by
    have hc2 : (sls P (r.s0 P) r.ls).length = r.ls.length + 1 := by
      have key : ∀ (ls : List Lo) (s : Rat), (sls P s ls).length = ls.length + 1 := by
        intro ls
        induction ls with
        | nil => intro s; rfl
        | cons l ls ih => intro s; rw [sls_cons, List.length_cons, ih, List.length_cons]
      exact key _ _
    simp [pd, rD, hc2]; omega)
  have hsl : (sls P (r.s0 P) r.ls).length = r.ls.length + 1 := by
    have key : ∀ (ls : List Lo) (s : Rat), (sls P s ls).length = ls.length + 1 := by
      intro ls
      induction ls with
      | nil => intro s; rfl
      | cons l ls ih => intro s; rw [sls_cons, List.length_cons, ih, List.length_cons]
    exact key _ _
  have ed8 := dif_all (P := P) h.ok
  rw [dif_range, xs_len, show r.ls.length + 2 - 1 = r.ls.length + 1 by omega] at ed8
  have rg8 := x_rng1 ((r.ls.length : Int) + 2 - 1) (by omega) (by omega)
  have hr8 : rangeD 0 ((r.ls.length : Int) + 2 - 1).toNat = (List.range (r.ls.length + 1)).map fun i : Nat => D.int (i : Nat) := by
    rw [rangeD_map, show ((r.ls.length : Int) + 2 - 1).toNat = r.ls.length + 1 by omega]; simp
  rw [hr8] at rg8
  have c8 : lcL (gN 7) tYesM (mCall m__law_div (aCons (mCall m__law_sub (aCons (mOp dIx (mOp dIx (mV 5) (mOp dAdd (mV 7) (mC (.int 1)))) (mC (.int 1))) (aCons (mOp dIx (mOp dIx (mV 5) (mV 7)) (mC (.int 1))) (aNil)))) (aCons (mCall m__law_sub (aCons (mOp dIx (mOp dIx (mV 5) (mOp dAdd (mV 7) (mC (.int 1)))) (mC (.int 0))) (aCons (mOp dIx (mOp dIx (mV 5) (mV 7)) (mC (.int 0))) (aNil)))) (aNil)))) [.val (.scr ns), .pool, .val (rD P), .val (LO r.ls), .val (.lst (r.xs.map (pD r P))), .own (r.xs.map (pD r P)), .un, .un, .un, .un, .un, .un, .val (ed r.x0 r.y0), .val (ed r.x1 r.y1), .val (LO r.ls), y15, y16, .un, .un, .un, .un, .un, .un, .un, .un, .un, .un] ((List.range (r.ls.length + 1)).map fun i : Nat => D.int (i : Nat)) (some Q3) = some ((sls P (r.s0 P) r.ls).map rD, some Q3) := by
    rw [← ed8, List.map_map]
    exact lc_map _ _ (fun i : Nat => D.int (i : Nat)) _ _ fun i hi => ⟨_, rfl, by
      have hi' : i < r.ls.length + 1 := List.mem_range.mp hi
      have l1 : i < r.xs.length := by rw [xs_len]; omega
      have l2 : i + 1 < r.xs.length := by rw [xs_len]; omega
      have p0 : r.xs.getD i 0 = r.xs[i] := by simp [List.getD, List.getElem?_eq_getElem l1]
      have p1 : r.xs.getD (i + 1) 0 = r.xs[i + 1] := by simp [List.getD, List.getElem?_eq_getElem l2]
      have lt : r.xs[i] < r.xs[i + 1] := List.pairwise_iff_getElem.mp (xs_asc h.ok) i (i + 1) l1 l2 (by omega)
      have i1 := h.xs192 (List.getElem_mem l1)
      have i2 := h.xs192 (List.getElem_mem l2)
      have a0 : atI (r.xs.map (pD r P)) (i : Int) = some (pD r P r.xs[i]) := atI_nat (by rw [List.getElem?_map, List.getElem?_eq_getElem l1]; rfl)
      have a1 : atI (r.xs.map (pD r P)) ((i : Int) + 1) = some (pD r P r.xs[i + 1]) := by
        rw [show ((i : Int) + 1) = ((i + 1 : Nat) : Int) from rfl]
        exact atI_nat (by rw [List.getElem?_map, List.getElem?_eq_getElem l2]; rfl)
      show _ = some (rD ((r.g P (r.xs.getD (i + 1) 0) - r.g P (r.xs.getD i 0)) / (r.xs.getD (i + 1) 0 - r.xs.getD i 0)), some Q3)
      rw [p0, p1]
      generalize r.xs[i] = u at *
      generalize r.xs[i + 1] = w at *
      have g1 := h.s_g p i1
      have g2 := h.s_g p i2
      have s1 := s192 i1
      have s2 := s192 i2
      have t1 := _law_sub_ok (g2.mono (by omega)) (g1.mono (by omega : 300 ≤ 4000))
      have t2 := _law_sub_ok (s2.mono (by omega)) (s1.mono (by omega : 15 ≤ 4000))
      have t3 := _law_div_ok ((g2.sub g1).mono (by omega)) ((s2.sub s1).mono (by omega : _ ≤ 4000)) (show w - u ≠ 0 by grind)
      unfold pD at *
      generalize r.g P u = G1 at *
      generalize r.g P w = G2 at *
      generalize r.xs.map (fun x => D.tup [rD x, rD (r.g P x)]) = XS at *
      simp [a0, a1, t1, t2, t3]⟩
  have nl8 := noLL_rD (sls P (r.s0 P) r.ls)
  have e9 := slopes_ok h p
  obtain ⟨y7, e10⟩ := steps_loop h p ns (.val (.lst (r.xs.map (pD r P)))) (.own (r.xs.map (pD r P))) .un .un .un .un y15 y16 .un .un .un .un .un .un .un .un .un .un (some Q3) r.ls [] .un rfl
  have e11 := loadsof_ok h p
  have es11 : m__law_same 20 [LO r.ls, LO r.ls] = some (.bl true) := same_refl 19 _ (by simp [pd, rD]; omega)
  obtain ⟨a15, a16, e13⟩ := total_loop (P := P) h ns (.val (.lst (r.xs.map (pD r P)))) (.own (r.xs.map (pD r P))) (.val (.lst ((sls P (r.s0 P) r.ls).map rD))) y7 .un .un .un .un .un .un .un .un .un .un .un .un .un (some Q3) r.ls [] y15 y16 rfl
  have i0 := sls_first r P
  have iL := sls_lastD r P
  have s0 := h.s_sl p (pre := []) (rest := r.ls) rfl
  rw [sl_nil] at s0
  have s1 := h.s_sl p (pre := r.ls) (rest := []) (by rw [List.append_nil])
  have t14 := _law_mul_ok (p.sm.mono (by omega)) (s0.mono (by omega : 300 ≤ 4000))
  have t14b := _law_mul_ok (p.sm.mono (by omega)) (s1.mono (by omega : 300 ≤ 4000))
  have t14c := _law_sub_ok (Sm.zero (by decide) : Ok 0) ((p.sm.mul s0).mono (by omega))
  have e15 := ends_ok h p
  have e15b := whole_ok h
  have t15 := _law_add_ok ((((Sm.zero (n := 1) (by decide)).sub (p.sm.mul s0)) : Sm _ (0 - P * r.s0 P)).mono (by omega)) ((p.sm.mul s1).mono (by omega : _ ≤ 4000))
  rw [pull_all h p] at t15
  have es15 : m__law_same 20 [.lst [.tup [rD (0 - P * r.s0 P), rD (P * r.sl P r.ls)], rD (sf (·.2) r.ls)], .lst [.tup [rD (0 - P * r.s0 P), rD (P * r.sl P r.ls)], rD (sf (·.2) r.ls)]] = some (.bl true) := same_refl 19 _ (by simp [pd, rD])
  obtain ⟨b15, b16, b17, e17⟩ := lowest_loop h p ns (.val (.lst (r.xs.map (pD r P)))) (.own (r.xs.map (pD r P))) (.val (.lst ((sls P (r.s0 P) r.ls).map rD))) y7 (.val (rD (sf (·.2) r.ls))) (.val (.tup [rD (0 - P * r.s0 P), rD (P * r.sl P r.ls)])) .un .un .un .un .un .un .un .un .un .un (some Q3) r.ls none a15 a16 .un (fun l hl => hl) (fun c e => by cases e)
  have e18 := greatest_ok h p
  have es18 : m__law_same 20 [bd (r.ls.foldl (stepG r P) none), bd (r.ls.foldl (stepG r P) none)] = some (.bl true) := by
    generalize r.ls.foldl (stepG r P) none = b
    cases b with
    | none => exact non_same
    | some b => exact same_refl 19 _ (by simp [pd, bd, rD])
  have rg19 := x_rng1 4 (by decide) (by decide)
  have hr19 : rangeD 0 (4 : Int).toNat = [0, 1, 2, 3].map D.int := by rfl
  rw [hr19] at rg19
  obtain ⟨c11, c18, c19, c20, c21, c22, c23, c24, c25, c26, Q4, e19⟩ := place_loop h p hW (by decide) ns (.val (.lst (r.xs.map (pD r P)))) (.own (r.xs.map (pD r P))) (.val (.lst ((sls P (r.s0 P) r.ls).map rD))) y7 (.val (rD (sf (·.2) r.ls))) (.val (.tup [rD (0 - P * r.s0 P), rD (P * r.sl P r.ls)])) (.val (bd (r.ls.foldl (stepG r P) none))) b15 b16 b17 [0, 1, 2, 3] .un .un .un .un .un .un .un .un .un .un Q3
  have t20 := _law_sub_ok (h.s_x0.mono (by omega)) (sm1.mono (by omega : 1 ≤ 4000))
  have e20 := height_none h p (x := r.x0 - 1) ((h.s_x0.sub sm1).mono (by omega)) (by grind)
  unfold m_law
  rw [l3_eq]
  simp only [x_runF, e0c, e0n, e00]
  have k0 : l3_0 [.val (.scr ns), .un, .un, .un, .un, .un, .un, .un, .un, .un, .un, .un, .un, .un, .un, .un, .un, .un, .un, .un, .un, .un, .un, .un, .un, .un, .un] none = some (.nx [.val (.scr ns), .pool, .un, .un, .un, .un, .un, .un, .un, .un, .un, .un, .un, .un, .un, .un, .un, .un, .un, .un, .un, .un, .un, .un, .un, .un, .un] (some ⟨ns, 0, z, 0⟩)) := by
    simp [l3_0, hp]
  have k1 : l3_1 [.val (.scr ns), .pool, .un, .un, .un, .un, .un, .un, .un, .un, .un, .un, .un, .un, .un, .un, .un, .un, .un, .un, .un, .un, .un, .un, .un, .un, .un] (some ⟨ns, 0, z, 0⟩) = some (.nx [.val (.scr ns), .pool, .un, .un, .un, .un, .un, .un, .un, .un, .un, .un, .val (ed r.x0 r.y0), .val (ed r.x1 r.y1), .val (LO r.ls), .un, .un, .un, .un, .un, .un, .un, .un, .un, .un, .un, .un] (some Q1)) := by
    simp [l3_1, e1]
  have k2 : l3_2 [.val (.scr ns), .pool, .un, .un, .un, .un, .un, .un, .un, .un, .un, .un, .val (ed r.x0 r.y0), .val (ed r.x1 r.y1), .val (LO r.ls), .un, .un, .un, .un, .un, .un, .un, .un, .un, .un, .un, .un] (some Q1) = some (.nx [.val (.scr ns), .pool, .val (rD P), .un, .un, .un, .un, .un, .un, .un, .un, .un, .val (ed r.x0 r.y0), .val (ed r.x1 r.y1), .val (LO r.ls), .un, .un, .un, .un, .un, .un, .un, .un, .un, .un, .un, .un] (some Q3)) := by
    simp [l3_2, d2, d3, t2]
  have k3 : l3_3 [.val (.scr ns), .pool, .val (rD P), .un, .un, .un, .un, .un, .un, .un, .un, .un, .val (ed r.x0 r.y0), .val (ed r.x1 r.y1), .val (LO r.ls), .un, .un, .un, .un, .un, .un, .un, .un, .un, .un, .un, .un] (some Q3) = some (.nx [.val (.scr ns), .pool, .val (rD P), .val (LO r.ls), .un, .un, .un, .un, .un, .un, .un, .un, .val (ed r.x0 r.y0), .val (ed r.x1 r.y1), .val (LO r.ls), .un, .un, .un, .un, .un, .un, .un, .un, .un, .un, .un, .un] (some Q3)) := by
    simp [l3_3, zl]
  have k4 : l3_4 [.val (.scr ns), .pool, .val (rD P), .val (LO r.ls), .un, .un, .un, .un, .un, .un, .un, .un, .val (ed r.x0 r.y0), .val (ed r.x1 r.y1), .val (LO r.ls), .un, .un, .un, .un, .un, .un, .un, .un, .un, .un, .un, .un] (some Q3) = some (.nx [.val (.scr ns), .pool, .val (rD P), .val (LO r.ls), .val (.lst (r.xs.map (pD r P))), .un, .un, .un, .un, .un, .un, .un, .val (ed r.x0 r.y0), .val (ed r.x1 r.y1), .val (LO r.ls), .un, .un, .un, .un, .un, .un, .un, .un, .un, .un, .un, .un] (some Q3)) := by
    generalize r.xs.map (pD r P) = XS at e4 zxs ⊢
    simp [l3_4, e4, zxs]
  have k5 : l3_5 [.val (.scr ns), .pool, .val (rD P), .val (LO r.ls), .val (.lst (r.xs.map (pD r P))), .un, .un, .un, .un, .un, .un, .un, .val (ed r.x0 r.y0), .val (ed r.x1 r.y1), .val (LO r.ls), .un, .un, .un, .un, .un, .un, .un, .un, .un, .un, .un, .un] (some Q3) = some (.nx [.val (.scr ns), .pool, .val (rD P), .val (LO r.ls), .val (.lst (r.xs.map (pD r P))), .own ([].map (pD r P)), .un, .un, .un, .un, .un, .un, .val (ed r.x0 r.y0), .val (ed r.x1 r.y1), .val (LO r.ls), .un, .un, .un, .un, .un, .un, .un, .un, .un, .un, .un, .un] (some Q3)) := by
    generalize r.xs.map (pD r P) = XS
    simp [l3_5]
  have k6 : l3_6 [.val (.scr ns), .pool, .val (rD P), .val (LO r.ls), .val (.lst (r.xs.map (pD r P))), .own ([].map (pD r P)), .un, .un, .un, .un, .un, .un, .val (ed r.x0 r.y0), .val (ed r.x1 r.y1), .val (LO r.ls), .un, .un, .un, .un, .un, .un, .un, .un, .un, .un, .un, .un] (some Q3) = some (.nx [.val (.scr ns), .pool, .val (rD P), .val (LO r.ls), .val (.lst (r.xs.map (pD r P))), .own (r.xs.map (pD r P)), .un, .un, .un, .un, .un, .un, .val (ed r.x0 r.y0), .val (ed r.x1 r.y1), .val (LO r.ls), y15, y16, .un, .un, .un, .un, .un, .un, .un, .un, .un, .un] (some Q3)) := by
    unfold l3_6
    rw [x_sFor]
    have z1 : sized (1 + r.ls.length) = true := x_sized (by omega)
    have z2 : sized (1 + r.ls.length + 1) = true := x_sized (by omega)
    have z3 : sized (r.ls.length + 1) = true := x_sized (by omega)
    have z4 : sized (r.ls.length + 1 + 1) = true := x_sized (by omega)
    have z5 : sized (r.ls.length + 2) = true := x_sized (by omega)
    have ki : mIt itD (mOp dAdd (mOp dAdd (mFrz (mLstL (aCons (mTup (aCons (mOp dIx (mV 12) (mC (.int 0))) (aCons (mC .non) (aNil)))) (aNil)))) (mV 14)) (mFrz (mLstL (aCons (mTup (aCons (mOp dIx (mV 13) (mC (.int 0))) (aCons (mC .non) (aNil)))) (aNil))))) (vw [] [.val (.scr ns), .pool, .val (rD P), .val (LO r.ls), .val (.lst (r.xs.map (pD r P))), .own ([].map (pD r P)), .un, .un, .un, .un, .un, .un, .val (ed r.x0 r.y0), .val (ed r.x1 r.y1), .val (LO r.ls), .un, .un, .un, .un, .un, .un, .un, .un, .un, .un, .un, .un]) (some Q3) = some (D.tup [rD r.x0, .non] :: (r.ls.map lD ++ [D.tup [rD r.x1, .non]]), some Q3) := by
      generalize r.xs.map (pD r P) = XS
      simp [z1, z2, z3, z4, z5]
    rw [ki]; exact e6
  have k7 : l3_7 [.val (.scr ns), .pool, .val (rD P), .val (LO r.ls), .val (.lst (r.xs.map (pD r P))), .own (r.xs.map (pD r P)), .un, .un, .un, .un, .un, .un, .val (ed r.x0 r.y0), .val (ed r.x1 r.y1), .val (LO r.ls), y15, y16, .un, .un, .un, .un, .un, .un, .un, .un, .un, .un] (some Q3) = some (.nx [.val (.scr ns), .pool, .val (rD P), .val (LO r.ls), .val (.lst (r.xs.map (pD r P))), .own (r.xs.map (pD r P)), .un, .un, .un, .un, .un, .un, .val (ed r.x0 r.y0), .val (ed r.x1 r.y1), .val (LO r.ls), y15, y16, .un, .un, .un, .un, .un, .un, .un, .un, .un, .un] (some Q3)) := by
    generalize r.xs.map (pD r P) = XS at es7 ⊢
    simp [l3_7, es7, nn7]
  have k8 : l3_8 [.val (.scr ns), .pool, .val (rD P), .val (LO r.ls), .val (.lst (r.xs.map (pD r P))), .own (r.xs.map (pD r P)), .un, .un, .un, .un, .un, .un, .val (ed r.x0 r.y0), .val (ed r.x1 r.y1), .val (LO r.ls), y15, y16, .un, .un, .un, .un, .un, .un, .un, .un, .un, .un] (some Q3) = some (.nx [.val (.scr ns), .pool, .val (rD P), .val (LO r.ls), .val (.lst (r.xs.map (pD r P))), .own (r.xs.map (pD r P)), .val (.lst ((sls P (r.s0 P) r.ls).map rD)), .un, .un, .un, .un, .un, .val (ed r.x0 r.y0), .val (ed r.x1 r.y1), .val (LO r.ls), y15, y16, .un, .un, .un, .un, .un, .un, .un, .un, .un, .un] (some Q3)) := by
    have zr : sized (r.ls.length + 2 - 1) = true := x_sized (by omega)
    have zr2 : sized (r.ls.length + 1) = true := x_sized (by omega)
    have zs : sized ((sls P (r.s0 P) r.ls).map rD).length = true := by rw [List.length_map, hsl]; exact x_sized (by omega)
    generalize r.xs.map (pD r P) = XS at zx c8 ⊢
    generalize (sls P (r.s0 P) r.ls).map rD = SS at c8 nl8 zs ⊢
    simp [l3_8, zx, rg8, c8, nl8, zr, zr2, zs]
  have k9 : l3_9 [.val (.scr ns), .pool, .val (rD P), .val (LO r.ls), .val (.lst (r.xs.map (pD r P))), .own (r.xs.map (pD r P)), .val (.lst ((sls P (r.s0 P) r.ls).map rD)), .un, .un, .un, .un, .un, .val (ed r.x0 r.y0), .val (ed r.x1 r.y1), .val (LO r.ls), y15, y16, .un, .un, .un, .un, .un, .un, .un, .un, .un, .un] (some Q3) = some (.nx [.val (.scr ns), .pool, .val (rD P), .val (LO r.ls), .val (.lst (r.xs.map (pD r P))), .own (r.xs.map (pD r P)), .val (.lst ((sls P (r.s0 P) r.ls).map rD)), .un, .un, .un, .un, .un, .val (ed r.x0 r.y0), .val (ed r.x1 r.y1), .val (LO r.ls), y15, y16, .un, .un, .un, .un, .un, .un, .un, .un, .un, .un] (some Q3)) := by
    have zs : sized ((sls P (r.s0 P) r.ls).map rD).length = true := by rw [List.length_map, hsl]; exact x_sized (by omega)
    generalize r.xs.map (pD r P) = XS
    generalize (sls P (r.s0 P) r.ls).map rD = SS at e9 es9 zs ⊢
    simp [l3_9, e9, es9, zs]
  have k10 : l3_10 [.val (.scr ns), .pool, .val (rD P), .val (LO r.ls), .val (.lst (r.xs.map (pD r P))), .own (r.xs.map (pD r P)), .val (.lst ((sls P (r.s0 P) r.ls).map rD)), .un, .un, .un, .un, .un, .val (ed r.x0 r.y0), .val (ed r.x1 r.y1), .val (LO r.ls), y15, y16, .un, .un, .un, .un, .un, .un, .un, .un, .un, .un] (some Q3) = some (.nx [.val (.scr ns), .pool, .val (rD P), .val (LO r.ls), .val (.lst (r.xs.map (pD r P))), .own (r.xs.map (pD r P)), .val (.lst ((sls P (r.s0 P) r.ls).map rD)), y7, .un, .un, .un, .un, .val (ed r.x0 r.y0), .val (ed r.x1 r.y1), .val (LO r.ls), y15, y16, .un, .un, .un, .un, .un, .un, .un, .un, .un, .un] (some Q3)) := by
    unfold l3_10
    rw [x_sFor]
    have rg := x_rng1 (r.ls.length : Int) (by omega) (by omega)
    rw [show (r.ls.length : Int).toNat = r.ls.length by omega] at rg
    have ki : mRng rng1 (aCons (mCall gLen (aCons (mV 14) (aNil))) (aNil)) (vw [] [.val (.scr ns), .pool, .val (rD P), .val (LO r.ls), .val (.lst (r.xs.map (pD r P))), .own (r.xs.map (pD r P)), .val (.lst ((sls P (r.s0 P) r.ls).map rD)), .un, .un, .un, .un, .un, .val (ed r.x0 r.y0), .val (ed r.x1 r.y1), .val (LO r.ls), y15, y16, .un, .un, .un, .un, .un, .un, .un, .un, .un, .un]) (some Q3) = some (rangeD (([] : List Lo).length : Nat) r.ls.length, some Q3) := by
      clear e10
      generalize hR : rangeD 0 r.ls.length = R at rg ⊢
      generalize r.xs.map (pD r P) = XS
      generalize (sls P (r.s0 P) r.ls).map rD = SS
      simp [rg]
    rw [ki]; exact e10
  have k11 : l3_11 [.val (.scr ns), .pool, .val (rD P), .val (LO r.ls), .val (.lst (r.xs.map (pD r P))), .own (r.xs.map (pD r P)), .val (.lst ((sls P (r.s0 P) r.ls).map rD)), y7, .un, .un, .un, .un, .val (ed r.x0 r.y0), .val (ed r.x1 r.y1), .val (LO r.ls), y15, y16, .un, .un, .un, .un, .un, .un, .un, .un, .un, .un] (some Q3) = some (.nx [.val (.scr ns), .pool, .val (rD P), .val (LO r.ls), .val (.lst (r.xs.map (pD r P))), .own (r.xs.map (pD r P)), .val (.lst ((sls P (r.s0 P) r.ls).map rD)), y7, .un, .un, .un, .un, .val (ed r.x0 r.y0), .val (ed r.x1 r.y1), .val (LO r.ls), y15, y16, .un, .un, .un, .un, .un, .un, .un, .un, .un, .un] (some Q3)) := by
    generalize r.xs.map (pD r P) = XS at e11 zx zxs ⊢
    generalize (sls P (r.s0 P) r.ls).map rD = SS
    simp [l3_11, e11, es11, zx, zl, zxs]
  have k12 : l3_12 [.val (.scr ns), .pool, .val (rD P), .val (LO r.ls), .val (.lst (r.xs.map (pD r P))), .own (r.xs.map (pD r P)), .val (.lst ((sls P (r.s0 P) r.ls).map rD)), y7, .un, .un, .un, .un, .val (ed r.x0 r.y0), .val (ed r.x1 r.y1), .val (LO r.ls), y15, y16, .un, .un, .un, .un, .un, .un, .un, .un, .un, .un] (some Q3) = some (.nx [.val (.scr ns), .pool, .val (rD P), .val (LO r.ls), .val (.lst (r.xs.map (pD r P))), .own (r.xs.map (pD r P)), .val (.lst ((sls P (r.s0 P) r.ls).map rD)), y7, .val (rD 0), .un, .un, .un, .val (ed r.x0 r.y0), .val (ed r.x1 r.y1), .val (LO r.ls), y15, y16, .un, .un, .un, .un, .un, .un, .un, .un, .un, .un] (some Q3)) := by
    generalize r.xs.map (pD r P) = XS
    generalize (sls P (r.s0 P) r.ls).map rD = SS
    simp [l3_12, tup01]
  have k13 : l3_13 [.val (.scr ns), .pool, .val (rD P), .val (LO r.ls), .val (.lst (r.xs.map (pD r P))), .own (r.xs.map (pD r P)), .val (.lst ((sls P (r.s0 P) r.ls).map rD)), y7, .val (rD 0), .un, .un, .un, .val (ed r.x0 r.y0), .val (ed r.x1 r.y1), .val (LO r.ls), y15, y16, .un, .un, .un, .un, .un, .un, .un, .un, .un, .un] (some Q3) = some (.nx [.val (.scr ns), .pool, .val (rD P), .val (LO r.ls), .val (.lst (r.xs.map (pD r P))), .own (r.xs.map (pD r P)), .val (.lst ((sls P (r.s0 P) r.ls).map rD)), y7, .val (rD (sf (·.2) r.ls)), .un, .un, .un, .val (ed r.x0 r.y0), .val (ed r.x1 r.y1), .val (LO r.ls), a15, a16, .un, .un, .un, .un, .un, .un, .un, .un, .un, .un] (some Q3)) := by
    unfold l3_13
    rw [x_sFor]
    have ki : mIt itD (mV 14) (vw [] [.val (.scr ns), .pool, .val (rD P), .val (LO r.ls), .val (.lst (r.xs.map (pD r P))), .own (r.xs.map (pD r P)), .val (.lst ((sls P (r.s0 P) r.ls).map rD)), y7, .val (rD 0), .un, .un, .un, .val (ed r.x0 r.y0), .val (ed r.x1 r.y1), .val (LO r.ls), y15, y16, .un, .un, .un, .un, .un, .un, .un, .un, .un, .un]) (some Q3) = some (r.ls.map lD, some Q3) := by
      generalize r.xs.map (pD r P) = XS
      generalize (sls P (r.s0 P) r.ls).map rD = SS
      simp
    rw [ki]; exact e13
  have k14 : l3_14 [.val (.scr ns), .pool, .val (rD P), .val (LO r.ls), .val (.lst (r.xs.map (pD r P))), .own (r.xs.map (pD r P)), .val (.lst ((sls P (r.s0 P) r.ls).map rD)), y7, .val (rD (sf (·.2) r.ls)), .un, .un, .un, .val (ed r.x0 r.y0), .val (ed r.x1 r.y1), .val (LO r.ls), a15, a16, .un, .un, .un, .un, .un, .un, .un, .un, .un, .un] (some Q3) = some (.nx [.val (.scr ns), .pool, .val (rD P), .val (LO r.ls), .val (.lst (r.xs.map (pD r P))), .own (r.xs.map (pD r P)), .val (.lst ((sls P (r.s0 P) r.ls).map rD)), y7, .val (rD (sf (·.2) r.ls)), .val (.tup [rD (0 - P * r.s0 P), rD (P * r.sl P r.ls)]), .un, .un, .val (ed r.x0 r.y0), .val (ed r.x1 r.y1), .val (LO r.ls), a15, a16, .un, .un, .un, .un, .un, .un, .un, .un, .un, .un] (some Q3)) := by
    generalize r.xs.map (pD r P) = XS
    generalize (sls P (r.s0 P) r.ls).map rD = SS at i0 iL ⊢
    generalize r.s0 P = A at i0 t14 t14c ⊢
    generalize r.sl P r.ls = B at iL t14b ⊢
    generalize sf (·.2) r.ls = C
    simp [l3_14, tup01, i0, iL, t14, t14b, t14c]
  have k15 : l3_15 [.val (.scr ns), .pool, .val (rD P), .val (LO r.ls), .val (.lst (r.xs.map (pD r P))), .own (r.xs.map (pD r P)), .val (.lst ((sls P (r.s0 P) r.ls).map rD)), y7, .val (rD (sf (·.2) r.ls)), .val (.tup [rD (0 - P * r.s0 P), rD (P * r.sl P r.ls)]), .un, .un, .val (ed r.x0 r.y0), .val (ed r.x1 r.y1), .val (LO r.ls), a15, a16, .un, .un, .un, .un, .un, .un, .un, .un, .un, .un] (some Q3) = some (.nx [.val (.scr ns), .pool, .val (rD P), .val (LO r.ls), .val (.lst (r.xs.map (pD r P))), .own (r.xs.map (pD r P)), .val (.lst ((sls P (r.s0 P) r.ls).map rD)), y7, .val (rD (sf (·.2) r.ls)), .val (.tup [rD (0 - P * r.s0 P), rD (P * r.sl P r.ls)]), .un, .un, .val (ed r.x0 r.y0), .val (ed r.x1 r.y1), .val (LO r.ls), a15, a16, .un, .un, .un, .un, .un, .un, .un, .un, .un, .un] (some Q3)) := by
    generalize r.xs.map (pD r P) = XS
    generalize (sls P (r.s0 P) r.ls).map rD = SS
    generalize r.s0 P = A at e15 es15 t15 ⊢
    generalize r.sl P r.ls = B at e15 es15 t15 ⊢
    generalize sf (·.2) r.ls = C at e15b es15 t15 ⊢
    simp [l3_15, e15, e15b, es15, t15, ne_rat]
  have k16 : l3_16 [.val (.scr ns), .pool, .val (rD P), .val (LO r.ls), .val (.lst (r.xs.map (pD r P))), .own (r.xs.map (pD r P)), .val (.lst ((sls P (r.s0 P) r.ls).map rD)), y7, .val (rD (sf (·.2) r.ls)), .val (.tup [rD (0 - P * r.s0 P), rD (P * r.sl P r.ls)]), .un, .un, .val (ed r.x0 r.y0), .val (ed r.x1 r.y1), .val (LO r.ls), a15, a16, .un, .un, .un, .un, .un, .un, .un, .un, .un, .un] (some Q3) = some (.nx [.val (.scr ns), .pool, .val (rD P), .val (LO r.ls), .val (.lst (r.xs.map (pD r P))), .own (r.xs.map (pD r P)), .val (.lst ((sls P (r.s0 P) r.ls).map rD)), y7, .val (rD (sf (·.2) r.ls)), .val (.tup [rD (0 - P * r.s0 P), rD (P * r.sl P r.ls)]), .val (bd none), .un, .val (ed r.x0 r.y0), .val (ed r.x1 r.y1), .val (LO r.ls), a15, a16, .un, .un, .un, .un, .un, .un, .un, .un, .un, .un] (some Q3)) := by
    generalize r.xs.map (pD r P) = XS
    generalize (sls P (r.s0 P) r.ls).map rD = SS
    generalize r.s0 P = A
    generalize r.sl P r.ls = B
    generalize sf (·.2) r.ls = C
    simp [l3_16, bd]
  have k17 : l3_17 [.val (.scr ns), .pool, .val (rD P), .val (LO r.ls), .val (.lst (r.xs.map (pD r P))), .own (r.xs.map (pD r P)), .val (.lst ((sls P (r.s0 P) r.ls).map rD)), y7, .val (rD (sf (·.2) r.ls)), .val (.tup [rD (0 - P * r.s0 P), rD (P * r.sl P r.ls)]), .val (bd none), .un, .val (ed r.x0 r.y0), .val (ed r.x1 r.y1), .val (LO r.ls), a15, a16, .un, .un, .un, .un, .un, .un, .un, .un, .un, .un] (some Q3) = some (.nx [.val (.scr ns), .pool, .val (rD P), .val (LO r.ls), .val (.lst (r.xs.map (pD r P))), .own (r.xs.map (pD r P)), .val (.lst ((sls P (r.s0 P) r.ls).map rD)), y7, .val (rD (sf (·.2) r.ls)), .val (.tup [rD (0 - P * r.s0 P), rD (P * r.sl P r.ls)]), .val (bd (r.ls.foldl (stepG r P) none)), .un, .val (ed r.x0 r.y0), .val (ed r.x1 r.y1), .val (LO r.ls), b15, b16, b17, .un, .un, .un, .un, .un, .un, .un, .un, .un] (some Q3)) := by
    unfold l3_17
    rw [x_sFor]
    have ki : mIt itD (mV 14) (vw [] [.val (.scr ns), .pool, .val (rD P), .val (LO r.ls), .val (.lst (r.xs.map (pD r P))), .own (r.xs.map (pD r P)), .val (.lst ((sls P (r.s0 P) r.ls).map rD)), y7, .val (rD (sf (·.2) r.ls)), .val (.tup [rD (0 - P * r.s0 P), rD (P * r.sl P r.ls)]), .val (bd none), .un, .val (ed r.x0 r.y0), .val (ed r.x1 r.y1), .val (LO r.ls), a15, a16, .un, .un, .un, .un, .un, .un, .un, .un, .un, .un]) (some Q3) = some (r.ls.map lD, some Q3) := by
      generalize r.xs.map (pD r P) = XS
      generalize (sls P (r.s0 P) r.ls).map rD = SS
      simp
    rw [ki]; exact e17
  have k18 : l3_18 [.val (.scr ns), .pool, .val (rD P), .val (LO r.ls), .val (.lst (r.xs.map (pD r P))), .own (r.xs.map (pD r P)), .val (.lst ((sls P (r.s0 P) r.ls).map rD)), y7, .val (rD (sf (·.2) r.ls)), .val (.tup [rD (0 - P * r.s0 P), rD (P * r.sl P r.ls)]), .val (bd (r.ls.foldl (stepG r P) none)), .un, .val (ed r.x0 r.y0), .val (ed r.x1 r.y1), .val (LO r.ls), b15, b16, b17, .un, .un, .un, .un, .un, .un, .un, .un, .un] (some Q3) = some (.nx [.val (.scr ns), .pool, .val (rD P), .val (LO r.ls), .val (.lst (r.xs.map (pD r P))), .own (r.xs.map (pD r P)), .val (.lst ((sls P (r.s0 P) r.ls).map rD)), y7, .val (rD (sf (·.2) r.ls)), .val (.tup [rD (0 - P * r.s0 P), rD (P * r.sl P r.ls)]), .val (bd (r.ls.foldl (stepG r P) none)), .un, .val (ed r.x0 r.y0), .val (ed r.x1 r.y1), .val (LO r.ls), b15, b16, b17, .un, .un, .un, .un, .un, .un, .un, .un, .un] (some Q3)) := by
    generalize r.ls.foldl (stepG r P) none = FF at e18 es18 ⊢
    generalize r.xs.map (pD r P) = XS
    generalize (sls P (r.s0 P) r.ls).map rD = SS
    generalize r.s0 P = A
    generalize r.sl P r.ls = B
    generalize sf (·.2) r.ls = C
    simp [l3_18, e18, es18]
  have k19 : l3_19 [.val (.scr ns), .pool, .val (rD P), .val (LO r.ls), .val (.lst (r.xs.map (pD r P))), .own (r.xs.map (pD r P)), .val (.lst ((sls P (r.s0 P) r.ls).map rD)), y7, .val (rD (sf (·.2) r.ls)), .val (.tup [rD (0 - P * r.s0 P), rD (P * r.sl P r.ls)]), .val (bd (r.ls.foldl (stepG r P) none)), .un, .val (ed r.x0 r.y0), .val (ed r.x1 r.y1), .val (LO r.ls), b15, b16, b17, .un, .un, .un, .un, .un, .un, .un, .un, .un] (some Q3) = some (.nx [.val (.scr ns), .pool, .val (rD P), .val (LO r.ls), .val (.lst (r.xs.map (pD r P))), .own (r.xs.map (pD r P)), .val (.lst ((sls P (r.s0 P) r.ls).map rD)), y7, .val (rD (sf (·.2) r.ls)), .val (.tup [rD (0 - P * r.s0 P), rD (P * r.sl P r.ls)]), .val (bd (r.ls.foldl (stepG r P) none)), c11, .val (ed r.x0 r.y0), .val (ed r.x1 r.y1), .val (LO r.ls), b15, b16, b17, c18, c19, c20, c21, c22, c23, c24, c25, c26] (some Q4)) := by
    unfold l3_19
    rw [x_sFor]
    have ki : mRng rng1 (aCons (mC (.int 4)) (aNil)) (vw [] [.val (.scr ns), .pool, .val (rD P), .val (LO r.ls), .val (.lst (r.xs.map (pD r P))), .own (r.xs.map (pD r P)), .val (.lst ((sls P (r.s0 P) r.ls).map rD)), y7, .val (rD (sf (·.2) r.ls)), .val (.tup [rD (0 - P * r.s0 P), rD (P * r.sl P r.ls)]), .val (bd (r.ls.foldl (stepG r P) none)), .un, .val (ed r.x0 r.y0), .val (ed r.x1 r.y1), .val (LO r.ls), b15, b16, b17, .un, .un, .un, .un, .un, .un, .un, .un, .un]) (some Q3) = some ([0, 1, 2, 3].map D.int, some Q3) := by
      simp only [x_mRng, x_aCons, x_aNil, x_mC, Option.bind_some, rg19, Option.map_some]
    rw [ki]; exact e19
  rw [x_sSeq, k0, x_nxN, x_sSeq, k1, x_nxN, x_sSeq, k2, x_nxN, x_sSeq, k3, x_nxN, x_sSeq, k4, x_nxN, x_sSeq, k5, x_nxN, x_sSeq, k6, x_nxN, x_sSeq, k7, x_nxN, x_sSeq, k8, x_nxN, x_sSeq, k9, x_nxN, x_sSeq, k10, x_nxN, x_sSeq, k11, x_nxN, x_sSeq, k12, x_nxN, x_sSeq, k13, x_nxN, x_sSeq, k14, x_nxN, x_sSeq, k15, x_nxN, x_sSeq, k16, x_nxN, x_sSeq, k17, x_nxN, x_sSeq, k18, x_nxN, x_sSeq, k19, x_nxN]
  generalize r.ls.foldl (stepG r P) none = FF
  generalize r.xs.map (pD r P) = XS
  generalize (sls P (r.s0 P) r.ls).map rD = SS
  simp [l3_20, one, t20, e20]
end Lw
set_option Elab.async false
set_option linter.all false
set_option maxRecDepth 100000
set_option maxHeartbeats 4000000
namespace Lw
open PySem PySem.Spec PyProof.Rows L2 Dn
def topS (i : Nat) : Stmt := PySem.Challenge.pw_trusswork_k12_whole_hung_ropes.main.body.getD i (.Pass ⟨0, 0, 0, 0⟩)
section
variable {P : Program} {w : World} {K : PySem.W.Frag} {mg : Str → Option Value} {base : Heap}
abbrev s_frac : Stmt := topS 3
theorem sc_frac : FnScope ["p", "q", "shared"] ["p", "q"] (defScope s_frac) := ⟨rfl, rfl, rfl, by decide +kernel, rfl, by decide +kernel, by decide +kernel⟩
theorem bd_frac (i_gcd : mg "gcd" = some (.builtin "math.gcd")) {f : Addr} : Body P w K mg base ["p", "q", "shared"] "frac" s_frac f 0 b_frac := fun cdv A outer s H E hr => by
  show BkF _ (defBody s_frac) b_frac
  exact bk_cons (sf_if (bf_cmp od_lt (ev 1) (ef_int)) (bk_one (sf_par (i := 0) (j := 1) [] rfl sc_frac.nd rfl rfl (by decide) rfl rfl (af_cons (ef_un ud_neg (ev 0)) (af_cons (ef_un ud_neg (ev 1)) (af_nil))) (by rfl))) (bk_nil)) (bk_cons ((as_set (i := 2) sc_frac.nd rfl (by first | exact Or.inl rfl | exact Or.inr rfl) (ef_callBf cd_gcd (by rfl) i_gcd (af_cons (ev 0) (af_cons (ev 1) (af_nil))))).f []) (bk_one (sf_retF [] (ef_tup (af_cons (ef_op od_fdiv (ev 0) (ev 2)) (af_cons (ef_op od_fdiv (ev 1) (ev 2)) (af_nil)))))))
theorem ok_frac (i_gcd : mg "gcd" = some (.builtin "math.gcd")) {f : Addr} {fd : FuncData} (F : Fun K "frac" "frac" s_frac f fd) (hm : mg "frac" = some (.ref f)) : Fn P w K mg base "frac" 1 ["p", "q"] (spF K 2 m_frac) :=
  ⟨f, fd, (fn_F F sc_frac (bd_frac   i_gcd ) :), hm, F.kp, (F.binds (ps := ["p", "q"]) fun _ _ _ _ _ _ us hl => match us, hl with | [_, _], _ => rfl)⟩
abbrev s_plus : Stmt := topS 4
theorem sc_plus : FnScope ["a", "b"] ["a", "b"] (defScope s_plus) := ⟨rfl, rfl, rfl, by decide +kernel, rfl, by decide +kernel, by decide +kernel⟩
theorem bd_plus (h_frac : Fn P w K mg base "frac" 1 ["p", "q"] (spF K 2 m_frac)) {f : Addr} : Body P w K mg base ["a", "b"] "plus" s_plus f 1 b_plus := fun cdv A outer s H E hr => by
  show BkF _ (defBody s_plus) b_plus
  exact bk_one (sf_retF [] (ef_f 2 h_frac hr (by omega) (by rfl) (af_cons (ef_op od_add (ef_op od_mul (ef_ix (ev 0) (ef_int)) (ef_ix (ev 1) (ef_int))) (ef_op od_mul (ef_ix (ev 1) (ef_int)) (ef_ix (ev 0) (ef_int)))) (af_cons (ef_op od_mul (ef_ix (ev 0) (ef_int)) (ef_ix (ev 1) (ef_int))) (af_nil))) (al_cons (al_cons (al_nil)))))
theorem ok_plus (h_frac : Fn P w K mg base "frac" 1 ["p", "q"] (spF K 2 m_frac)) {f : Addr} {fd : FuncData} (F : Fun K "plus" "plus" s_plus f fd) (hm : mg "plus" = some (.ref f)) : Fn P w K mg base "plus" 2 ["a", "b"] (spF K 2 m_plus) :=
  ⟨f, fd, (fn_F F sc_plus (bd_plus    h_frac) :), hm, F.kp, (F.binds (ps := ["a", "b"]) fun _ _ _ _ _ _ us hl => match us, hl with | [_, _], _ => rfl)⟩
abbrev s_minus : Stmt := topS 5
theorem sc_minus : FnScope ["a", "b"] ["a", "b"] (defScope s_minus) := ⟨rfl, rfl, rfl, by decide +kernel, rfl, by decide +kernel, by decide +kernel⟩
theorem bd_minus (h_frac : Fn P w K mg base "frac" 1 ["p", "q"] (spF K 2 m_frac)) {f : Addr} : Body P w K mg base ["a", "b"] "minus" s_minus f 1 b_minus := fun cdv A outer s H E hr => by
  show BkF _ (defBody s_minus) b_minus
  exact bk_one (sf_retF [] (ef_f 2 h_frac hr (by omega) (by rfl) (af_cons (ef_op od_sub (ef_op od_mul (ef_ix (ev 0) (ef_int)) (ef_ix (ev 1) (ef_int))) (ef_op od_mul (ef_ix (ev 1) (ef_int)) (ef_ix (ev 0) (ef_int)))) (af_cons (ef_op od_mul (ef_ix (ev 0) (ef_int)) (ef_ix (ev 1) (ef_int))) (af_nil))) (al_cons (al_cons (al_nil)))))
theorem ok_minus (h_frac : Fn P w K mg base "frac" 1 ["p", "q"] (spF K 2 m_frac)) {f : Addr} {fd : FuncData} (F : Fun K "minus" "minus" s_minus f fd) (hm : mg "minus" = some (.ref f)) : Fn P w K mg base "minus" 2 ["a", "b"] (spF K 2 m_minus) :=
  ⟨f, fd, (fn_F F sc_minus (bd_minus    h_frac) :), hm, F.kp, (F.binds (ps := ["a", "b"]) fun _ _ _ _ _ _ us hl => match us, hl with | [_, _], _ => rfl)⟩
abbrev s_times : Stmt := topS 6
theorem sc_times : FnScope ["a", "b"] ["a", "b"] (defScope s_times) := ⟨rfl, rfl, rfl, by decide +kernel, rfl, by decide +kernel, by decide +kernel⟩
theorem bd_times (h_frac : Fn P w K mg base "frac" 1 ["p", "q"] (spF K 2 m_frac)) {f : Addr} : Body P w K mg base ["a", "b"] "times" s_times f 1 b_times := fun cdv A outer s H E hr => by
  show BkF _ (defBody s_times) b_times
  exact bk_one (sf_retF [] (ef_f 2 h_frac hr (by omega) (by rfl) (af_cons (ef_op od_mul (ef_ix (ev 0) (ef_int)) (ef_ix (ev 1) (ef_int))) (af_cons (ef_op od_mul (ef_ix (ev 0) (ef_int)) (ef_ix (ev 1) (ef_int))) (af_nil))) (al_cons (al_cons (al_nil)))))
theorem ok_times (h_frac : Fn P w K mg base "frac" 1 ["p", "q"] (spF K 2 m_frac)) {f : Addr} {fd : FuncData} (F : Fun K "times" "times" s_times f fd) (hm : mg "times" = some (.ref f)) : Fn P w K mg base "times" 2 ["a", "b"] (spF K 2 m_times) :=
  ⟨f, fd, (fn_F F sc_times (bd_times    h_frac) :), hm, F.kp, (F.binds (ps := ["a", "b"]) fun _ _ _ _ _ _ us hl => match us, hl with | [_, _], _ => rfl)⟩
abbrev s_over : Stmt := topS 7
theorem sc_over : FnScope ["a", "b"] ["a", "b"] (defScope s_over) := ⟨rfl, rfl, rfl, by decide +kernel, rfl, by decide +kernel, by decide +kernel⟩
theorem bd_over (h_frac : Fn P w K mg base "frac" 1 ["p", "q"] (spF K 2 m_frac)) {f : Addr} : Body P w K mg base ["a", "b"] "over" s_over f 1 b_over := fun cdv A outer s H E hr => by
  show BkF _ (defBody s_over) b_over
  exact bk_one (sf_retF [] (ef_f 2 h_frac hr (by omega) (by rfl) (af_cons (ef_op od_mul (ef_ix (ev 0) (ef_int)) (ef_ix (ev 1) (ef_int))) (af_cons (ef_op od_mul (ef_ix (ev 0) (ef_int)) (ef_ix (ev 1) (ef_int))) (af_nil))) (al_cons (al_cons (al_nil)))))
theorem ok_over (h_frac : Fn P w K mg base "frac" 1 ["p", "q"] (spF K 2 m_frac)) {f : Addr} {fd : FuncData} (F : Fun K "over" "over" s_over f fd) (hm : mg "over" = some (.ref f)) : Fn P w K mg base "over" 2 ["a", "b"] (spF K 2 m_over) :=
  ⟨f, fd, (fn_F F sc_over (bd_over    h_frac) :), hm, F.kp, (F.binds (ps := ["a", "b"]) fun _ _ _ _ _ _ us hl => match us, hl with | [_, _], _ => rfl)⟩
abbrev s_less : Stmt := topS 8
theorem sc_less : FnScope ["a", "b"] ["a", "b"] (defScope s_less) := ⟨rfl, rfl, rfl, by decide +kernel, rfl, by decide +kernel, by decide +kernel⟩
theorem bd_less  {f : Addr} : Body P w K mg base ["a", "b"] "less" s_less f 0 b_less := fun cdv A outer s H E hr => by
  show BkF _ (defBody s_less) b_less
  exact bk_one (sf_retF [] (ef_cmp od_lt (ef_op od_mul (ef_ix (ev 0) (ef_int)) (ef_ix (ev 1) (ef_int))) (ef_op od_mul (ef_ix (ev 1) (ef_int)) (ef_ix (ev 0) (ef_int)))))
theorem ok_less  {f : Addr} {fd : FuncData} (F : Fun K "less" "less" s_less f fd) (hm : mg "less" = some (.ref f)) : Fn P w K mg base "less" 1 ["a", "b"] (spF K 2 m_less) :=
  ⟨f, fd, (fn_F F sc_less (bd_less    ) :), hm, F.kp, (F.binds (ps := ["a", "b"]) fun _ _ _ _ _ _ us hl => match us, hl with | [_, _], _ => rfl)⟩
abbrev s_sum_of : Stmt := topS 9
theorem sc_sum_of : FnScope ["numbers", "found", "number"] ["numbers"] (defScope s_sum_of) := ⟨rfl, rfl, rfl, by decide +kernel, rfl, by decide +kernel, by decide +kernel⟩
theorem bd_sum_of (g_NOUGHT : Gc K mg "NOUGHT" c_NOUGHT) (h_plus : Fn P w K mg base "plus" 2 ["a", "b"] (spF K 2 m_plus)) {f : Addr} : Body P w K mg base ["numbers", "found", "number"] "sum_of" s_sum_of f 2 b_sum_of := fun cdv A outer s H E hr => by
  show BkF _ (defBody s_sum_of) b_sum_of
  exact bk_cons ((as_set (i := 1) sc_sum_of.nd rfl (by first | exact Or.inl rfl | exact Or.inr rfl) (ef_glob g_NOUGHT (by rfl))).f []) (bk_cons (sf_for [] PassesOwn.never rfl (if_seq (ev 0)) (gf_name (i := 2) sc_sum_of.nd rfl (by first | exact Or.inl rfl | exact Or.inr rfl)) (bk_one ((as_set (i := 1) sc_sum_of.nd rfl (by first | exact Or.inl rfl | exact Or.inr rfl) (ef_f 2 h_plus hr (by omega) (by rfl) (af_cons (ev 1) (af_cons (ev 2) (af_nil))) (al_cons (al_cons (al_nil))))).f []))) (bk_one (sf_retF [] (ev 1))))
theorem ok_sum_of (g_NOUGHT : Gc K mg "NOUGHT" c_NOUGHT) (h_plus : Fn P w K mg base "plus" 2 ["a", "b"] (spF K 2 m_plus)) {f : Addr} {fd : FuncData} (F : Fun K "sum_of" "sum_of" s_sum_of f fd) (hm : mg "sum_of" = some (.ref f)) : Fn P w K mg base "sum_of" 3 ["numbers"] (spF K 1 m_sum_of) :=
  ⟨f, fd, (fn_F F sc_sum_of (bd_sum_of  g_NOUGHT  h_plus) :), hm, F.kp, (F.binds (ps := ["numbers"]) fun _ _ _ _ _ _ us hl => match us, hl with | [_], _ => rfl)⟩
abbrev s_slopes : Stmt := topS 11
theorem sc_slopes : FnScope ["left", "right", "loads", "pull", "steps", "wide", "total", "found", "step", "place", "_", "load"] ["left", "right", "loads", "pull"] (defScope s_slopes) := ⟨rfl, rfl, rfl, by decide +kernel, rfl, by decide +kernel, by decide +kernel⟩
theorem bd_slopes (z_zip : mg "zip" = none) (h_plus : Fn P w K mg base "plus" 2 ["a", "b"] (spF K 2 m_plus)) (h_minus : Fn P w K mg base "minus" 2 ["a", "b"] (spF K 2 m_minus)) (h_times : Fn P w K mg base "times" 2 ["a", "b"] (spF K 2 m_times)) (h_over : Fn P w K mg base "over" 2 ["a", "b"] (spF K 2 m_over)) {f : Addr} : Body P w K mg base ["left", "right", "loads", "pull", "steps", "wide", "total", "found", "step", "place", "_", "load"] "slopes" s_slopes f 2 b_slopes := fun cdv A outer s H E hr => by
  show BkF _ (defBody s_slopes) b_slopes
  exact bk_cons ((asl_lc (i := 4) (own := [("_", 10), ("load", 11)]) rfl sc_slopes.nd rfl rfl (sw_true rfl rfl rfl rfl) (blkOk_by (by first | decide +kernel | kernel_rfl | rfl)) (if_seq (ev 2)) (fun _ _ _ _ _ => ge_tl 2 rfl (ges_cons (ge_name (i := 10) sc_slopes.nd rfl (by first | exact Or.inl rfl | exact Or.inr rfl)) (ges_cons (ge_name (i := 11) sc_slopes.nd rfl (by first | exact Or.inl rfl | exact Or.inr rfl)) (ges_nil)))) (fun _ _ _ _ _ => ts_nil) (fun _ _ _ _ _ => ef_f 2 h_over hr (by omega) (by rfl) (af_cons (ev 11) (af_cons (ev 3) (af_nil))) (al_cons (al_cons (al_nil)))) (by decide)).as.f []) (bk_cons ((as_set (i := 5) sc_slopes.nd rfl (by first | exact Or.inl rfl | exact Or.inr rfl) (ef_f 2 h_minus hr (by omega) (by rfl) (af_cons (ef_ix (ev 1) (ef_int)) (af_cons (ef_ix (ev 0) (ef_int)) (af_nil))) (al_cons (al_cons (al_nil))))).f []) (bk_cons ((as_set (i := 6) sc_slopes.nd rfl (by first | exact Or.inl rfl | exact Or.inr rfl) (ef_f 2 h_minus hr (by omega) (by rfl) (af_cons (ef_ix (ev 1) (ef_int)) (af_cons (ef_ix (ev 0) (ef_int)) (af_nil))) (al_cons (al_cons (al_nil))))).f []) (bk_cons (sf_for [] PassesOwn.never rfl (if_zs (by rfl) z_zip (af_cons (ev 2) (af_cons (ev 4) (af_nil)))) (gf_tl 2 rfl (gfs_cons (gf_tl 2 rfl (gfs_cons (gf_name (i := 9) sc_slopes.nd rfl (by first | exact Or.inl rfl | exact Or.inr rfl)) (gfs_cons (gf_name (i := 10) sc_slopes.nd rfl (by first | exact Or.inl rfl | exact Or.inr rfl)) (gfs_nil)))) (gfs_cons (gf_name (i := 8) sc_slopes.nd rfl (by first | exact Or.inl rfl | exact Or.inr rfl)) (gfs_nil)))) (bk_one ((as_set (i := 6) sc_slopes.nd rfl (by first | exact Or.inl rfl | exact Or.inr rfl) (ef_f 2 h_minus hr (by omega) (by rfl) (af_cons (ev 6) (af_cons (ef_f 2 h_times hr (by omega) (by rfl) (af_cons (ev 8) (af_cons (ef_f 2 h_minus hr (by omega) (by rfl) (af_cons (ef_ix (ev 1) (ef_int)) (af_cons (ev 9) (af_nil))) (al_cons (al_cons (al_nil)))) (af_nil))) (al_cons (al_cons (al_nil)))) (af_nil))) (al_cons (al_cons (al_nil))))).f []))) (bk_cons ((asl_set (i := 7) sc_slopes.nd rfl (by first | exact Or.inl rfl | exact Or.inr rfl) (lf_lst (af_cons (ef_f 2 h_over hr (by omega) (by rfl) (af_cons (ev 6) (af_cons (ev 5) (af_nil))) (al_cons (al_cons (al_nil)))) (af_nil)))).o []) (bk_cons (sf_for [] PassesOwn.never rfl (if_seq (ev 4)) (gf_name (i := 8) sc_slopes.nd rfl (by first | exact Or.inl rfl | exact Or.inr rfl)) (bk_one (sf_appS (mt_of (ef_f 2 h_plus hr (by omega) (by rfl) (af_cons (ef_ix (ev 7) (ef_un ud_neg (ef_int))) (af_cons (ev 8) (af_nil))) (al_cons (al_cons (al_nil)))) (fun te h => ps_expr (pe_bm PySem.F.plainAttrs_list PySem.F.slot_list_append PySem.F.type_list_append mt_append (pv 7) (pa_cons h pa_nil))))))) (bk_one (sf_retO 7)))))))
theorem ok_slopes (z_zip : mg "zip" = none) (h_plus : Fn P w K mg base "plus" 2 ["a", "b"] (spF K 2 m_plus)) (h_minus : Fn P w K mg base "minus" 2 ["a", "b"] (spF K 2 m_minus)) (h_times : Fn P w K mg base "times" 2 ["a", "b"] (spF K 2 m_times)) (h_over : Fn P w K mg base "over" 2 ["a", "b"] (spF K 2 m_over)) {f : Addr} {fd : FuncData} (F : Fun K "slopes" "slopes" s_slopes f fd) (hm : mg "slopes" = some (.ref f)) : Fn P w K mg base "slopes" 3 ["left", "right", "loads", "pull"] (spL K 4 m_slopes) :=
  ⟨f, fd, (fn_L F sc_slopes (bd_slopes z_zip   h_plus h_minus h_times h_over) :), hm, F.kp, (F.binds (ps := ["left", "right", "loads", "pull"]) fun _ _ _ _ _ _ us hl => match us, hl with | [_, _, _, _], _ => rfl)⟩
abbrev s_points : Stmt := topS 12
theorem sc_points : FnScope ["left", "right", "loads", "pull", "told", "found", "slope", "here", "place", "_"] ["left", "right", "loads", "pull"] (defScope s_points) := ⟨rfl, rfl, rfl, by decide +kernel, rfl, by decide +kernel, by decide +kernel⟩
theorem bd_points (z_zip : mg "zip" = none) (h_plus : Fn P w K mg base "plus" 2 ["a", "b"] (spF K 2 m_plus)) (h_minus : Fn P w K mg base "minus" 2 ["a", "b"] (spF K 2 m_minus)) (h_times : Fn P w K mg base "times" 2 ["a", "b"] (spF K 2 m_times)) (h_slopes : Fn P w K mg base "slopes" 3 ["left", "right", "loads", "pull"] (spL K 4 m_slopes)) {f : Addr} : Body P w K mg base ["left", "right", "loads", "pull", "told", "found", "slope", "here", "place", "_"] "points" s_points f 3 b_points := fun cdv A outer s H E hr => by
  show BkF _ (defBody s_points) b_points
  exact bk_cons ((as_set (i := 4) sc_points.nd rfl (by first | exact Or.inl rfl | exact Or.inr rfl) ((lf_f 4 h_slopes hr (by omega) (by rfl) (af_cons (ev 0) (af_cons (ev 1) (af_cons (ev 2) (af_cons (ev 3) (af_nil))))) (al_cons (al_cons (al_cons (al_cons (al_nil)))))).ef)).f []) (bk_cons ((asl_set (i := 5) sc_points.nd rfl (by first | exact Or.inl rfl | exact Or.inr rfl) (lf_lst (af_cons (ev 0) (af_nil)))).o []) (bk_cons (sf_for [] PassesOwn.never rfl (if_zf (by rfl) z_zip (af_cons (ev 2) (af_cons (ev 4) (af_nil)))) (gf_tl 2 rfl (gfs_cons (gf_tl 2 rfl (gfs_cons (gf_name (i := 8) sc_points.nd rfl (by first | exact Or.inl rfl | exact Or.inr rfl)) (gfs_cons (gf_name (i := 9) sc_points.nd rfl (by first | exact Or.inl rfl | exact Or.inr rfl)) (gfs_nil)))) (gfs_cons (gf_name (i := 6) sc_points.nd rfl (by first | exact Or.inl rfl | exact Or.inr rfl)) (gfs_nil)))) (bk_cons ((as_set (i := 7) sc_points.nd rfl (by first | exact Or.inl rfl | exact Or.inr rfl) (ef_ix (ev 5) (ef_un ud_neg (ef_int)))).s) (bk_one (sf_appF [] (mt_of (ef_tup (af_cons (ev 8) (af_cons (ef_f 2 h_plus hr (by omega) (by rfl) (af_cons (ef_ix (ev 7) (ef_int)) (af_cons (ef_f 2 h_times hr (by omega) (by rfl) (af_cons (ev 6) (af_cons (ef_f 2 h_minus hr (by omega) (by rfl) (af_cons (ev 8) (af_cons (ef_ix (ev 7) (ef_int)) (af_nil))) (al_cons (al_cons (al_nil)))) (af_nil))) (al_cons (al_cons (al_nil)))) (af_nil))) (al_cons (al_cons (al_nil)))) (af_nil)))) (fun te h => ps_expr (pe_bm PySem.F.plainAttrs_list PySem.F.slot_list_append PySem.F.type_list_append mt_append (pv 5) (pa_cons h pa_nil)))))))) (bk_cons (sf_appF [] (mt_of (ev 1) (fun te h => ps_expr (pe_bm PySem.F.plainAttrs_list PySem.F.slot_list_append PySem.F.type_list_append mt_append (pv 5) (pa_cons h pa_nil))))) (bk_one (sf_retO 5)))))
theorem ok_points (z_zip : mg "zip" = none) (h_plus : Fn P w K mg base "plus" 2 ["a", "b"] (spF K 2 m_plus)) (h_minus : Fn P w K mg base "minus" 2 ["a", "b"] (spF K 2 m_minus)) (h_times : Fn P w K mg base "times" 2 ["a", "b"] (spF K 2 m_times)) (h_slopes : Fn P w K mg base "slopes" 3 ["left", "right", "loads", "pull"] (spL K 4 m_slopes)) {f : Addr} {fd : FuncData} (F : Fun K "points" "points" s_points f fd) (hm : mg "points" = some (.ref f)) : Fn P w K mg base "points" 4 ["left", "right", "loads", "pull"] (spL K 4 m_points) :=
  ⟨f, fd, (fn_L F sc_points (bd_points z_zip   h_plus h_minus h_times h_slopes) :), hm, F.kp, (F.binds (ps := ["left", "right", "loads", "pull"]) fun _ _ _ _ _ _ us hl => match us, hl with | [_, _, _, _], _ => rfl)⟩
abbrev s_height_at : Stmt := topS 13
theorem sc_height_at : FnScope ["left", "right", "loads", "pull", "place", "told", "one", "other", "slope"] ["left", "right", "loads", "pull", "place"] (defScope s_height_at) := ⟨rfl, rfl, rfl, by decide +kernel, rfl, by decide +kernel, by decide +kernel⟩
theorem bd_height_at (z_zip : mg "zip" = none) (h_plus : Fn P w K mg base "plus" 2 ["a", "b"] (spF K 2 m_plus)) (h_minus : Fn P w K mg base "minus" 2 ["a", "b"] (spF K 2 m_minus)) (h_times : Fn P w K mg base "times" 2 ["a", "b"] (spF K 2 m_times)) (h_over : Fn P w K mg base "over" 2 ["a", "b"] (spF K 2 m_over)) (h_less : Fn P w K mg base "less" 1 ["a", "b"] (spF K 2 m_less)) (h_points : Fn P w K mg base "points" 4 ["left", "right", "loads", "pull"] (spL K 4 m_points)) {f : Addr} : Body P w K mg base ["left", "right", "loads", "pull", "place", "told", "one", "other", "slope"] "height_at" s_height_at f 4 b_height_at := fun cdv A outer s H E hr => by
  show BkF _ (defBody s_height_at) b_height_at
  exact bk_cons ((as_set (i := 5) sc_height_at.nd rfl (by first | exact Or.inl rfl | exact Or.inr rfl) ((lf_f 4 h_points hr (by omega) (by rfl) (af_cons (ev 0) (af_cons (ev 1) (af_cons (ev 2) (af_cons (ev 3) (af_nil))))) (al_cons (al_cons (al_cons (al_cons (al_nil)))))).ef)).f []) (bk_cons (sf_for [] PassesOwn.never rfl (if_zf (by rfl) z_zip (af_cons (ev 5) (af_cons (ef_sl (ev 5) (of_some (ef_int)) (of_none)) (af_nil)))) (gf_tl 2 rfl (gfs_cons (gf_name (i := 6) sc_height_at.nd rfl (by first | exact Or.inl rfl | exact Or.inr rfl)) (gfs_cons (gf_name (i := 7) sc_height_at.nd rfl (by first | exact Or.inl rfl | exact Or.inr rfl)) (gfs_nil)))) (bk_one (sf_if ((wf_and (bf_not (bf_tru (ef_f 2 h_less hr (by omega) (by rfl) (af_cons (ev 4) (af_cons (ef_ix (ev 6) (ef_int)) (af_nil))) (al_cons (al_cons (al_nil)))))) (wf_and1 (bf_not (bf_tru (ef_f 2 h_less hr (by omega) (by rfl) (af_cons (ef_ix (ev 7) (ef_int)) (af_cons (ev 4) (af_nil))) (al_cons (al_cons (al_nil)))))))).bf) (bk_cons ((as_set (i := 8) sc_height_at.nd rfl (by first | exact Or.inl rfl | exact Or.inr rfl) (ef_f 2 h_over hr (by omega) (by rfl) (af_cons (ef_f 2 h_minus hr (by omega) (by rfl) (af_cons (ef_ix (ev 7) (ef_int)) (af_cons (ef_ix (ev 6) (ef_int)) (af_nil))) (al_cons (al_cons (al_nil)))) (af_cons (ef_f 2 h_minus hr (by omega) (by rfl) (af_cons (ef_ix (ev 7) (ef_int)) (af_cons (ef_ix (ev 6) (ef_int)) (af_nil))) (al_cons (al_cons (al_nil)))) (af_nil))) (al_cons (al_cons (al_nil))))).f []) (bk_one (sf_retF [] (ef_f 2 h_plus hr (by omega) (by rfl) (af_cons (ef_ix (ev 6) (ef_int)) (af_cons (ef_f 2 h_times hr (by omega) (by rfl) (af_cons (ev 8) (af_cons (ef_f 2 h_minus hr (by omega) (by rfl) (af_cons (ev 4) (af_cons (ef_ix (ev 6) (ef_int)) (af_nil))) (al_cons (al_cons (al_nil)))) (af_nil))) (al_cons (al_cons (al_nil)))) (af_nil))) (al_cons (al_cons (al_nil))))))) (bk_nil)))) (bk_one (sf_retF [] (ef_non))))
theorem ok_height_at (z_zip : mg "zip" = none) (h_plus : Fn P w K mg base "plus" 2 ["a", "b"] (spF K 2 m_plus)) (h_minus : Fn P w K mg base "minus" 2 ["a", "b"] (spF K 2 m_minus)) (h_times : Fn P w K mg base "times" 2 ["a", "b"] (spF K 2 m_times)) (h_over : Fn P w K mg base "over" 2 ["a", "b"] (spF K 2 m_over)) (h_less : Fn P w K mg base "less" 1 ["a", "b"] (spF K 2 m_less)) (h_points : Fn P w K mg base "points" 4 ["left", "right", "loads", "pull"] (spL K 4 m_points)) {f : Addr} {fd : FuncData} (F : Fun K "height_at" "height_at" s_height_at f fd) (hm : mg "height_at" = some (.ref f)) : Fn P w K mg base "height_at" 5 ["left", "right", "loads", "pull", "place"] (spF K 5 m_height_at) :=
  ⟨f, fd, (fn_F F sc_height_at (bd_height_at z_zip   h_plus h_minus h_times h_over h_less h_points) :), hm, F.kp, (F.binds (ps := ["left", "right", "loads", "pull", "place"]) fun _ _ _ _ _ _ us hl => match us, hl with | [_, _, _, _, _], _ => rfl)⟩
abbrev s_sag : Stmt := topS 14
theorem sc_sag : FnScope ["left", "right", "loads", "pull", "place", "slope", "line"] ["left", "right", "loads", "pull", "place"] (defScope s_sag) := ⟨rfl, rfl, rfl, by decide +kernel, rfl, by decide +kernel, by decide +kernel⟩
theorem bd_sag (h_plus : Fn P w K mg base "plus" 2 ["a", "b"] (spF K 2 m_plus)) (h_minus : Fn P w K mg base "minus" 2 ["a", "b"] (spF K 2 m_minus)) (h_times : Fn P w K mg base "times" 2 ["a", "b"] (spF K 2 m_times)) (h_over : Fn P w K mg base "over" 2 ["a", "b"] (spF K 2 m_over)) (h_height_at : Fn P w K mg base "height_at" 5 ["left", "right", "loads", "pull", "place"] (spF K 5 m_height_at)) {f : Addr} : Body P w K mg base ["left", "right", "loads", "pull", "place", "slope", "line"] "sag" s_sag f 5 b_sag := fun cdv A outer s H E hr => by
  show BkF _ (defBody s_sag) b_sag
  exact bk_cons ((as_set (i := 5) sc_sag.nd rfl (by first | exact Or.inl rfl | exact Or.inr rfl) (ef_f 2 h_over hr (by omega) (by rfl) (af_cons (ef_f 2 h_minus hr (by omega) (by rfl) (af_cons (ef_ix (ev 1) (ef_int)) (af_cons (ef_ix (ev 0) (ef_int)) (af_nil))) (al_cons (al_cons (al_nil)))) (af_cons (ef_f 2 h_minus hr (by omega) (by rfl) (af_cons (ef_ix (ev 1) (ef_int)) (af_cons (ef_ix (ev 0) (ef_int)) (af_nil))) (al_cons (al_cons (al_nil)))) (af_nil))) (al_cons (al_cons (al_nil))))).f []) (bk_cons ((as_set (i := 6) sc_sag.nd rfl (by first | exact Or.inl rfl | exact Or.inr rfl) (ef_f 2 h_plus hr (by omega) (by rfl) (af_cons (ef_ix (ev 0) (ef_int)) (af_cons (ef_f 2 h_times hr (by omega) (by rfl) (af_cons (ev 5) (af_cons (ef_f 2 h_minus hr (by omega) (by rfl) (af_cons (ev 4) (af_cons (ef_ix (ev 0) (ef_int)) (af_nil))) (al_cons (al_cons (al_nil)))) (af_nil))) (al_cons (al_cons (al_nil)))) (af_nil))) (al_cons (al_cons (al_nil))))).f []) (bk_one (sf_retF [] (ef_f 2 h_minus hr (by omega) (by rfl) (af_cons (ev 6) (af_cons (ef_f 5 h_height_at hr (by omega) (by rfl) (af_cons (ev 0) (af_cons (ev 1) (af_cons (ev 2) (af_cons (ev 3) (af_cons (ev 4) (af_nil)))))) (al_cons (al_cons (al_cons (al_cons (al_cons (al_nil))))))) (af_nil))) (al_cons (al_cons (al_nil)))))))
theorem ok_sag (h_plus : Fn P w K mg base "plus" 2 ["a", "b"] (spF K 2 m_plus)) (h_minus : Fn P w K mg base "minus" 2 ["a", "b"] (spF K 2 m_minus)) (h_times : Fn P w K mg base "times" 2 ["a", "b"] (spF K 2 m_times)) (h_over : Fn P w K mg base "over" 2 ["a", "b"] (spF K 2 m_over)) (h_height_at : Fn P w K mg base "height_at" 5 ["left", "right", "loads", "pull", "place"] (spF K 5 m_height_at)) {f : Addr} {fd : FuncData} (F : Fun K "sag" "sag" s_sag f fd) (hm : mg "sag" = some (.ref f)) : Fn P w K mg base "sag" 6 ["left", "right", "loads", "pull", "place"] (spF K 5 m_sag) :=
  ⟨f, fd, (fn_F F sc_sag (bd_sag    h_plus h_minus h_times h_over h_height_at) :), hm, F.kp, (F.binds (ps := ["left", "right", "loads", "pull", "place"]) fun _ _ _ _ _ _ us hl => match us, hl with | [_, _, _, _, _], _ => rfl)⟩
abbrev s_greatest_sag : Stmt := topS 15
theorem sc_greatest_sag : FnScope ["left", "right", "loads", "pull", "best", "place", "_", "now"] ["left", "right", "loads", "pull"] (defScope s_greatest_sag) := ⟨rfl, rfl, rfl, by decide +kernel, rfl, by decide +kernel, by decide +kernel⟩
theorem bd_greatest_sag (h_less : Fn P w K mg base "less" 1 ["a", "b"] (spF K 2 m_less)) (h_sag : Fn P w K mg base "sag" 6 ["left", "right", "loads", "pull", "place"] (spF K 5 m_sag)) {f : Addr} : Body P w K mg base ["left", "right", "loads", "pull", "best", "place", "_", "now"] "greatest_sag" s_greatest_sag f 6 b_greatest_sag := fun cdv A outer s H E hr => by
  show BkF _ (defBody s_greatest_sag) b_greatest_sag
  exact bk_cons ((as_set (i := 4) sc_greatest_sag.nd rfl (by first | exact Or.inl rfl | exact Or.inr rfl) (ef_non)).f []) (bk_cons (sf_for [] PassesOwn.never rfl (if_seq (ev 2)) (gf_tl 2 rfl (gfs_cons (gf_name (i := 5) sc_greatest_sag.nd rfl (by first | exact Or.inl rfl | exact Or.inr rfl)) (gfs_cons (gf_name (i := 6) sc_greatest_sag.nd rfl (by first | exact Or.inl rfl | exact Or.inr rfl)) (gfs_nil)))) (bk_cons ((as_set (i := 7) sc_greatest_sag.nd rfl (by first | exact Or.inl rfl | exact Or.inr rfl) (ef_f 5 h_sag hr (by omega) (by rfl) (af_cons (ev 0) (af_cons (ev 1) (af_cons (ev 2) (af_cons (ev 3) (af_cons (ev 5) (af_nil)))))) (al_cons (al_cons (al_cons (al_cons (al_cons (al_nil)))))))).f []) (bk_one (sf_if ((wf_or (bf_cmp od_is (ev 4) (ef_non)) (wf_or1 (bf_tru (ef_f 2 h_less hr (by omega) (by rfl) (af_cons (ef_ix (ev 4) (ef_int)) (af_cons (ev 7) (af_nil))) (al_cons (al_cons (al_nil))))))).bf) (bk_one ((as_set (i := 4) sc_greatest_sag.nd rfl (by first | exact Or.inl rfl | exact Or.inr rfl) (ef_tup (af_cons (ev 7) (af_cons (ev 5) (af_nil))))).f [])) (bk_nil))))) (bk_one (sf_retF [] (ev 4))))
theorem ok_greatest_sag (h_less : Fn P w K mg base "less" 1 ["a", "b"] (spF K 2 m_less)) (h_sag : Fn P w K mg base "sag" 6 ["left", "right", "loads", "pull", "place"] (spF K 5 m_sag)) {f : Addr} {fd : FuncData} (F : Fun K "greatest_sag" "greatest_sag" s_greatest_sag f fd) (hm : mg "greatest_sag" = some (.ref f)) : Fn P w K mg base "greatest_sag" 7 ["left", "right", "loads", "pull"] (spF K 4 m_greatest_sag) :=
  ⟨f, fd, (fn_F F sc_greatest_sag (bd_greatest_sag    h_less h_sag) :), hm, F.kp, (F.binds (ps := ["left", "right", "loads", "pull"]) fun _ _ _ _ _ _ us hl => match us, hl with | [_, _, _, _], _ => rfl)⟩
abbrev s_pull_through : Stmt := topS 16
theorem sc_pull_through : FnScope ["left", "right", "loads", "point", "whole", "slope", "wanted", "pull"] ["left", "right", "loads", "point"] (defScope s_pull_through) := ⟨rfl, rfl, rfl, by decide +kernel, rfl, by decide +kernel, by decide +kernel⟩
theorem bd_pull_through (g_NOUGHT : Gc K mg "NOUGHT" c_NOUGHT) (h_plus : Fn P w K mg base "plus" 2 ["a", "b"] (spF K 2 m_plus)) (h_minus : Fn P w K mg base "minus" 2 ["a", "b"] (spF K 2 m_minus)) (h_times : Fn P w K mg base "times" 2 ["a", "b"] (spF K 2 m_times)) (h_over : Fn P w K mg base "over" 2 ["a", "b"] (spF K 2 m_over)) (h_less : Fn P w K mg base "less" 1 ["a", "b"] (spF K 2 m_less)) (h_sag : Fn P w K mg base "sag" 6 ["left", "right", "loads", "pull", "place"] (spF K 5 m_sag)) {f : Addr} : Body P w K mg base ["left", "right", "loads", "point", "whole", "slope", "wanted", "pull"] "pull_through" s_pull_through f 6 b_pull_through := fun cdv A outer s H E hr => by
  show BkF _ (defBody s_pull_through) b_pull_through
  exact bk_cons ((as_set (i := 4) sc_pull_through.nd rfl (by first | exact Or.inl rfl | exact Or.inr rfl) (ef_f 5 h_sag hr (by omega) (by rfl) (af_cons (ev 0) (af_cons (ev 1) (af_cons (ev 2) (af_cons (ef_tup (af_cons (ef_int) (af_cons (ef_int) (af_nil)))) (af_cons (ef_ix (ev 3) (ef_int)) (af_nil)))))) (al_cons (al_cons (al_cons (al_cons (al_cons (al_nil)))))))).f []) (bk_cons ((as_set (i := 5) sc_pull_through.nd rfl (by first | exact Or.inl rfl | exact Or.inr rfl) (ef_f 2 h_over hr (by omega) (by rfl) (af_cons (ef_f 2 h_minus hr (by omega) (by rfl) (af_cons (ef_ix (ev 1) (ef_int)) (af_cons (ef_ix (ev 0) (ef_int)) (af_nil))) (al_cons (al_cons (al_nil)))) (af_cons (ef_f 2 h_minus hr (by omega) (by rfl) (af_cons (ef_ix (ev 1) (ef_int)) (af_cons (ef_ix (ev 0) (ef_int)) (af_nil))) (al_cons (al_cons (al_nil)))) (af_nil))) (al_cons (al_cons (al_nil))))).f []) (bk_cons ((as_set (i := 6) sc_pull_through.nd rfl (by first | exact Or.inl rfl | exact Or.inr rfl) (ef_f 2 h_minus hr (by omega) (by rfl) (af_cons (ef_f 2 h_plus hr (by omega) (by rfl) (af_cons (ef_ix (ev 0) (ef_int)) (af_cons (ef_f 2 h_times hr (by omega) (by rfl) (af_cons (ev 5) (af_cons (ef_f 2 h_minus hr (by omega) (by rfl) (af_cons (ef_ix (ev 3) (ef_int)) (af_cons (ef_ix (ev 0) (ef_int)) (af_nil))) (al_cons (al_cons (al_nil)))) (af_nil))) (al_cons (al_cons (al_nil)))) (af_nil))) (al_cons (al_cons (al_nil)))) (af_cons (ef_ix (ev 3) (ef_int)) (af_nil))) (al_cons (al_cons (al_nil))))).f []) (bk_cons (sf_if ((wf_or (bf_cmp (od_eq hr.units) (ev 6) (ef_glob g_NOUGHT (by rfl))) (wf_or1 (bf_cmp (od_eq hr.units) (ev 4) (ef_glob g_NOUGHT (by rfl))))).bf) (bk_one (sf_retF [] (ef_non))) (bk_nil)) (bk_cons ((as_set (i := 7) sc_pull_through.nd rfl (by first | exact Or.inl rfl | exact Or.inr rfl) (ef_f 2 h_over hr (by omega) (by rfl) (af_cons (ev 4) (af_cons (ev 6) (af_nil))) (al_cons (al_cons (al_nil))))).f []) (bk_one (sf_retF [] (ef_ite (bf_tru (ef_f 2 h_less hr (by omega) (by rfl) (af_cons (ef_glob g_NOUGHT (by rfl)) (af_cons (ev 7) (af_nil))) (al_cons (al_cons (al_nil))))) (ev 7) (ef_non))))))))
theorem ok_pull_through (g_NOUGHT : Gc K mg "NOUGHT" c_NOUGHT) (h_plus : Fn P w K mg base "plus" 2 ["a", "b"] (spF K 2 m_plus)) (h_minus : Fn P w K mg base "minus" 2 ["a", "b"] (spF K 2 m_minus)) (h_times : Fn P w K mg base "times" 2 ["a", "b"] (spF K 2 m_times)) (h_over : Fn P w K mg base "over" 2 ["a", "b"] (spF K 2 m_over)) (h_less : Fn P w K mg base "less" 1 ["a", "b"] (spF K 2 m_less)) (h_sag : Fn P w K mg base "sag" 6 ["left", "right", "loads", "pull", "place"] (spF K 5 m_sag)) {f : Addr} {fd : FuncData} (F : Fun K "pull_through" "pull_through" s_pull_through f fd) (hm : mg "pull_through" = some (.ref f)) : Fn P w K mg base "pull_through" 7 ["left", "right", "loads", "point"] (spF K 4 m_pull_through) :=
  ⟨f, fd, (fn_F F sc_pull_through (bd_pull_through  g_NOUGHT  h_plus h_minus h_times h_over h_less h_sag) :), hm, F.kp, (F.binds (ps := ["left", "right", "loads", "point"]) fun _ _ _ _ _ _ us hl => match us, hl with | [_, _, _, _], _ => rfl)⟩
abbrev s_loads_of : Stmt := topS 17
theorem sc_loads_of : FnScope ["told", "pull", "found", "one", "here", "other", "before", "behind"] ["told", "pull"] (defScope s_loads_of) := ⟨rfl, rfl, rfl, by decide +kernel, rfl, by decide +kernel, by decide +kernel⟩
theorem bd_loads_of (z_zip : mg "zip" = none) (h_minus : Fn P w K mg base "minus" 2 ["a", "b"] (spF K 2 m_minus)) (h_times : Fn P w K mg base "times" 2 ["a", "b"] (spF K 2 m_times)) (h_over : Fn P w K mg base "over" 2 ["a", "b"] (spF K 2 m_over)) {f : Addr} : Body P w K mg base ["told", "pull", "found", "one", "here", "other", "before", "behind"] "loads_of" s_loads_of f 2 b_loads_of := fun cdv A outer s H E hr => by
  show BkF _ (defBody s_loads_of) b_loads_of
  exact bk_cons ((asl_set (i := 2) sc_loads_of.nd rfl (by first | exact Or.inl rfl | exact Or.inr rfl) (lf_lst (af_nil))).o []) (bk_cons (sf_for [] PassesOwn.never rfl (if_z3 (by rfl) z_zip (af_cons (ev 0) (af_cons (ef_sl (ev 0) (of_some (ef_int)) (of_none)) (af_cons (ef_sl (ev 0) (of_some (ef_int)) (of_none)) (af_nil))))) (gf_tl 3 rfl (gfs_cons (gf_name (i := 3) sc_loads_of.nd rfl (by first | exact Or.inl rfl | exact Or.inr rfl)) (gfs_cons (gf_name (i := 4) sc_loads_of.nd rfl (by first | exact Or.inl rfl | exact Or.inr rfl)) (gfs_cons (gf_name (i := 5) sc_loads_of.nd rfl (by first | exact Or.inl rfl | exact Or.inr rfl)) (gfs_nil))))) (bk_cons ((as_set (i := 6) sc_loads_of.nd rfl (by first | exact Or.inl rfl | exact Or.inr rfl) (ef_f 2 h_over hr (by omega) (by rfl) (af_cons (ef_f 2 h_minus hr (by omega) (by rfl) (af_cons (ef_ix (ev 4) (ef_int)) (af_cons (ef_ix (ev 3) (ef_int)) (af_nil))) (al_cons (al_cons (al_nil)))) (af_cons (ef_f 2 h_minus hr (by omega) (by rfl) (af_cons (ef_ix (ev 4) (ef_int)) (af_cons (ef_ix (ev 3) (ef_int)) (af_nil))) (al_cons (al_cons (al_nil)))) (af_nil))) (al_cons (al_cons (al_nil))))).f []) (bk_cons ((as_set (i := 7) sc_loads_of.nd rfl (by first | exact Or.inl rfl | exact Or.inr rfl) (ef_f 2 h_over hr (by omega) (by rfl) (af_cons (ef_f 2 h_minus hr (by omega) (by rfl) (af_cons (ef_ix (ev 5) (ef_int)) (af_cons (ef_ix (ev 4) (ef_int)) (af_nil))) (al_cons (al_cons (al_nil)))) (af_cons (ef_f 2 h_minus hr (by omega) (by rfl) (af_cons (ef_ix (ev 5) (ef_int)) (af_cons (ef_ix (ev 4) (ef_int)) (af_nil))) (al_cons (al_cons (al_nil)))) (af_nil))) (al_cons (al_cons (al_nil))))).f []) (bk_one (sf_appF [] (mt_of (ef_tup (af_cons (ef_ix (ev 4) (ef_int)) (af_cons (ef_f 2 h_times hr (by omega) (by rfl) (af_cons (ev 1) (af_cons (ef_f 2 h_minus hr (by omega) (by rfl) (af_cons (ev 7) (af_cons (ev 6) (af_nil))) (al_cons (al_cons (al_nil)))) (af_nil))) (al_cons (al_cons (al_nil)))) (af_nil)))) (fun te h => ps_expr (pe_bm PySem.F.plainAttrs_list PySem.F.slot_list_append PySem.F.type_list_append mt_append (pv 2) (pa_cons h pa_nil))))))))) (bk_one (sf_retO 2)))
theorem ok_loads_of (z_zip : mg "zip" = none) (h_minus : Fn P w K mg base "minus" 2 ["a", "b"] (spF K 2 m_minus)) (h_times : Fn P w K mg base "times" 2 ["a", "b"] (spF K 2 m_times)) (h_over : Fn P w K mg base "over" 2 ["a", "b"] (spF K 2 m_over)) {f : Addr} {fd : FuncData} (F : Fun K "loads_of" "loads_of" s_loads_of f fd) (hm : mg "loads_of" = some (.ref f)) : Fn P w K mg base "loads_of" 3 ["told", "pull"] (spL K 2 m_loads_of) :=
  ⟨f, fd, (fn_L F sc_loads_of (bd_loads_of z_zip   h_minus h_times h_over) :), hm, F.kp, (F.binds (ps := ["told", "pull"]) fun _ _ _ _ _ _ us hl => match us, hl with | [_, _], _ => rfl)⟩
abbrev s_end_pulls : Stmt := topS 18
theorem sc_end_pulls : FnScope ["left", "right", "loads", "pull", "told"] ["left", "right", "loads", "pull"] (defScope s_end_pulls) := ⟨rfl, rfl, rfl, by decide +kernel, rfl, by decide +kernel, by decide +kernel⟩
theorem bd_end_pulls (g_NOUGHT : Gc K mg "NOUGHT" c_NOUGHT) (h_minus : Fn P w K mg base "minus" 2 ["a", "b"] (spF K 2 m_minus)) (h_times : Fn P w K mg base "times" 2 ["a", "b"] (spF K 2 m_times)) (h_slopes : Fn P w K mg base "slopes" 3 ["left", "right", "loads", "pull"] (spL K 4 m_slopes)) {f : Addr} : Body P w K mg base ["left", "right", "loads", "pull", "told"] "end_pulls" s_end_pulls f 3 b_end_pulls := fun cdv A outer s H E hr => by
  show BkF _ (defBody s_end_pulls) b_end_pulls
  exact bk_cons ((as_set (i := 4) sc_end_pulls.nd rfl (by first | exact Or.inl rfl | exact Or.inr rfl) ((lf_f 4 h_slopes hr (by omega) (by rfl) (af_cons (ev 0) (af_cons (ev 1) (af_cons (ev 2) (af_cons (ev 3) (af_nil))))) (al_cons (al_cons (al_cons (al_cons (al_nil)))))).ef)).f []) (bk_one (sf_retF [] (ef_tup (af_cons (ef_f 2 h_minus hr (by omega) (by rfl) (af_cons (ef_glob g_NOUGHT (by rfl)) (af_cons (ef_f 2 h_times hr (by omega) (by rfl) (af_cons (ev 3) (af_cons (ef_ix (ev 4) (ef_int)) (af_nil))) (al_cons (al_cons (al_nil)))) (af_nil))) (al_cons (al_cons (al_nil)))) (af_cons (ef_f 2 h_times hr (by omega) (by rfl) (af_cons (ev 3) (af_cons (ef_ix (ev 4) (ef_un ud_neg (ef_int))) (af_nil))) (al_cons (al_cons (al_nil)))) (af_nil))))))
theorem ok_end_pulls (g_NOUGHT : Gc K mg "NOUGHT" c_NOUGHT) (h_minus : Fn P w K mg base "minus" 2 ["a", "b"] (spF K 2 m_minus)) (h_times : Fn P w K mg base "times" 2 ["a", "b"] (spF K 2 m_times)) (h_slopes : Fn P w K mg base "slopes" 3 ["left", "right", "loads", "pull"] (spL K 4 m_slopes)) {f : Addr} {fd : FuncData} (F : Fun K "end_pulls" "end_pulls" s_end_pulls f fd) (hm : mg "end_pulls" = some (.ref f)) : Fn P w K mg base "end_pulls" 4 ["left", "right", "loads", "pull"] (spF K 4 m_end_pulls) :=
  ⟨f, fd, (fn_F F sc_end_pulls (bd_end_pulls  g_NOUGHT  h_minus h_times h_slopes) :), hm, F.kp, (F.binds (ps := ["left", "right", "loads", "pull"]) fun _ _ _ _ _ _ us hl => match us, hl with | [_, _, _, _], _ => rfl)⟩
abbrev s_whole_load : Stmt := topS 19
theorem sc_whole_load : FnScope ["loads", "_", "load"] ["loads"] (defScope s_whole_load) := ⟨rfl, rfl, rfl, by decide +kernel, rfl, by decide +kernel, by decide +kernel⟩
theorem bd_whole_load (h_sum_of : Fn P w K mg base "sum_of" 3 ["numbers"] (spF K 1 m_sum_of)) {f : Addr} : Body P w K mg base ["loads", "_", "load"] "whole_load" s_whole_load f 3 b_whole_load := fun cdv A outer s H E hr => by
  show BkF _ (defBody s_whole_load) b_whole_load
  exact bk_one (sf_retF [] (ef_f 1 h_sum_of hr (by omega) (by rfl) (af_cons ((lf_lc (own := [("_", 1), ("load", 2)]) rfl sc_whole_load.nd (blkOk_by (by first | decide +kernel | kernel_rfl | rfl)) (if_seq (ev 0)) (fun _ _ _ _ _ => ge_tl 2 rfl (ges_cons (ge_name (i := 1) sc_whole_load.nd rfl (by first | exact Or.inl rfl | exact Or.inr rfl)) (ges_cons (ge_name (i := 2) sc_whole_load.nd rfl (by first | exact Or.inl rfl | exact Or.inr rfl)) (ges_nil)))) (fun _ _ _ _ _ => ts_nil) (fun _ _ _ _ _ => ev 2) (by decide)).ef) (af_nil)) (al_cons (al_nil))))
theorem ok_whole_load (h_sum_of : Fn P w K mg base "sum_of" 3 ["numbers"] (spF K 1 m_sum_of)) {f : Addr} {fd : FuncData} (F : Fun K "whole_load" "whole_load" s_whole_load f fd) (hm : mg "whole_load" = some (.ref f)) : Fn P w K mg base "whole_load" 4 ["loads"] (spF K 1 m_whole_load) :=
  ⟨f, fd, (fn_F F sc_whole_load (bd_whole_load    h_sum_of) :), hm, F.kp, (F.binds (ps := ["loads"]) fun _ _ _ _ _ _ us hl => match us, hl with | [_], _ => rfl)⟩
abbrev s__law_mixed : Stmt := topS 21
theorem sc__law_mixed : FnScope ["number", "place", "first", "second", "third"] ["number", "place"] (defScope s__law_mixed) := ⟨rfl, rfl, rfl, by decide +kernel, rfl, by decide +kernel, by decide +kernel⟩
theorem bd__law_mixed (z_int : mg "int" = none) {f : Addr} : Body P w K mg base ["number", "place", "first", "second", "third"] "_law_mixed" s__law_mixed f 0 b__law_mixed := fun cdv A outer s H E hr => by
  show BkF _ (defBody s__law_mixed) b__law_mixed
  exact bk_cons ((as_set (i := 2) sc__law_mixed.nd rfl (by first | exact Or.inl rfl | exact Or.inr rfl) (ef_op od_mod (ef_callTy cd_int (by rfl) z_int (by decide +kernel) (af_cons (ef_op od_add (ef_op od_add (ef_op od_mul (ev 0) (ef_int)) (ef_op od_mul (ev 1) (ef_int))) (ef_int)) (af_nil))) (ef_int))).f []) (bk_cons ((as_set (i := 3) sc__law_mixed.nd rfl (by first | exact Or.inl rfl | exact Or.inr rfl) (ef_op od_mod (ef_callTy cd_int (by rfl) z_int (by decide +kernel) (af_cons (ef_op od_add (ef_op od_add (ef_op od_mul (ev 2) (ev 2)) (ef_op od_mul (ef_int) (ev 2))) (ev 1)) (af_nil))) (ef_int))).f []) (bk_cons ((as_set (i := 4) sc__law_mixed.nd rfl (by first | exact Or.inl rfl | exact Or.inr rfl) (ef_op od_mod (ef_callTy cd_int (by rfl) z_int (by decide +kernel) (af_cons (ef_op od_add (ef_op od_mul (ev 3) (ev 3)) (ev 2)) (af_nil))) (ef_int))).f []) (bk_one (sf_retF [] (ef_op od_add (ef_op od_mul (ev 3) (ef_int)) (ev 4))))))
theorem ok__law_mixed (z_int : mg "int" = none) {f : Addr} {fd : FuncData} (F : Fun K "_law_mixed" "_law_mixed" s__law_mixed f fd) (hm : mg "_law_mixed" = some (.ref f)) : Fn P w K mg base "_law_mixed" 1 ["number", "place"] (spF K 2 m__law_mixed) :=
  ⟨f, fd, (fn_F F sc__law_mixed (bd__law_mixed z_int   ) :), hm, F.kp, (F.binds (ps := ["number", "place"]) fun _ _ _ _ _ _ us hl => match us, hl with | [_, _], _ => rfl)⟩
abbrev s__law_rest : Stmt := topS 22
theorem sc__law_rest : FnScope ["script", "place", "fills", "number"] ["script", "place", "fills"] (defScope s__law_rest) := ⟨rfl, rfl, rfl, by decide +kernel, rfl, by decide +kernel, by decide +kernel⟩
theorem bd__law_rest (z_int : mg "int" = none) (z_len : mg "len" = none) (h__law_mixed : Fn P w K mg base "_law_mixed" 1 ["number", "place"] (spF K 2 m__law_mixed)) {f : Addr} : Body P w K mg base ["script", "place", "fills", "number"] "_law_rest" s__law_rest f 1 b__law_rest := fun cdv A outer s H E hr => by
  show BkF _ (defBody s__law_rest) b__law_rest
  exact bk_cons ((as_set (i := 3) sc__law_rest.nd rfl (by first | exact Or.inl rfl | exact Or.inr rfl) (ef_int)).f []) (bk_cons (sf_if (bf_cmp od_gt (ef_callB cd_len (by rfl) z_len (by decide +kernel) (af_cons (ev 0) (af_nil))) (ef_int)) (bk_one ((as_set (i := 3) sc__law_rest.nd rfl (by first | exact Or.inl rfl | exact Or.inr rfl) (ef_callTy cd_int (by rfl) z_int (by decide +kernel) (af_cons (ef_ix (ev 0) (ef_op od_mod (ef_callTy cd_int (by rfl) z_int (by decide +kernel) (af_cons (ev 1) (af_nil))) (ef_callB cd_len (by rfl) z_len (by decide +kernel) (af_cons (ev 0) (af_nil))))) (af_nil)))).f [])) (bk_nil)) (bk_cons (sf_if (bf_cmp od_lt (ev 3) (ef_int)) (bk_one ((as_set (i := 3) sc__law_rest.nd rfl (by first | exact Or.inl rfl | exact Or.inr rfl) (ef_op od_sub (ef_int) (ef_op od_mul (ef_int) (ev 3)))).f [])) (bk_nil)) (bk_cons (sf_if ((wf_and (bf_cmp (od_eq hr.units) (ev 2) (ef_int)) (wf_and (bf_cmp od_lt (ev 1) (ef_callB cd_len (by rfl) z_len (by decide +kernel) (af_cons (ev 0) (af_nil)))) (wf_and1 (bf_cmp od_ge (ev 3) (ef_op od_pow (ef_int) (ef_int)))))).bf) (bk_one (sf_retF [] (ef_op od_sub (ev 3) (ef_op od_pow (ef_int) (ef_int))))) (bk_nil)) (bk_one (sf_retF [] (ef_f 2 h__law_mixed hr (by omega) (by rfl) (af_cons (ef_op od_add (ev 3) (ef_op od_mul (ev 2) (ef_int))) (af_cons (ev 1) (af_nil))) (al_cons (al_cons (al_nil)))))))))
theorem ok__law_rest (z_int : mg "int" = none) (z_len : mg "len" = none) (h__law_mixed : Fn P w K mg base "_law_mixed" 1 ["number", "place"] (spF K 2 m__law_mixed)) {f : Addr} {fd : FuncData} (F : Fun K "_law_rest" "_law_rest" s__law_rest f fd) (hm : mg "_law_rest" = some (.ref f)) : Fn P w K mg base "_law_rest" 2 ["script", "place", "fills"] (spF K 3 m__law_rest) :=
  ⟨f, fd, (fn_F F sc__law_rest (bd__law_rest z_int z_len   h__law_mixed) :), hm, F.kp, (F.binds (ps := ["script", "place", "fills"]) fun _ _ _ _ _ _ us hl => match us, hl with | [_, _, _], _ => rfl)⟩
abbrev s__law_pool : Stmt := topS 23
theorem sc__law_pool : FnScope ["script"] ["script"] (defScope s__law_pool) := ⟨rfl, rfl, rfl, by decide +kernel, rfl, by decide +kernel, by decide +kernel⟩
theorem bd__law_pool (h__law_rest : Fn P w K mg base "_law_rest" 2 ["script", "place", "fills"] (spF K 3 m__law_rest)) {f : Addr} : Body P w K mg base ["script"] "_law_pool" s__law_pool f 2 b__law_pool := fun cdv A outer s H E hr => by
  show BkF _ (defBody s__law_pool) b__law_pool
  exact bk_one (sf_retL [] (lf_lst (af_cons (ev 0) (af_cons (ef_int) (af_cons (ef_f 3 h__law_rest hr (by omega) (by rfl) (af_cons (ev 0) (af_cons (ef_int) (af_cons (ef_int) (af_nil)))) (al_cons (al_cons (al_cons (al_nil))))) (af_cons (ef_int) (af_nil)))))))
theorem ok__law_pool (h__law_rest : Fn P w K mg base "_law_rest" 2 ["script", "place", "fills"] (spF K 3 m__law_rest)) {f : Addr} {fd : FuncData} (F : Fun K "_law_pool" "_law_pool" s__law_pool f fd) (hm : mg "_law_pool" = some (.ref f)) : Fn P w K mg base "_law_pool" 3 ["script"] (spL K 1 m__law_pool) :=
  ⟨f, fd, (fn_L F sc__law_pool (bd__law_pool    h__law_rest) :), hm, F.kp, (F.binds (ps := ["script"]) fun _ _ _ _ _ _ us hl => match us, hl with | [_], _ => rfl)⟩
abbrev s__law_next : Stmt := topS 24
theorem sc__law_next : FnScope ["pool"] ["pool"] (defScope s__law_next) := ⟨rfl, rfl, rfl, by decide +kernel, rfl, by decide +kernel, by decide +kernel⟩
theorem bd__law_next (h__law_rest : Fn P w K mg base "_law_rest" 2 ["script", "place", "fills"] (spF K 3 m__law_rest)) {f : Addr} : Body P w K mg base ["pool"] "_law_next" s__law_next f 2 b__law_next := fun cdv A outer s H E hr => by
  show BkF _ (defBody s__law_next) b__law_next
  exact bk_cons (sf_pset (ef_op od_add (ef_pix 0 1) (ef_int)) (fun te h => ps_asg h (pg_sub (pv 0) pe_int set_list))) (bk_cons (sf_pset (ef_f 3 h__law_rest hr (by omega) (by rfl) (af_cons (ef_pix 0 0) (af_cons (ef_pix 0 1) (af_cons (ef_int) (af_nil)))) (al_cons (al_cons (al_cons (al_nil))))) (fun te h => ps_asg h (pg_sub (pv 0) pe_int set_list))) (bk_one (sf_pset (ef_int) (fun te h => ps_asg h (pg_sub (pv 0) pe_int set_list)))))
theorem ok__law_next (h__law_rest : Fn P w K mg base "_law_rest" 2 ["script", "place", "fills"] (spF K 3 m__law_rest)) {f : Addr} {fd : FuncData} (F : Fun K "_law_next" "_law_next" s__law_next f fd) (hm : mg "_law_next" = some (.ref f)) : Fn P w K mg base "_law_next" 3 ["pool"] (spP K 1 m__law_next) :=
  ⟨f, fd, (fn_P F sc__law_next (bd__law_next    h__law_rest) :), hm, F.kp, (F.binds (ps := ["pool"]) fun _ _ _ _ _ _ us hl => match us, hl with | [_], _ => rfl)⟩
abbrev s__law_draw : Stmt := topS 25
theorem sc__law_draw : FnScope ["pool", "limit", "value"] ["pool", "limit"] (defScope s__law_draw) := ⟨rfl, rfl, rfl, by decide +kernel, rfl, by decide +kernel, by decide +kernel⟩
theorem bd__law_draw (z_int : mg "int" = none) (h__law_rest : Fn P w K mg base "_law_rest" 2 ["script", "place", "fills"] (spF K 3 m__law_rest)) {f : Addr} : Body P w K mg base ["pool", "limit", "value"] "_law_draw" s__law_draw f 2 b__law_draw := fun cdv A outer s H E hr => by
  show BkF _ (defBody s__law_draw) b__law_draw
  exact bk_cons (sf_if (bf_cmp od_le (ef_pix 0 2) (ef_int)) (bk_cons (sf_pset (ef_op od_add (ef_pix 0 3) (ef_int)) (fun te h => ps_asg h (pg_sub (pv 0) pe_int set_list))) (bk_one (sf_pset (ef_f 3 h__law_rest hr (by omega) (by rfl) (af_cons (ef_pix 0 0) (af_cons (ef_pix 0 1) (af_cons (ef_pix 0 3) (af_nil)))) (al_cons (al_cons (al_cons (al_nil))))) (fun te h => ps_asg h (pg_sub (pv 0) pe_int set_list))))) (bk_nil)) (bk_cons ((as_set (i := 2) sc__law_draw.nd rfl (by first | exact Or.inl rfl | exact Or.inr rfl) (ef_op od_mod (ef_callTy cd_int (by rfl) z_int (by decide +kernel) (af_cons (ef_pix 0 2) (af_nil))) (ev 1))).f []) (bk_cons (sf_pset (ef_op od_fdiv (ef_callTy cd_int (by rfl) z_int (by decide +kernel) (af_cons (ef_pix 0 2) (af_nil))) (ev 1)) (fun te h => ps_asg h (pg_sub (pv 0) pe_int set_list))) (bk_one (sf_retF [] (ev 2)))))
theorem ok__law_draw (z_int : mg "int" = none) (h__law_rest : Fn P w K mg base "_law_rest" 2 ["script", "place", "fills"] (spF K 3 m__law_rest)) {f : Addr} {fd : FuncData} (F : Fun K "_law_draw" "_law_draw" s__law_draw f fd) (hm : mg "_law_draw" = some (.ref f)) : Fn P w K mg base "_law_draw" 3 ["pool", "limit"] (spP K 2 m__law_draw) :=
  ⟨f, fd, (fn_P F sc__law_draw (bd__law_draw z_int   h__law_rest) :), hm, F.kp, (F.binds (ps := ["pool", "limit"]) fun _ _ _ _ _ _ us hl => match us, hl with | [_, _], _ => rfl)⟩
abbrev s__law_pick : Stmt := topS 26
theorem sc__law_pick : FnScope ["pool", "options"] ["pool", "options"] (defScope s__law_pick) := ⟨rfl, rfl, rfl, by decide +kernel, rfl, by decide +kernel, by decide +kernel⟩
theorem bd__law_pick (z_len : mg "len" = none) (h__law_draw : Fn P w K mg base "_law_draw" 3 ["pool", "limit"] (spP K 2 m__law_draw)) {f : Addr} : Body P w K mg base ["pool", "options"] "_law_pick" s__law_pick f 3 b__law_pick := fun cdv A outer s H E hr => by
  show BkF _ (defBody s__law_pick) b__law_pick
  exact bk_one (sf_retF [] (ef_ix (ev 1) (ef_p 1 0 h__law_draw hr (by omega) (by rfl) (af_cons (ef_callB cd_len (by rfl) z_len (by decide +kernel) (af_cons (ev 1) (af_nil))) (af_nil)) (al_cons (al_nil)))))
theorem ok__law_pick (z_len : mg "len" = none) (h__law_draw : Fn P w K mg base "_law_draw" 3 ["pool", "limit"] (spP K 2 m__law_draw)) {f : Addr} {fd : FuncData} (F : Fun K "_law_pick" "_law_pick" s__law_pick f fd) (hm : mg "_law_pick" = some (.ref f)) : Fn P w K mg base "_law_pick" 4 ["pool", "options"] (spP K 2 m__law_pick) :=
  ⟨f, fd, (fn_P F sc__law_pick (bd__law_pick z_len   h__law_draw) :), hm, F.kp, (F.binds (ps := ["pool", "options"]) fun _ _ _ _ _ _ us hl => match us, hl with | [_, _], _ => rfl)⟩
abbrev s__law_same : Stmt := topS 27
theorem sc__law_same : FnScope ["answer", "due", "k", "key"] ["answer", "due"] (defScope s__law_same) := ⟨rfl, rfl, rfl, by decide +kernel, rfl, by decide +kernel, by decide +kernel⟩
theorem bd__law_same (z_bool : mg "bool" = none) (z_dict : mg "dict" = none) (z_int : mg "int" = none) (z_isinstance : mg "isinstance" = none) (z_len : mg "len" = none) (z_list : mg "list" = none) (z_range : mg "range" = none) (z_str : mg "str" = none) (z_tuple : mg "tuple" = none) {f : Addr} (i : Nat) (h__law_same : Fn P w K mg base "_law_same" (1 + i) ["answer", "due"] (spF K 2 (m__law_same i))) : Body P w K mg base ["answer", "due", "k", "key"] "_law_same" s__law_same f (1 + i) (b__law_same (m__law_same i)) := fun cdv A outer s H E hr => by
  show BkF _ (defBody s__law_same) (b__law_same (m__law_same i))
  exact bk_cons (sf_if ((wf_or (bf_cmp od_is (ev 1) (ef_non)) (wf_or (bf_cmp od_is (ev 1) (ef_bl)) (wf_or1 (bf_cmp od_is (ev 1) (ef_bl))))).bf) (bk_one (sf_retF [] (ef_orr (ef_and (ef_cmp od_is (ev 1) (ef_non)) (ef_one (ef_cmp od_is (ev 0) (ef_non)))) (ef_orr (ef_and (ef_cmp od_is (ev 1) (ef_bl)) (ef_one (ef_cmp od_is (ev 0) (ef_bl)))) (ef_one (ef_and (ef_cmp od_is (ev 1) (ef_bl)) (ef_one (ef_cmp od_is (ev 0) (ef_bl))))))))) (bk_nil)) (bk_cons (sf_if (bf_tru (ef_isi "int" (by decide) (ev 1) (by rfl) z_isinstance (by rfl) z_int (by decide +kernel))) (bk_one (sf_retF [] (ef_and (ef_isi "int" (by decide) (ev 0) (by rfl) z_isinstance (by rfl) z_int (by decide +kernel)) (ef_and (ef_notV (ef_isi "bool" (by decide) (ev 0) (by rfl) z_isinstance (by rfl) z_bool (by decide +kernel))) (ef_one (ef_cmp (od_eq hr.units) (ev 0) (ev 1))))))) (bk_nil)) (bk_cons (sf_if (bf_tru (ef_isi "str" (by decide) (ev 1) (by rfl) z_isinstance (by rfl) z_str (by decide +kernel))) (bk_one (sf_retF [] (ef_and (ef_isi "str" (by decide) (ev 0) (by rfl) z_isinstance (by rfl) z_str (by decide +kernel)) (ef_one (ef_cmp (od_eq hr.units) (ev 0) (ev 1)))))) (bk_nil)) (bk_cons (sf_if (bf_tru (ef_isi "dict" (by decide) (ev 1) (by rfl) z_isinstance (by rfl) z_dict (by decide +kernel))) (bk_cons (sf_if ((wf_or (bf_not (bf_tru (ef_isi "dict" (by decide) (ev 0) (by rfl) z_isinstance (by rfl) z_dict (by decide +kernel)))) (wf_or1 (bf_cmp (od_ne hr.units) (ef_callB cd_len (by rfl) z_len (by decide +kernel) (af_cons (ev 0) (af_nil))) (ef_callB cd_len (by rfl) z_len (by decide +kernel) (af_cons (ev 1) (af_nil)))))).bf) (bk_one (sf_retF [] (ef_bl))) (bk_nil)) (bk_cons (sf_for [] PassesOwn.never rfl (if_seq (ev 1)) (gf_name (i := 3) sc__law_same.nd rfl (by first | exact Or.inl rfl | exact Or.inr rfl)) (bk_one (sf_if ((wf_or (bf_cmp (od_notIn (u65 hr)) (ev 3) (ev 0)) (wf_or1 (bf_not (bf_tru (ef_f 2 h__law_same hr (by omega) (by rfl) (af_cons (ef_ix (ev 0) (ev 3)) (af_cons (ef_ix (ev 1) (ev 3)) (af_nil))) (al_cons (al_cons (al_nil)))))))).bf) (bk_one (sf_retF [] (ef_bl))) (bk_nil)))) (bk_one (sf_retF [] (ef_bl))))) (bk_nil)) (bk_cons (sf_if ((wf_and (bf_tru (ef_isi "tuple" (by decide) (ev 1) (by rfl) z_isinstance (by rfl) z_tuple (by decide +kernel))) (wf_and1 (bf_not (bf_tru (ef_isi "tuple" (by decide) (ev 0) (by rfl) z_isinstance (by rfl) z_tuple (by decide +kernel)))))).bf) (bk_one (sf_retF [] (ef_bl))) (bk_nil)) (bk_cons (sf_if ((wf_and (bf_tru (ef_isi "list" (by decide) (ev 1) (by rfl) z_isinstance (by rfl) z_list (by decide +kernel))) (wf_and1 (bf_not (bf_tru (ef_isi "list" (by decide) (ev 0) (by rfl) z_isinstance (by rfl) z_list (by decide +kernel)))))).bf) (bk_one (sf_retF [] (ef_bl))) (bk_nil)) (bk_cons (sf_if (bf_cmp (od_ne hr.units) (ef_callB cd_len (by rfl) z_len (by decide +kernel) (af_cons (ev 0) (af_nil))) (ef_callB cd_len (by rfl) z_len (by decide +kernel) (af_cons (ev 1) (af_nil)))) (bk_one (sf_retF [] (ef_bl))) (bk_nil)) (bk_cons (sf_for [] PassesOwn.never rfl (if_rng1 (by rfl) z_range (af_cons (ef_callB cd_len (by rfl) z_len (by decide +kernel) (af_cons (ev 1) (af_nil))) (af_nil))) (gf_name (i := 2) sc__law_same.nd rfl (by first | exact Or.inl rfl | exact Or.inr rfl)) (bk_one (sf_if (bf_not (bf_tru (ef_f 2 h__law_same hr (by omega) (by rfl) (af_cons (ef_ix (ev 0) (ev 2)) (af_cons (ef_ix (ev 1) (ev 2)) (af_nil))) (al_cons (al_cons (al_nil)))))) (bk_one (sf_retF [] (ef_bl))) (bk_nil)))) (bk_one (sf_retF [] (ef_bl))))))))))
theorem ok__law_same (z_bool : mg "bool" = none) (z_dict : mg "dict" = none) (z_int : mg "int" = none) (z_isinstance : mg "isinstance" = none) (z_len : mg "len" = none) (z_list : mg "list" = none) (z_range : mg "range" = none) (z_str : mg "str" = none) (z_tuple : mg "tuple" = none) {f : Addr} {fd : FuncData} (F : Fun K "_law_same" "_law_same" s__law_same f fd) (hm : mg "_law_same" = some (.ref f)) : Fn P w K mg base "_law_same" 21 ["answer", "due"] (spF K 2 (m__law_same 20)) :=
  fn_rec (k := 1) m__law_same hm F.kp (F.binds (ps := ["answer", "due"]) fun _ _ _ _ _ _ us hl => match us, hl with | [_, _], _ => rfl) rfl (fun i h => (fn_F F sc__law_same (bd__law_same z_bool z_dict z_int z_isinstance z_len z_list z_range z_str z_tuple    i h) :)) 20
abbrev s__law_gcd : Stmt := topS 28
theorem sc__law_gcd : FnScope ["one", "other", "k"] ["one", "other"] (defScope s__law_gcd) := ⟨rfl, rfl, rfl, by decide +kernel, rfl, by decide +kernel, by decide +kernel⟩
theorem bd__law_gcd (z_int : mg "int" = none) (z_range : mg "range" = none) {f : Addr} : Body P w K mg base ["one", "other", "k"] "_law_gcd" s__law_gcd f 0 b__law_gcd := fun cdv A outer s H E hr => by
  show BkF _ (defBody s__law_gcd) b__law_gcd
  exact bk_cons (sf_for [] PassesOwn.never rfl (if_rng1 (by rfl) z_range (af_cons (ef_int) (af_nil))) (gf_name (i := 2) sc__law_gcd.nd rfl (by first | exact Or.inl rfl | exact Or.inr rfl)) (bk_cons (sf_if (bf_cmp (od_eq hr.units) (ev 1) (ef_int)) (bk_one (sf_brk)) (bk_nil)) (bk_one (sf_par (i := 0) (j := 1) [] rfl sc__law_gcd.nd rfl rfl (by decide) rfl rfl (af_cons (ev 1) (af_cons (ef_op od_mod (ef_callTy cd_int (by rfl) z_int (by decide +kernel) (af_cons (ev 0) (af_nil))) (ev 1)) (af_nil))) (by rfl))))) (bk_one (sf_retF [] (ev 0)))
theorem ok__law_gcd (z_int : mg "int" = none) (z_range : mg "range" = none) {f : Addr} {fd : FuncData} (F : Fun K "_law_gcd" "_law_gcd" s__law_gcd f fd) (hm : mg "_law_gcd" = some (.ref f)) : Fn P w K mg base "_law_gcd" 1 ["one", "other"] (spF K 2 m__law_gcd) :=
  ⟨f, fd, (fn_F F sc__law_gcd (bd__law_gcd z_int z_range   ) :), hm, F.kp, (F.binds (ps := ["one", "other"]) fun _ _ _ _ _ _ us hl => match us, hl with | [_, _], _ => rfl)⟩
abbrev s__law_ratio : Stmt := topS 29
theorem sc__law_ratio : FnScope ["p", "q", "shared"] ["p", "q"] (defScope s__law_ratio) := ⟨rfl, rfl, rfl, by decide +kernel, rfl, by decide +kernel, by decide +kernel⟩
theorem bd__law_ratio (z_abs : mg "abs" = none) (h__law_gcd : Fn P w K mg base "_law_gcd" 1 ["one", "other"] (spF K 2 m__law_gcd)) {f : Addr} : Body P w K mg base ["p", "q", "shared"] "_law_ratio" s__law_ratio f 1 b__law_ratio := fun cdv A outer s H E hr => by
  show BkF _ (defBody s__law_ratio) b__law_ratio
  exact bk_cons (sf_if (bf_cmp od_lt (ev 1) (ef_int)) (bk_one (sf_par (i := 0) (j := 1) [] rfl sc__law_ratio.nd rfl rfl (by decide) rfl rfl (af_cons (ef_un ud_neg (ev 0)) (af_cons (ef_un ud_neg (ev 1)) (af_nil))) (by rfl))) (bk_nil)) (bk_cons ((as_set (i := 2) sc__law_ratio.nd rfl (by first | exact Or.inl rfl | exact Or.inr rfl) (ef_f 2 h__law_gcd hr (by omega) (by rfl) (af_cons (ef_callB cd_abs (by rfl) z_abs (by decide +kernel) (af_cons (ev 0) (af_nil))) (af_cons (ev 1) (af_nil))) (al_cons (al_cons (al_nil))))).f []) (bk_one (sf_retF [] (ef_tup (af_cons (ef_op od_fdiv (ev 0) (ev 2)) (af_cons (ef_op od_fdiv (ev 1) (ev 2)) (af_nil)))))))
theorem ok__law_ratio (z_abs : mg "abs" = none) (h__law_gcd : Fn P w K mg base "_law_gcd" 1 ["one", "other"] (spF K 2 m__law_gcd)) {f : Addr} {fd : FuncData} (F : Fun K "_law_ratio" "_law_ratio" s__law_ratio f fd) (hm : mg "_law_ratio" = some (.ref f)) : Fn P w K mg base "_law_ratio" 2 ["p", "q"] (spF K 2 m__law_ratio) :=
  ⟨f, fd, (fn_F F sc__law_ratio (bd__law_ratio z_abs   h__law_gcd) :), hm, F.kp, (F.binds (ps := ["p", "q"]) fun _ _ _ _ _ _ us hl => match us, hl with | [_, _], _ => rfl)⟩
abbrev s__law_add : Stmt := topS 30
theorem sc__law_add : FnScope ["one", "other"] ["one", "other"] (defScope s__law_add) := ⟨rfl, rfl, rfl, by decide +kernel, rfl, by decide +kernel, by decide +kernel⟩
theorem bd__law_add (h__law_ratio : Fn P w K mg base "_law_ratio" 2 ["p", "q"] (spF K 2 m__law_ratio)) {f : Addr} : Body P w K mg base ["one", "other"] "_law_add" s__law_add f 2 b__law_add := fun cdv A outer s H E hr => by
  show BkF _ (defBody s__law_add) b__law_add
  exact bk_one (sf_retF [] (ef_f 2 h__law_ratio hr (by omega) (by rfl) (af_cons (ef_op od_add (ef_op od_mul (ef_ix (ev 0) (ef_int)) (ef_ix (ev 1) (ef_int))) (ef_op od_mul (ef_ix (ev 1) (ef_int)) (ef_ix (ev 0) (ef_int)))) (af_cons (ef_op od_mul (ef_ix (ev 0) (ef_int)) (ef_ix (ev 1) (ef_int))) (af_nil))) (al_cons (al_cons (al_nil)))))
theorem ok__law_add (h__law_ratio : Fn P w K mg base "_law_ratio" 2 ["p", "q"] (spF K 2 m__law_ratio)) {f : Addr} {fd : FuncData} (F : Fun K "_law_add" "_law_add" s__law_add f fd) (hm : mg "_law_add" = some (.ref f)) : Fn P w K mg base "_law_add" 3 ["one", "other"] (spF K 2 m__law_add) :=
  ⟨f, fd, (fn_F F sc__law_add (bd__law_add    h__law_ratio) :), hm, F.kp, (F.binds (ps := ["one", "other"]) fun _ _ _ _ _ _ us hl => match us, hl with | [_, _], _ => rfl)⟩
abbrev s__law_sub : Stmt := topS 31
theorem sc__law_sub : FnScope ["one", "other"] ["one", "other"] (defScope s__law_sub) := ⟨rfl, rfl, rfl, by decide +kernel, rfl, by decide +kernel, by decide +kernel⟩
theorem bd__law_sub (h__law_ratio : Fn P w K mg base "_law_ratio" 2 ["p", "q"] (spF K 2 m__law_ratio)) {f : Addr} : Body P w K mg base ["one", "other"] "_law_sub" s__law_sub f 2 b__law_sub := fun cdv A outer s H E hr => by
  show BkF _ (defBody s__law_sub) b__law_sub
  exact bk_one (sf_retF [] (ef_f 2 h__law_ratio hr (by omega) (by rfl) (af_cons (ef_op od_sub (ef_op od_mul (ef_ix (ev 0) (ef_int)) (ef_ix (ev 1) (ef_int))) (ef_op od_mul (ef_ix (ev 1) (ef_int)) (ef_ix (ev 0) (ef_int)))) (af_cons (ef_op od_mul (ef_ix (ev 0) (ef_int)) (ef_ix (ev 1) (ef_int))) (af_nil))) (al_cons (al_cons (al_nil)))))
theorem ok__law_sub (h__law_ratio : Fn P w K mg base "_law_ratio" 2 ["p", "q"] (spF K 2 m__law_ratio)) {f : Addr} {fd : FuncData} (F : Fun K "_law_sub" "_law_sub" s__law_sub f fd) (hm : mg "_law_sub" = some (.ref f)) : Fn P w K mg base "_law_sub" 3 ["one", "other"] (spF K 2 m__law_sub) :=
  ⟨f, fd, (fn_F F sc__law_sub (bd__law_sub    h__law_ratio) :), hm, F.kp, (F.binds (ps := ["one", "other"]) fun _ _ _ _ _ _ us hl => match us, hl with | [_, _], _ => rfl)⟩
abbrev s__law_mul : Stmt := topS 32
theorem sc__law_mul : FnScope ["one", "other"] ["one", "other"] (defScope s__law_mul) := ⟨rfl, rfl, rfl, by decide +kernel, rfl, by decide +kernel, by decide +kernel⟩
theorem bd__law_mul (h__law_ratio : Fn P w K mg base "_law_ratio" 2 ["p", "q"] (spF K 2 m__law_ratio)) {f : Addr} : Body P w K mg base ["one", "other"] "_law_mul" s__law_mul f 2 b__law_mul := fun cdv A outer s H E hr => by
  show BkF _ (defBody s__law_mul) b__law_mul
  exact bk_one (sf_retF [] (ef_f 2 h__law_ratio hr (by omega) (by rfl) (af_cons (ef_op od_mul (ef_ix (ev 0) (ef_int)) (ef_ix (ev 1) (ef_int))) (af_cons (ef_op od_mul (ef_ix (ev 0) (ef_int)) (ef_ix (ev 1) (ef_int))) (af_nil))) (al_cons (al_cons (al_nil)))))
theorem ok__law_mul (h__law_ratio : Fn P w K mg base "_law_ratio" 2 ["p", "q"] (spF K 2 m__law_ratio)) {f : Addr} {fd : FuncData} (F : Fun K "_law_mul" "_law_mul" s__law_mul f fd) (hm : mg "_law_mul" = some (.ref f)) : Fn P w K mg base "_law_mul" 3 ["one", "other"] (spF K 2 m__law_mul) :=
  ⟨f, fd, (fn_F F sc__law_mul (bd__law_mul    h__law_ratio) :), hm, F.kp, (F.binds (ps := ["one", "other"]) fun _ _ _ _ _ _ us hl => match us, hl with | [_, _], _ => rfl)⟩
abbrev s__law_div : Stmt := topS 33
theorem sc__law_div : FnScope ["one", "other"] ["one", "other"] (defScope s__law_div) := ⟨rfl, rfl, rfl, by decide +kernel, rfl, by decide +kernel, by decide +kernel⟩
theorem bd__law_div (h__law_ratio : Fn P w K mg base "_law_ratio" 2 ["p", "q"] (spF K 2 m__law_ratio)) {f : Addr} : Body P w K mg base ["one", "other"] "_law_div" s__law_div f 2 b__law_div := fun cdv A outer s H E hr => by
  show BkF _ (defBody s__law_div) b__law_div
  exact bk_one (sf_retF [] (ef_f 2 h__law_ratio hr (by omega) (by rfl) (af_cons (ef_op od_mul (ef_ix (ev 0) (ef_int)) (ef_ix (ev 1) (ef_int))) (af_cons (ef_op od_mul (ef_ix (ev 0) (ef_int)) (ef_ix (ev 1) (ef_int))) (af_nil))) (al_cons (al_cons (al_nil)))))
theorem ok__law_div (h__law_ratio : Fn P w K mg base "_law_ratio" 2 ["p", "q"] (spF K 2 m__law_ratio)) {f : Addr} {fd : FuncData} (F : Fun K "_law_div" "_law_div" s__law_div f fd) (hm : mg "_law_div" = some (.ref f)) : Fn P w K mg base "_law_div" 3 ["one", "other"] (spF K 2 m__law_div) :=
  ⟨f, fd, (fn_F F sc__law_div (bd__law_div    h__law_ratio) :), hm, F.kp, (F.binds (ps := ["one", "other"]) fun _ _ _ _ _ _ us hl => match us, hl with | [_, _], _ => rfl)⟩
abbrev s__law_small_told : Stmt := topS 34
theorem sc__law_small_told : FnScope ["pool"] ["pool"] (defScope s__law_small_told) := ⟨rfl, rfl, rfl, by decide +kernel, rfl, by decide +kernel, by decide +kernel⟩
theorem bd__law_small_told (h__law_draw : Fn P w K mg base "_law_draw" 3 ["pool", "limit"] (spP K 2 m__law_draw)) (h__law_pick : Fn P w K mg base "_law_pick" 4 ["pool", "options"] (spP K 2 m__law_pick)) (h__law_ratio : Fn P w K mg base "_law_ratio" 2 ["p", "q"] (spF K 2 m__law_ratio)) {f : Addr} : Body P w K mg base ["pool"] "_law_small_told" s__law_small_told f 4 b__law_small_told := fun cdv A outer s H E hr => by
  show BkF _ (defBody s__law_small_told) b__law_small_told
  exact bk_one (sf_retF [] (ef_p 1 0 h__law_pick hr (by omega) (by rfl) (af_cons ((lf_lst (af_cons (ef_tup (af_cons (ef_op od_sub (ef_p 1 0 h__law_draw hr (by omega) (by rfl) (af_cons (ef_int) (af_nil)) (al_cons (al_nil))) (ef_int)) (af_cons (ef_int) (af_nil)))) (af_cons (ef_tup (af_cons (ef_op od_sub (ef_p 1 0 h__law_draw hr (by omega) (by rfl) (af_cons (ef_int) (af_nil)) (al_cons (al_nil))) (ef_int)) (af_cons (ef_int) (af_nil)))) (af_cons (ef_f 2 h__law_ratio hr (by omega) (by rfl) (af_cons (ef_op od_sub (ef_p 1 0 h__law_draw hr (by omega) (by rfl) (af_cons (ef_int) (af_nil)) (al_cons (al_nil))) (ef_int)) (af_cons (ef_op od_add (ef_int) (ef_p 1 0 h__law_draw hr (by omega) (by rfl) (af_cons (ef_int) (af_nil)) (al_cons (al_nil)))) (af_nil))) (al_cons (al_cons (al_nil)))) (af_nil))))).ef) (af_nil)) (al_cons (al_nil))))
theorem ok__law_small_told (h__law_draw : Fn P w K mg base "_law_draw" 3 ["pool", "limit"] (spP K 2 m__law_draw)) (h__law_pick : Fn P w K mg base "_law_pick" 4 ["pool", "options"] (spP K 2 m__law_pick)) (h__law_ratio : Fn P w K mg base "_law_ratio" 2 ["p", "q"] (spF K 2 m__law_ratio)) {f : Addr} {fd : FuncData} (F : Fun K "_law_small_told" "_law_small_told" s__law_small_told f fd) (hm : mg "_law_small_told" = some (.ref f)) : Fn P w K mg base "_law_small_told" 5 ["pool"] (spP K 1 m__law_small_told) :=
  ⟨f, fd, (fn_P F sc__law_small_told (bd__law_small_told    h__law_draw h__law_pick h__law_ratio) :), hm, F.kp, (F.binds (ps := ["pool"]) fun _ _ _ _ _ _ us hl => match us, hl with | [_], _ => rfl)⟩
abbrev s__law_hung : Stmt := topS 35
theorem sc__law_hung : FnScope ["pool", "left", "wide", "right", "loads", "k"] ["pool"] (defScope s__law_hung) := ⟨rfl, rfl, rfl, by decide +kernel, rfl, by decide +kernel, by decide +kernel⟩
theorem bd__law_hung (z_len : mg "len" = none) (z_range : mg "range" = none) (h__law_draw : Fn P w K mg base "_law_draw" 3 ["pool", "limit"] (spP K 2 m__law_draw)) (h__law_ratio : Fn P w K mg base "_law_ratio" 2 ["p", "q"] (spF K 2 m__law_ratio)) (h__law_add : Fn P w K mg base "_law_add" 3 ["one", "other"] (spF K 2 m__law_add)) (h__law_small_told : Fn P w K mg base "_law_small_told" 5 ["pool"] (spP K 1 m__law_small_told)) {f : Addr} : Body P w K mg base ["pool", "left", "wide", "right", "loads", "k"] "_law_hung" s__law_hung f 5 b__law_hung := fun cdv A outer s H E hr => by
  show BkF _ (defBody s__law_hung) b__law_hung
  exact bk_cons ((as_set (i := 1) sc__law_hung.nd rfl (by first | exact Or.inl rfl | exact Or.inr rfl) (ef_tup (af_cons (ef_p 0 0 h__law_small_told hr (by omega) (by rfl) (af_nil) (al_nil)) (af_cons (ef_p 0 0 h__law_small_told hr (by omega) (by rfl) (af_nil) (al_nil)) (af_nil))))).f []) (bk_cons ((as_set (i := 2) sc__law_hung.nd rfl (by first | exact Or.inl rfl | exact Or.inr rfl) (ef_op od_add (ef_int) (ef_p 1 0 h__law_draw hr (by omega) (by rfl) (af_cons (ef_int) (af_nil)) (al_cons (al_nil))))).f []) (bk_cons ((as_set (i := 3) sc__law_hung.nd rfl (by first | exact Or.inl rfl | exact Or.inr rfl) (ef_tup (af_cons (ef_f 2 h__law_add hr (by omega) (by rfl) (af_cons (ef_ix (ev 1) (ef_int)) (af_cons (ef_tup (af_cons (ev 2) (af_cons (ef_int) (af_nil)))) (af_nil))) (al_cons (al_cons (al_nil)))) (af_cons (ef_p 0 0 h__law_small_told hr (by omega) (by rfl) (af_nil) (al_nil)) (af_nil))))).f []) (bk_cons ((asl_set (i := 4) sc__law_hung.nd rfl (by first | exact Or.inl rfl | exact Or.inr rfl) (lf_lst (af_nil))).o []) (bk_cons (sf_for [] PassesOwn.never rfl (if_rng2 (by rfl) z_range (af_cons (ef_int) (af_cons (ef_op od_mul (ef_int) (ev 2)) (af_nil)))) (gf_name (i := 5) sc__law_hung.nd rfl (by first | exact Or.inl rfl | exact Or.inr rfl)) (bk_one (sf_if ((wf_and (bf_cmp (od_eq hr.units) (ef_p 1 0 h__law_draw hr (by omega) (by rfl) (af_cons (ef_int) (af_nil)) (al_cons (al_nil))) (ef_int)) (wf_and1 (bf_cmp od_lt (ef_callB cd_len (by rfl) z_len (by decide +kernel) (af_cons (ev 4) (af_nil))) (ef_int)))).bf) (bk_one (sf_appF [] (mt_of (ef_tup (af_cons (ef_f 2 h__law_add hr (by omega) (by rfl) (af_cons (ef_ix (ev 1) (ef_int)) (af_cons (ef_f 2 h__law_ratio hr (by omega) (by rfl) (af_cons (ev 5) (af_cons (ef_int) (af_nil))) (al_cons (al_cons (al_nil)))) (af_nil))) (al_cons (al_cons (al_nil)))) (af_cons (ef_f 2 h__law_ratio hr (by omega) (by rfl) (af_cons (ef_p 1 0 h__law_draw hr (by omega) (by rfl) (af_cons (ef_int) (af_nil)) (al_cons (al_nil))) (af_cons (ef_op od_add (ef_int) (ef_p 1 0 h__law_draw hr (by omega) (by rfl) (af_cons (ef_int) (af_nil)) (al_cons (al_nil)))) (af_nil))) (al_cons (al_cons (al_nil)))) (af_nil)))) (fun te h => ps_expr (pe_bm PySem.F.plainAttrs_list PySem.F.slot_list_append PySem.F.type_list_append mt_append (pv 4) (pa_cons h pa_nil)))))) (bk_nil)))) (bk_one (sf_retF [4] (ef_tup (af_cons (ev 1) (af_cons (ev 3) (af_cons (ev 4) (af_nil)))))))))))
theorem ok__law_hung (z_len : mg "len" = none) (z_range : mg "range" = none) (h__law_draw : Fn P w K mg base "_law_draw" 3 ["pool", "limit"] (spP K 2 m__law_draw)) (h__law_ratio : Fn P w K mg base "_law_ratio" 2 ["p", "q"] (spF K 2 m__law_ratio)) (h__law_add : Fn P w K mg base "_law_add" 3 ["one", "other"] (spF K 2 m__law_add)) (h__law_small_told : Fn P w K mg base "_law_small_told" 5 ["pool"] (spP K 1 m__law_small_told)) {f : Addr} {fd : FuncData} (F : Fun K "_law_hung" "_law_hung" s__law_hung f fd) (hm : mg "_law_hung" = some (.ref f)) : Fn P w K mg base "_law_hung" 6 ["pool"] (spP K 1 m__law_hung) :=
  ⟨f, fd, (fn_P F sc__law_hung (bd__law_hung z_len z_range   h__law_draw h__law_ratio h__law_add h__law_small_told) :), hm, F.kp, (F.binds (ps := ["pool"]) fun _ _ _ _ _ _ us hl => match us, hl with | [_], _ => rfl)⟩
abbrev s__law_moment : Stmt := topS 36
theorem sc__law_moment : FnScope ["left", "right", "loads", "place", "wide", "support", "found", "at", "load"] ["left", "right", "loads", "place"] (defScope s__law_moment) := ⟨rfl, rfl, rfl, by decide +kernel, rfl, by decide +kernel, by decide +kernel⟩
theorem bd__law_moment (h__law_add : Fn P w K mg base "_law_add" 3 ["one", "other"] (spF K 2 m__law_add)) (h__law_sub : Fn P w K mg base "_law_sub" 3 ["one", "other"] (spF K 2 m__law_sub)) (h__law_mul : Fn P w K mg base "_law_mul" 3 ["one", "other"] (spF K 2 m__law_mul)) (h__law_div : Fn P w K mg base "_law_div" 3 ["one", "other"] (spF K 2 m__law_div)) {f : Addr} : Body P w K mg base ["left", "right", "loads", "place", "wide", "support", "found", "at", "load"] "_law_moment" s__law_moment f 3 b__law_moment := fun cdv A outer s H E hr => by
  show BkF _ (defBody s__law_moment) b__law_moment
  exact bk_cons ((as_set (i := 4) sc__law_moment.nd rfl (by first | exact Or.inl rfl | exact Or.inr rfl) (ef_f 2 h__law_sub hr (by omega) (by rfl) (af_cons (ef_ix (ev 1) (ef_int)) (af_cons (ef_ix (ev 0) (ef_int)) (af_nil))) (al_cons (al_cons (al_nil))))).f []) (bk_cons ((as_set (i := 5) sc__law_moment.nd rfl (by first | exact Or.inl rfl | exact Or.inr rfl) (ef_tup (af_cons (ef_int) (af_cons (ef_int) (af_nil))))).f []) (bk_cons (sf_for [] PassesOwn.never rfl (if_seq (ev 2)) (gf_tl 2 rfl (gfs_cons (gf_name (i := 7) sc__law_moment.nd rfl (by first | exact Or.inl rfl | exact Or.inr rfl)) (gfs_cons (gf_name (i := 8) sc__law_moment.nd rfl (by first | exact Or.inl rfl | exact Or.inr rfl)) (gfs_nil)))) (bk_one ((as_set (i := 5) sc__law_moment.nd rfl (by first | exact Or.inl rfl | exact Or.inr rfl) (ef_f 2 h__law_add hr (by omega) (by rfl) (af_cons (ev 5) (af_cons (ef_f 2 h__law_div hr (by omega) (by rfl) (af_cons (ef_f 2 h__law_mul hr (by omega) (by rfl) (af_cons (ev 8) (af_cons (ef_f 2 h__law_sub hr (by omega) (by rfl) (af_cons (ef_ix (ev 1) (ef_int)) (af_cons (ev 7) (af_nil))) (al_cons (al_cons (al_nil)))) (af_nil))) (al_cons (al_cons (al_nil)))) (af_cons (ev 4) (af_nil))) (al_cons (al_cons (al_nil)))) (af_nil))) (al_cons (al_cons (al_nil))))).f []))) (bk_cons ((as_set (i := 6) sc__law_moment.nd rfl (by first | exact Or.inl rfl | exact Or.inr rfl) (ef_f 2 h__law_mul hr (by omega) (by rfl) (af_cons (ev 5) (af_cons (ef_f 2 h__law_sub hr (by omega) (by rfl) (af_cons (ev 3) (af_cons (ef_ix (ev 0) (ef_int)) (af_nil))) (al_cons (al_cons (al_nil)))) (af_nil))) (al_cons (al_cons (al_nil))))).f []) (bk_cons (sf_for [] PassesOwn.never rfl (if_seq (ev 2)) (gf_tl 2 rfl (gfs_cons (gf_name (i := 7) sc__law_moment.nd rfl (by first | exact Or.inl rfl | exact Or.inr rfl)) (gfs_cons (gf_name (i := 8) sc__law_moment.nd rfl (by first | exact Or.inl rfl | exact Or.inr rfl)) (gfs_nil)))) (bk_one (sf_if (bf_cmp od_gt (ef_ix (ef_f 2 h__law_sub hr (by omega) (by rfl) (af_cons (ev 3) (af_cons (ev 7) (af_nil))) (al_cons (al_cons (al_nil)))) (ef_int)) (ef_int)) (bk_one ((as_set (i := 6) sc__law_moment.nd rfl (by first | exact Or.inl rfl | exact Or.inr rfl) (ef_f 2 h__law_sub hr (by omega) (by rfl) (af_cons (ev 6) (af_cons (ef_f 2 h__law_mul hr (by omega) (by rfl) (af_cons (ev 8) (af_cons (ef_f 2 h__law_sub hr (by omega) (by rfl) (af_cons (ev 3) (af_cons (ev 7) (af_nil))) (al_cons (al_cons (al_nil)))) (af_nil))) (al_cons (al_cons (al_nil)))) (af_nil))) (al_cons (al_cons (al_nil))))).f [])) (bk_nil)))) (bk_one (sf_retF [] (ev 6)))))))
theorem ok__law_moment (h__law_add : Fn P w K mg base "_law_add" 3 ["one", "other"] (spF K 2 m__law_add)) (h__law_sub : Fn P w K mg base "_law_sub" 3 ["one", "other"] (spF K 2 m__law_sub)) (h__law_mul : Fn P w K mg base "_law_mul" 3 ["one", "other"] (spF K 2 m__law_mul)) (h__law_div : Fn P w K mg base "_law_div" 3 ["one", "other"] (spF K 2 m__law_div)) {f : Addr} {fd : FuncData} (F : Fun K "_law_moment" "_law_moment" s__law_moment f fd) (hm : mg "_law_moment" = some (.ref f)) : Fn P w K mg base "_law_moment" 4 ["left", "right", "loads", "place"] (spF K 4 m__law_moment) :=
  ⟨f, fd, (fn_F F sc__law_moment (bd__law_moment    h__law_add h__law_sub h__law_mul h__law_div) :), hm, F.kp, (F.binds (ps := ["left", "right", "loads", "place"]) fun _ _ _ _ _ _ us hl => match us, hl with | [_, _, _, _], _ => rfl)⟩
abbrev s__law_line_own : Stmt := topS 37
theorem sc__law_line_own : FnScope ["left", "right", "place", "slope"] ["left", "right", "place"] (defScope s__law_line_own) := ⟨rfl, rfl, rfl, by decide +kernel, rfl, by decide +kernel, by decide +kernel⟩
theorem bd__law_line_own (h__law_add : Fn P w K mg base "_law_add" 3 ["one", "other"] (spF K 2 m__law_add)) (h__law_sub : Fn P w K mg base "_law_sub" 3 ["one", "other"] (spF K 2 m__law_sub)) (h__law_mul : Fn P w K mg base "_law_mul" 3 ["one", "other"] (spF K 2 m__law_mul)) (h__law_div : Fn P w K mg base "_law_div" 3 ["one", "other"] (spF K 2 m__law_div)) {f : Addr} : Body P w K mg base ["left", "right", "place", "slope"] "_law_line_own" s__law_line_own f 3 b__law_line_own := fun cdv A outer s H E hr => by
  show BkF _ (defBody s__law_line_own) b__law_line_own
  exact bk_cons ((as_set (i := 3) sc__law_line_own.nd rfl (by first | exact Or.inl rfl | exact Or.inr rfl) (ef_f 2 h__law_div hr (by omega) (by rfl) (af_cons (ef_f 2 h__law_sub hr (by omega) (by rfl) (af_cons (ef_ix (ev 1) (ef_int)) (af_cons (ef_ix (ev 0) (ef_int)) (af_nil))) (al_cons (al_cons (al_nil)))) (af_cons (ef_f 2 h__law_sub hr (by omega) (by rfl) (af_cons (ef_ix (ev 1) (ef_int)) (af_cons (ef_ix (ev 0) (ef_int)) (af_nil))) (al_cons (al_cons (al_nil)))) (af_nil))) (al_cons (al_cons (al_nil))))).f []) (bk_one (sf_retF [] (ef_f 2 h__law_add hr (by omega) (by rfl) (af_cons (ef_ix (ev 0) (ef_int)) (af_cons (ef_f 2 h__law_mul hr (by omega) (by rfl) (af_cons (ev 3) (af_cons (ef_f 2 h__law_sub hr (by omega) (by rfl) (af_cons (ev 2) (af_cons (ef_ix (ev 0) (ef_int)) (af_nil))) (al_cons (al_cons (al_nil)))) (af_nil))) (al_cons (al_cons (al_nil)))) (af_nil))) (al_cons (al_cons (al_nil))))))
theorem ok__law_line_own (h__law_add : Fn P w K mg base "_law_add" 3 ["one", "other"] (spF K 2 m__law_add)) (h__law_sub : Fn P w K mg base "_law_sub" 3 ["one", "other"] (spF K 2 m__law_sub)) (h__law_mul : Fn P w K mg base "_law_mul" 3 ["one", "other"] (spF K 2 m__law_mul)) (h__law_div : Fn P w K mg base "_law_div" 3 ["one", "other"] (spF K 2 m__law_div)) {f : Addr} {fd : FuncData} (F : Fun K "_law_line_own" "_law_line_own" s__law_line_own f fd) (hm : mg "_law_line_own" = some (.ref f)) : Fn P w K mg base "_law_line_own" 4 ["left", "right", "place"] (spF K 3 m__law_line_own) :=
  ⟨f, fd, (fn_F F sc__law_line_own (bd__law_line_own    h__law_add h__law_sub h__law_mul h__law_div) :), hm, F.kp, (F.binds (ps := ["left", "right", "place"]) fun _ _ _ _ _ _ us hl => match us, hl with | [_, _, _], _ => rfl)⟩
abbrev s_law : Stmt := topS 38
theorem sc_law : FnScope ["script", "pool", "pull", "passed", "told", "due", "steps", "k", "total", "ends", "lowest", "turn", "left", "right", "loads", "at", "load", "now", "wide", "place", "moment", "line", "height", "wanted", "drop", "answer", "fine"] ["script"] (defScope s_law) := ⟨rfl, rfl, rfl, by decide +kernel, rfl, by decide +kernel, by decide +kernel⟩
theorem bd_law (z_len : mg "len" = none) (z_list : mg "list" = none) (z_range : mg "range" = none) (h_slopes : Fn P w K mg base "slopes" 3 ["left", "right", "loads", "pull"] (spL K 4 m_slopes)) (h_points : Fn P w K mg base "points" 4 ["left", "right", "loads", "pull"] (spL K 4 m_points)) (h_height_at : Fn P w K mg base "height_at" 5 ["left", "right", "loads", "pull", "place"] (spF K 5 m_height_at)) (h_sag : Fn P w K mg base "sag" 6 ["left", "right", "loads", "pull", "place"] (spF K 5 m_sag)) (h_greatest_sag : Fn P w K mg base "greatest_sag" 7 ["left", "right", "loads", "pull"] (spF K 4 m_greatest_sag)) (h_pull_through : Fn P w K mg base "pull_through" 7 ["left", "right", "loads", "point"] (spF K 4 m_pull_through)) (h_loads_of : Fn P w K mg base "loads_of" 3 ["told", "pull"] (spL K 2 m_loads_of)) (h_end_pulls : Fn P w K mg base "end_pulls" 4 ["left", "right", "loads", "pull"] (spF K 4 m_end_pulls)) (h_whole_load : Fn P w K mg base "whole_load" 4 ["loads"] (spF K 1 m_whole_load)) (h__law_pool : Fn P w K mg base "_law_pool" 3 ["script"] (spL K 1 m__law_pool)) (h__law_next : Fn P w K mg base "_law_next" 3 ["pool"] (spP K 1 m__law_next)) (h__law_draw : Fn P w K mg base "_law_draw" 3 ["pool", "limit"] (spP K 2 m__law_draw)) (h__law_pick : Fn P w K mg base "_law_pick" 4 ["pool", "options"] (spP K 2 m__law_pick)) (h__law_same : Fn P w K mg base "_law_same" 21 ["answer", "due"] (spF K 2 (m__law_same 20))) (h__law_ratio : Fn P w K mg base "_law_ratio" 2 ["p", "q"] (spF K 2 m__law_ratio)) (h__law_add : Fn P w K mg base "_law_add" 3 ["one", "other"] (spF K 2 m__law_add)) (h__law_sub : Fn P w K mg base "_law_sub" 3 ["one", "other"] (spF K 2 m__law_sub)) (h__law_mul : Fn P w K mg base "_law_mul" 3 ["one", "other"] (spF K 2 m__law_mul)) (h__law_div : Fn P w K mg base "_law_div" 3 ["one", "other"] (spF K 2 m__law_div)) (h__law_small_told : Fn P w K mg base "_law_small_told" 5 ["pool"] (spP K 1 m__law_small_told)) (h__law_hung : Fn P w K mg base "_law_hung" 6 ["pool"] (spP K 1 m__law_hung)) (h__law_moment : Fn P w K mg base "_law_moment" 4 ["left", "right", "loads", "place"] (spF K 4 m__law_moment)) (h__law_line_own : Fn P w K mg base "_law_line_own" 4 ["left", "right", "place"] (spF K 3 m__law_line_own)) {f : Addr} : Body P w K mg base ["script", "pool", "pull", "passed", "told", "due", "steps", "k", "total", "ends", "lowest", "turn", "left", "right", "loads", "at", "load", "now", "wide", "place", "moment", "line", "height", "wanted", "drop", "answer", "fine"] "law" s_law f 21 b_law := fun cdv A outer s H E hr => by
  show BkF _ (defBody s_law) b_law
  exact bk_cons ((asl_set (i := 1) sc_law.nd rfl (by first | exact Or.inl rfl | exact Or.inr rfl) (lf_f 1 h__law_pool hr (by omega) (by rfl) (af_cons (ev 0) (af_nil)) (al_cons (al_nil)))).pnew) (bk_cons (sf_asgF [] (gf_tl 3 rfl (gfs_cons (gf_name (i := 12) sc_law.nd rfl (by first | exact Or.inl rfl | exact Or.inr rfl)) (gfs_cons (gf_name (i := 13) sc_law.nd rfl (by first | exact Or.inl rfl | exact Or.inr rfl)) (gfs_cons (gf_name (i := 14) sc_law.nd rfl (by first | exact Or.inl rfl | exact Or.inr rfl)) (gfs_nil))))) (ef_p 0 1 h__law_hung hr (by omega) (by rfl) (af_nil) (al_nil))) (bk_cons ((as_set (i := 2) sc_law.nd rfl (by first | exact Or.inl rfl | exact Or.inr rfl) (ef_f 2 h__law_ratio hr (by omega) (by rfl) (af_cons (ef_op od_add (ef_int) (ef_p 1 1 h__law_draw hr (by omega) (by rfl) (af_cons (ef_int) (af_nil)) (al_cons (al_nil)))) (af_cons (ef_op od_add (ef_int) (ef_p 1 1 h__law_draw hr (by omega) (by rfl) (af_cons (ef_int) (af_nil)) (al_cons (al_nil)))) (af_nil))) (al_cons (al_cons (al_nil))))).f []) (bk_cons ((as_set (i := 3) sc_law.nd rfl (by first | exact Or.inl rfl | exact Or.inr rfl) ((lf_callTy cl_list (by rfl) z_list (by decide +kernel) (af_cons (ev 14) (af_nil))).ef)).f []) (bk_cons ((as_set (i := 4) sc_law.nd rfl (by first | exact Or.inl rfl | exact Or.inr rfl) ((lf_f 4 h_points hr (by omega) (by rfl) (af_cons (ev 12) (af_cons (ev 13) (af_cons (ev 3) (af_cons (ev 2) (af_nil))))) (al_cons (al_cons (al_cons (al_cons (al_nil)))))).ef)).f []) (bk_cons ((asl_set (i := 5) sc_law.nd rfl (by first | exact Or.inl rfl | exact Or.inr rfl) (lf_lst (af_nil))).o []) (bk_cons (sf_for [] PassesOwn.never rfl (if_seq (ef_op od_add (ef_op od_add ((lf_lst (af_cons (ef_tup (af_cons (ef_ix (ev 12) (ef_int)) (af_cons (ef_non) (af_nil)))) (af_nil))).ef) (ev 14)) ((lf_lst (af_cons (ef_tup (af_cons (ef_ix (ev 13) (ef_int)) (af_cons (ef_non) (af_nil)))) (af_nil))).ef))) (gf_tl 2 rfl (gfs_cons (gf_name (i := 15) sc_law.nd rfl (by first | exact Or.inl rfl | exact Or.inr rfl)) (gfs_cons (gf_name (i := 16) sc_law.nd rfl (by first | exact Or.inl rfl | exact Or.inr rfl)) (gfs_nil)))) (bk_one (sf_appF [] (mt_of (ef_tup (af_cons (ev 15) (af_cons (ef_f 2 h__law_sub hr (by omega) (by rfl) (af_cons (ef_f 3 h__law_line_own hr (by omega) (by rfl) (af_cons (ev 12) (af_cons (ev 13) (af_cons (ev 15) (af_nil)))) (al_cons (al_cons (al_cons (al_nil))))) (af_cons (ef_f 2 h__law_div hr (by omega) (by rfl) (af_cons (ef_f 4 h__law_moment hr (by omega) (by rfl) (af_cons (ev 12) (af_cons (ev 13) (af_cons (ev 14) (af_cons (ev 15) (af_nil))))) (al_cons (al_cons (al_cons (al_cons (al_nil)))))) (af_cons (ev 2) (af_nil))) (al_cons (al_cons (al_nil)))) (af_nil))) (al_cons (al_cons (al_nil)))) (af_nil)))) (fun te h => ps_expr (pe_bm PySem.F.plainAttrs_list PySem.F.slot_list_append PySem.F.type_list_append mt_append (pv 5) (pa_cons h pa_nil))))))) (bk_cons (sf_if ((wf_or (bf_not (bf_tru (ef_f 2 h__law_same hr (by omega) (by rfl) (af_cons (ev 4) (af_cons (ev 5) (af_nil))) (al_cons (al_cons (al_nil)))))) (wf_or1 (bf_cmp (od_ne hr.units) (ev 3) (ev 14)))).bf) (bk_one (sf_retF [] (ef_bl))) (bk_nil)) (bk_cons ((asl_lc (i := 6) (own := [("k", 7)]) rfl sc_law.nd rfl rfl (sw_true rfl rfl rfl rfl) (blkOk_by (by first | decide +kernel | kernel_rfl | rfl)) (if_rng1 (by rfl) z_range (af_cons (ef_op od_sub (ef_callB cd_len (by rfl) z_len (by decide +kernel) (af_cons (ev 5) (af_nil))) (ef_int)) (af_nil))) (fun _ _ _ _ _ => ge_name (i := 7) sc_law.nd rfl (by first | exact Or.inl rfl | exact Or.inr rfl)) (fun _ _ _ _ _ => ts_nil) (fun _ _ _ _ _ => ef_f 2 h__law_div hr (by omega) (by rfl) (af_cons (ef_f 2 h__law_sub hr (by omega) (by rfl) (af_cons (ef_ix (ef_ix (ev 5) (ef_op od_add (ev 7) (ef_int))) (ef_int)) (af_cons (ef_ix (ef_ix (ev 5) (ev 7)) (ef_int)) (af_nil))) (al_cons (al_cons (al_nil)))) (af_cons (ef_f 2 h__law_sub hr (by omega) (by rfl) (af_cons (ef_ix (ef_ix (ev 5) (ef_op od_add (ev 7) (ef_int))) (ef_int)) (af_cons (ef_ix (ef_ix (ev 5) (ev 7)) (ef_int)) (af_nil))) (al_cons (al_cons (al_nil)))) (af_nil))) (al_cons (al_cons (al_nil)))) (by decide)).sL) (bk_cons (sf_if (bf_not (bf_tru (ef_f 2 h__law_same hr (by omega) (by rfl) (af_cons ((lf_f 4 h_slopes hr (by omega) (by rfl) (af_cons (ev 12) (af_cons (ev 13) (af_cons (ev 3) (af_cons (ev 2) (af_nil))))) (al_cons (al_cons (al_cons (al_cons (al_nil)))))).ef) (af_cons (ev 6) (af_nil))) (al_cons (al_cons (al_nil)))))) (bk_one (sf_retF [] (ef_bl))) (bk_nil)) (bk_cons (sf_for [] PassesOwn.never rfl (if_rng1 (by rfl) z_range (af_cons (ef_callB cd_len (by rfl) z_len (by decide +kernel) (af_cons (ev 14) (af_nil))) (af_nil))) (gf_name (i := 7) sc_law.nd rfl (by first | exact Or.inl rfl | exact Or.inr rfl)) (bk_one (sf_if (bf_cmp (od_ne hr.units) (ef_f 2 h__law_sub hr (by omega) (by rfl) (af_cons (ef_ix (ev 6) (ef_op od_add (ev 7) (ef_int))) (af_cons (ef_ix (ev 6) (ev 7)) (af_nil))) (al_cons (al_cons (al_nil)))) (ef_f 2 h__law_div hr (by omega) (by rfl) (af_cons (ef_ix (ef_ix (ev 14) (ev 7)) (ef_int)) (af_cons (ev 2) (af_nil))) (al_cons (al_cons (al_nil))))) (bk_one (sf_retF [] (ef_bl))) (bk_nil)))) (bk_cons (sf_if (bf_not (bf_tru (ef_f 2 h__law_same hr (by omega) (by rfl) (af_cons ((lf_f 2 h_loads_of hr (by omega) (by rfl) (af_cons ((lf_callTy cl_list (by rfl) z_list (by decide +kernel) (af_cons (ev 5) (af_nil))).ef) (af_cons (ev 2) (af_nil))) (al_cons (al_cons (al_nil)))).ef) (af_cons (ev 14) (af_nil))) (al_cons (al_cons (al_nil)))))) (bk_one (sf_retF [] (ef_bl))) (bk_nil)) (bk_cons ((as_set (i := 8) sc_law.nd rfl (by first | exact Or.inl rfl | exact Or.inr rfl) (ef_tup (af_cons (ef_int) (af_cons (ef_int) (af_nil))))).f []) (bk_cons (sf_for [] PassesOwn.never rfl (if_seq (ev 14)) (gf_tl 2 rfl (gfs_cons (gf_name (i := 15) sc_law.nd rfl (by first | exact Or.inl rfl | exact Or.inr rfl)) (gfs_cons (gf_name (i := 16) sc_law.nd rfl (by first | exact Or.inl rfl | exact Or.inr rfl)) (gfs_nil)))) (bk_one ((as_set (i := 8) sc_law.nd rfl (by first | exact Or.inl rfl | exact Or.inr rfl) (ef_f 2 h__law_add hr (by omega) (by rfl) (af_cons (ev 8) (af_cons (ev 16) (af_nil))) (al_cons (al_cons (al_nil))))).f []))) (bk_cons ((as_set (i := 9) sc_law.nd rfl (by first | exact Or.inl rfl | exact Or.inr rfl) (ef_tup (af_cons (ef_f 2 h__law_sub hr (by omega) (by rfl) (af_cons (ef_tup (af_cons (ef_int) (af_cons (ef_int) (af_nil)))) (af_cons (ef_f 2 h__law_mul hr (by omega) (by rfl) (af_cons (ev 2) (af_cons (ef_ix (ev 6) (ef_int)) (af_nil))) (al_cons (al_cons (al_nil)))) (af_nil))) (al_cons (al_cons (al_nil)))) (af_cons (ef_f 2 h__law_mul hr (by omega) (by rfl) (af_cons (ev 2) (af_cons (ef_ix (ev 6) (ef_un ud_neg (ef_int))) (af_nil))) (al_cons (al_cons (al_nil)))) (af_nil))))).f []) (bk_cons (sf_if ((wf_or (bf_not (bf_tru (ef_f 2 h__law_same hr (by omega) (by rfl) (af_cons ((lf_lst (af_cons (ef_f 4 h_end_pulls hr (by omega) (by rfl) (af_cons (ev 12) (af_cons (ev 13) (af_cons (ev 3) (af_cons (ev 2) (af_nil))))) (al_cons (al_cons (al_cons (al_cons (al_nil)))))) (af_cons (ef_f 1 h_whole_load hr (by omega) (by rfl) (af_cons (ev 3) (af_nil)) (al_cons (al_nil))) (af_nil)))).ef) (af_cons ((lf_lst (af_cons (ev 9) (af_cons (ev 8) (af_nil)))).ef) (af_nil))) (al_cons (al_cons (al_nil)))))) (wf_or1 (bf_cmp (od_ne hr.units) (ef_f 2 h__law_add hr (by omega) (by rfl) (af_cons (ef_ix (ev 9) (ef_int)) (af_cons (ef_ix (ev 9) (ef_int)) (af_nil))) (al_cons (al_cons (al_nil)))) (ev 8)))).bf) (bk_one (sf_retF [] (ef_bl))) (bk_nil)) (bk_cons ((as_set (i := 10) sc_law.nd rfl (by first | exact Or.inl rfl | exact Or.inr rfl) (ef_non)).f []) (bk_cons (sf_for [] PassesOwn.never rfl (if_seq (ev 14)) (gf_tl 2 rfl (gfs_cons (gf_name (i := 15) sc_law.nd rfl (by first | exact Or.inl rfl | exact Or.inr rfl)) (gfs_cons (gf_name (i := 16) sc_law.nd rfl (by first | exact Or.inl rfl | exact Or.inr rfl)) (gfs_nil)))) (bk_cons ((as_set (i := 17) sc_law.nd rfl (by first | exact Or.inl rfl | exact Or.inr rfl) (ef_f 2 h__law_div hr (by omega) (by rfl) (af_cons (ef_f 4 h__law_moment hr (by omega) (by rfl) (af_cons (ev 12) (af_cons (ev 13) (af_cons (ev 14) (af_cons (ev 15) (af_nil))))) (al_cons (al_cons (al_cons (al_cons (al_nil)))))) (af_cons (ev 2) (af_nil))) (al_cons (al_cons (al_nil))))).f []) (bk_one ((as_set (i := 10) sc_law.nd rfl (by first | exact Or.inl rfl | exact Or.inr rfl) (ef_ite ((wf_or (bf_cmp od_is (ev 10) (ef_non)) (wf_or1 (bf_cmp od_gt (ef_ix (ef_f 2 h__law_sub hr (by omega) (by rfl) (af_cons (ev 17) (af_cons (ef_ix (ev 10) (ef_int)) (af_nil))) (al_cons (al_cons (al_nil)))) (ef_int)) (ef_int)))).bf) (ef_tup (af_cons (ev 17) (af_cons (ev 15) (af_nil)))) (ev 10))).f [])))) (bk_cons (sf_if (bf_not (bf_tru (ef_f 2 h__law_same hr (by omega) (by rfl) (af_cons (ef_f 4 h_greatest_sag hr (by omega) (by rfl) (af_cons (ev 12) (af_cons (ev 13) (af_cons (ev 3) (af_cons (ev 2) (af_nil))))) (al_cons (al_cons (al_cons (al_cons (al_nil)))))) (af_cons (ev 10) (af_nil))) (al_cons (al_cons (al_nil)))))) (bk_one (sf_retF [] (ef_bl))) (bk_nil)) (bk_cons (sf_for [] PassesOwn.never rfl (if_rng1 (by rfl) z_range (af_cons (ef_int) (af_nil))) (gf_name (i := 11) sc_law.nd rfl (by first | exact Or.inl rfl | exact Or.inr rfl)) (bk_cons (sf_drop (ef_p 0 1 h__law_next hr (by omega) (by rfl) (af_nil) (al_nil))) (bk_cons ((as_set (i := 18) sc_law.nd rfl (by first | exact Or.inl rfl | exact Or.inr rfl) (ef_f 2 h__law_sub hr (by omega) (by rfl) (af_cons (ef_ix (ev 13) (ef_int)) (af_cons (ef_ix (ev 12) (ef_int)) (af_nil))) (al_cons (al_cons (al_nil))))).f []) (bk_cons ((as_set (i := 19) sc_law.nd rfl (by first | exact Or.inl rfl | exact Or.inr rfl) (ef_f 2 h__law_add hr (by omega) (by rfl) (af_cons (ef_ix (ev 12) (ef_int)) (af_cons (ef_f 2 h__law_mul hr (by omega) (by rfl) (af_cons (ev 18) (af_cons (ef_f 2 h__law_ratio hr (by omega) (by rfl) (af_cons (ef_op od_add (ef_int) (ef_p 1 1 h__law_draw hr (by omega) (by rfl) (af_cons (ef_int) (af_nil)) (al_cons (al_nil)))) (af_cons (ef_int) (af_nil))) (al_cons (al_cons (al_nil)))) (af_nil))) (al_cons (al_cons (al_nil)))) (af_nil))) (al_cons (al_cons (al_nil))))).f []) (bk_cons ((as_set (i := 20) sc_law.nd rfl (by first | exact Or.inl rfl | exact Or.inr rfl) (ef_f 4 h__law_moment hr (by omega) (by rfl) (af_cons (ev 12) (af_cons (ev 13) (af_cons (ev 14) (af_cons (ev 19) (af_nil))))) (al_cons (al_cons (al_cons (al_cons (al_nil))))))).f []) (bk_cons ((as_set (i := 21) sc_law.nd rfl (by first | exact Or.inl rfl | exact Or.inr rfl) (ef_f 3 h__law_line_own hr (by omega) (by rfl) (af_cons (ev 12) (af_cons (ev 13) (af_cons (ev 19) (af_nil)))) (al_cons (al_cons (al_cons (al_nil)))))).f []) (bk_cons ((as_set (i := 22) sc_law.nd rfl (by first | exact Or.inl rfl | exact Or.inr rfl) (ef_f 2 h__law_sub hr (by omega) (by rfl) (af_cons (ev 21) (af_cons (ef_f 2 h__law_div hr (by omega) (by rfl) (af_cons (ev 20) (af_cons (ev 2) (af_nil))) (al_cons (al_cons (al_nil)))) (af_nil))) (al_cons (al_cons (al_nil))))).f []) (bk_cons (sf_if (bf_not (bf_tru (ef_f 2 h__law_same hr (by omega) (by rfl) (af_cons ((lf_lst (af_cons (ef_f 5 h_height_at hr (by omega) (by rfl) (af_cons (ev 12) (af_cons (ev 13) (af_cons (ev 3) (af_cons (ev 2) (af_cons (ev 19) (af_nil)))))) (al_cons (al_cons (al_cons (al_cons (al_cons (al_nil))))))) (af_cons (ef_f 5 h_sag hr (by omega) (by rfl) (af_cons (ev 12) (af_cons (ev 13) (af_cons (ev 3) (af_cons (ev 2) (af_cons (ev 19) (af_nil)))))) (al_cons (al_cons (al_cons (al_cons (al_cons (al_nil))))))) (af_nil)))).ef) (af_cons ((lf_lst (af_cons (ev 22) (af_cons (ef_f 2 h__law_div hr (by omega) (by rfl) (af_cons (ev 20) (af_cons (ev 2) (af_nil))) (al_cons (al_cons (al_nil)))) (af_nil)))).ef) (af_nil))) (al_cons (al_cons (al_nil)))))) (bk_one (sf_retF [] (ef_bl))) (bk_nil)) (bk_cons ((as_set (i := 23) sc_law.nd rfl (by first | exact Or.inl rfl | exact Or.inr rfl) (ef_p 1 1 h__law_pick hr (by omega) (by rfl) (af_cons ((lf_lst (af_cons (ev 22) (af_cons (ef_p 0 1 h__law_small_told hr (by omega) (by rfl) (af_nil) (al_nil)) (af_cons (ev 21) (af_nil))))).ef) (af_nil)) (al_cons (al_nil)))).f []) (bk_cons ((as_set (i := 24) sc_law.nd rfl (by first | exact Or.inl rfl | exact Or.inr rfl) (ef_f 2 h__law_sub hr (by omega) (by rfl) (af_cons (ev 21) (af_cons (ev 23) (af_nil))) (al_cons (al_cons (al_nil))))).f []) (bk_cons ((as_set (i := 25) sc_law.nd rfl (by first | exact Or.inl rfl | exact Or.inr rfl) (ef_f 4 h_pull_through hr (by omega) (by rfl) (af_cons (ev 12) (af_cons (ev 13) (af_cons (ev 3) (af_cons (ef_tup (af_cons (ev 19) (af_cons (ev 23) (af_nil)))) (af_nil))))) (al_cons (al_cons (al_cons (al_cons (al_nil))))))).f []) (bk_cons ((as_set (i := 26) sc_law.nd rfl (by first | exact Or.inl rfl | exact Or.inr rfl) (ef_and (ef_cmp (od_ne hr.units) (ef_ix (ev 24) (ef_int)) (ef_int)) (ef_one (ef_cmp od_gt (ef_op od_mul (ef_ix (ev 20) (ef_int)) (ef_ix (ev 24) (ef_int))) (ef_int))))).f []) (bk_cons (sf_if (bf_not (bf_tru (ef_f 2 h__law_same hr (by omega) (by rfl) (af_cons (ev 25) (af_cons (ef_ite (bf_tru (ev 26)) (ef_f 2 h__law_div hr (by omega) (by rfl) (af_cons (ev 20) (af_cons (ev 24) (af_nil))) (al_cons (al_cons (al_nil)))) (ef_non)) (af_nil))) (al_cons (al_cons (al_nil)))))) (bk_one (sf_retF [] (ef_bl))) (bk_nil)) (bk_one (sf_if ((wf_and (bf_cmp od_isNot (ev 25) (ef_non)) (wf_and1 (bf_cmp (od_ne hr.units) (ef_f 5 h_height_at hr (by omega) (by rfl) (af_cons (ev 12) (af_cons (ev 13) (af_cons (ev 3) (af_cons (ev 25) (af_cons (ev 19) (af_nil)))))) (al_cons (al_cons (al_cons (al_cons (al_cons (al_nil))))))) (ev 23)))).bf) (bk_one (sf_retF [] (ef_bl))) (bk_nil)))))))))))))))) (bk_one (sf_retF [] (ef_cmp od_is (ef_f 5 h_height_at hr (by omega) (by rfl) (af_cons (ev 12) (af_cons (ev 13) (af_cons (ev 3) (af_cons (ev 2) (af_cons (ef_f 2 h__law_sub hr (by omega) (by rfl) (af_cons (ef_ix (ev 12) (ef_int)) (af_cons (ef_tup (af_cons (ef_int) (af_cons (ef_int) (af_nil)))) (af_nil))) (al_cons (al_cons (al_nil)))) (af_nil)))))) (al_cons (al_cons (al_cons (al_cons (al_cons (al_nil))))))) (ef_non)))))))))))))))))))))))
theorem ok_law_fn (z_len : mg "len" = none) (z_list : mg "list" = none) (z_range : mg "range" = none) (h_slopes : Fn P w K mg base "slopes" 3 ["left", "right", "loads", "pull"] (spL K 4 m_slopes)) (h_points : Fn P w K mg base "points" 4 ["left", "right", "loads", "pull"] (spL K 4 m_points)) (h_height_at : Fn P w K mg base "height_at" 5 ["left", "right", "loads", "pull", "place"] (spF K 5 m_height_at)) (h_sag : Fn P w K mg base "sag" 6 ["left", "right", "loads", "pull", "place"] (spF K 5 m_sag)) (h_greatest_sag : Fn P w K mg base "greatest_sag" 7 ["left", "right", "loads", "pull"] (spF K 4 m_greatest_sag)) (h_pull_through : Fn P w K mg base "pull_through" 7 ["left", "right", "loads", "point"] (spF K 4 m_pull_through)) (h_loads_of : Fn P w K mg base "loads_of" 3 ["told", "pull"] (spL K 2 m_loads_of)) (h_end_pulls : Fn P w K mg base "end_pulls" 4 ["left", "right", "loads", "pull"] (spF K 4 m_end_pulls)) (h_whole_load : Fn P w K mg base "whole_load" 4 ["loads"] (spF K 1 m_whole_load)) (h__law_pool : Fn P w K mg base "_law_pool" 3 ["script"] (spL K 1 m__law_pool)) (h__law_next : Fn P w K mg base "_law_next" 3 ["pool"] (spP K 1 m__law_next)) (h__law_draw : Fn P w K mg base "_law_draw" 3 ["pool", "limit"] (spP K 2 m__law_draw)) (h__law_pick : Fn P w K mg base "_law_pick" 4 ["pool", "options"] (spP K 2 m__law_pick)) (h__law_same : Fn P w K mg base "_law_same" 21 ["answer", "due"] (spF K 2 (m__law_same 20))) (h__law_ratio : Fn P w K mg base "_law_ratio" 2 ["p", "q"] (spF K 2 m__law_ratio)) (h__law_add : Fn P w K mg base "_law_add" 3 ["one", "other"] (spF K 2 m__law_add)) (h__law_sub : Fn P w K mg base "_law_sub" 3 ["one", "other"] (spF K 2 m__law_sub)) (h__law_mul : Fn P w K mg base "_law_mul" 3 ["one", "other"] (spF K 2 m__law_mul)) (h__law_div : Fn P w K mg base "_law_div" 3 ["one", "other"] (spF K 2 m__law_div)) (h__law_small_told : Fn P w K mg base "_law_small_told" 5 ["pool"] (spP K 1 m__law_small_told)) (h__law_hung : Fn P w K mg base "_law_hung" 6 ["pool"] (spP K 1 m__law_hung)) (h__law_moment : Fn P w K mg base "_law_moment" 4 ["left", "right", "loads", "place"] (spF K 4 m__law_moment)) (h__law_line_own : Fn P w K mg base "_law_line_own" 4 ["left", "right", "place"] (spF K 3 m__law_line_own)) {f : Addr} {fd : FuncData} (F : Fun K "law" "law" s_law f fd) : FnOk P w K mg base CX0 22 f fd ["script"] (spF K 1 m_law) := (fn_F F sc_law (bd_law z_len z_list z_range   h_slopes h_points h_height_at h_sag h_greatest_sag h_pull_through h_loads_of h_end_pulls h_whole_load h__law_pool h__law_next h__law_draw h__law_pick h__law_same h__law_ratio h__law_add h__law_sub h__law_mul h__law_div h__law_small_told h__law_hung h__law_moment h__law_line_own) :)
end
end Lw
set_option Elab.async false
set_option linter.all false
set_option maxRecDepth 100000
set_option maxHeartbeats 4000000
namespace Lw
open PySem PySem.Spec PyProof.Rows L2 Dn
theorem all_mk {l : PySem.W.OpenLaw} {w : World} {K : PySem.W.Frag} {h : Heap} {mg : Str → Option Value} {fa f0 f1 f2 f3 f4 f5 f6 f7 f8 f9 f10 f11 f12 f13 f14 f15 f16 f17 f18 f19 f20 f21 f22 f23 f24 f25 f26 f27 f28 f29 f30 f31 f32 f33 : Addr} (X : K.In h) (G : h.Ns mainGlobals mg) (hfa : mg "law" = some (.ref fa))
    {od0 an0 : Option Addr} {sl0 : Array (Option Value)} {oc0 kV0 dc0 pm0 cd0 ct0 : Value}
    {od1 an1 : Option Addr} {sl1 : Array (Option Value)} {oc1 kV1 dc1 pm1 cd1 ct1 : Value}
    {od2 an2 : Option Addr} {sl2 : Array (Option Value)} {oc2 kV2 dc2 pm2 cd2 ct2 : Value}
    {od3 an3 : Option Addr} {sl3 : Array (Option Value)} {oc3 kV3 dc3 pm3 cd3 ct3 : Value}
    {od4 an4 : Option Addr} {sl4 : Array (Option Value)} {oc4 kV4 dc4 pm4 cd4 ct4 : Value}
    {od5 an5 : Option Addr} {sl5 : Array (Option Value)} {oc5 kV5 dc5 pm5 cd5 ct5 : Value}
    {od6 an6 : Option Addr} {sl6 : Array (Option Value)} {oc6 kV6 dc6 pm6 cd6 ct6 : Value}
    {od7 an7 : Option Addr} {sl7 : Array (Option Value)} {oc7 kV7 dc7 pm7 cd7 ct7 : Value}
    {od8 an8 : Option Addr} {sl8 : Array (Option Value)} {oc8 kV8 dc8 pm8 cd8 ct8 : Value}
    {od9 an9 : Option Addr} {sl9 : Array (Option Value)} {oc9 kV9 dc9 pm9 cd9 ct9 : Value}
    {od10 an10 : Option Addr} {sl10 : Array (Option Value)} {oc10 kV10 dc10 pm10 cd10 ct10 : Value}
    {od11 an11 : Option Addr} {sl11 : Array (Option Value)} {oc11 kV11 dc11 pm11 cd11 ct11 : Value}
    {od12 an12 : Option Addr} {sl12 : Array (Option Value)} {oc12 kV12 dc12 pm12 cd12 ct12 : Value}
    {od13 an13 : Option Addr} {sl13 : Array (Option Value)} {oc13 kV13 dc13 pm13 cd13 ct13 : Value}
    {od14 an14 : Option Addr} {sl14 : Array (Option Value)} {oc14 kV14 dc14 pm14 cd14 ct14 : Value}
    {od15 an15 : Option Addr} {sl15 : Array (Option Value)} {oc15 kV15 dc15 pm15 cd15 ct15 : Value}
    {od16 an16 : Option Addr} {sl16 : Array (Option Value)} {oc16 kV16 dc16 pm16 cd16 ct16 : Value}
    {od17 an17 : Option Addr} {sl17 : Array (Option Value)} {oc17 kV17 dc17 pm17 cd17 ct17 : Value}
    {od18 an18 : Option Addr} {sl18 : Array (Option Value)} {oc18 kV18 dc18 pm18 cd18 ct18 : Value}
    {od19 an19 : Option Addr} {sl19 : Array (Option Value)} {oc19 kV19 dc19 pm19 cd19 ct19 : Value}
    {od20 an20 : Option Addr} {sl20 : Array (Option Value)} {oc20 kV20 dc20 pm20 cd20 ct20 : Value}
    {od21 an21 : Option Addr} {sl21 : Array (Option Value)} {oc21 kV21 dc21 pm21 cd21 ct21 : Value}
    {od22 an22 : Option Addr} {sl22 : Array (Option Value)} {oc22 kV22 dc22 pm22 cd22 ct22 : Value}
    {od23 an23 : Option Addr} {sl23 : Array (Option Value)} {oc23 kV23 dc23 pm23 cd23 ct23 : Value}
    {od24 an24 : Option Addr} {sl24 : Array (Option Value)} {oc24 kV24 dc24 pm24 cd24 ct24 : Value}
    {od25 an25 : Option Addr} {sl25 : Array (Option Value)} {oc25 kV25 dc25 pm25 cd25 ct25 : Value}
    {od26 an26 : Option Addr} {sl26 : Array (Option Value)} {oc26 kV26 dc26 pm26 cd26 ct26 : Value}
    {od27 an27 : Option Addr} {sl27 : Array (Option Value)} {oc27 kV27 dc27 pm27 cd27 ct27 : Value}
    {od28 an28 : Option Addr} {sl28 : Array (Option Value)} {oc28 kV28 dc28 pm28 cd28 ct28 : Value}
    {od29 an29 : Option Addr} {sl29 : Array (Option Value)} {oc29 kV29 dc29 pm29 cd29 ct29 : Value}
    {od30 an30 : Option Addr} {sl30 : Array (Option Value)} {oc30 kV30 dc30 pm30 cd30 ct30 : Value}
    {od31 an31 : Option Addr} {sl31 : Array (Option Value)} {oc31 kV31 dc31 pm31 cd31 ct31 : Value}
    {od32 an32 : Option Addr} {sl32 : Array (Option Value)} {oc32 kV32 dc32 pm32 cd32 ct32 : Value}
    {od33 an33 : Option Addr} {sl33 : Array (Option Value)} {oc33 kV33 dc33 pm33 cd33 ct33 : Value} {p_NOUGHT : Addr} {od_NOUGHT : Option Addr} {sz_NOUGHT : Nat} {sl_NOUGHT : Array (Option Value)} {tNOUGHT0 tNOUGHT1 : Tok}
    (a0 : PySem.W.nsIn K mainGlobals "frac" = some (some (.ref f0))) (l0 : K.lookup f0 = some ⟨oc0, od0, .func (PySem.W.fnOf "frac" "frac" (defArgs s_frac) (defBody s_frac) (defScope s_frac) .none kV0 dc0 pm0 an0 cd0 ct0), sl0⟩) (c0 : PySem.W.codeIn K cd0 "frac" = true) (k0 : PySem.W.keepIn K (.ref f0) = true)
    (a1 : PySem.W.nsIn K mainGlobals "plus" = some (some (.ref f1))) (l1 : K.lookup f1 = some ⟨oc1, od1, .func (PySem.W.fnOf "plus" "plus" (defArgs s_plus) (defBody s_plus) (defScope s_plus) .none kV1 dc1 pm1 an1 cd1 ct1), sl1⟩) (c1 : PySem.W.codeIn K cd1 "plus" = true) (k1 : PySem.W.keepIn K (.ref f1) = true)
    (a2 : PySem.W.nsIn K mainGlobals "minus" = some (some (.ref f2))) (l2 : K.lookup f2 = some ⟨oc2, od2, .func (PySem.W.fnOf "minus" "minus" (defArgs s_minus) (defBody s_minus) (defScope s_minus) .none kV2 dc2 pm2 an2 cd2 ct2), sl2⟩) (c2 : PySem.W.codeIn K cd2 "minus" = true) (k2 : PySem.W.keepIn K (.ref f2) = true)
    (a3 : PySem.W.nsIn K mainGlobals "times" = some (some (.ref f3))) (l3 : K.lookup f3 = some ⟨oc3, od3, .func (PySem.W.fnOf "times" "times" (defArgs s_times) (defBody s_times) (defScope s_times) .none kV3 dc3 pm3 an3 cd3 ct3), sl3⟩) (c3 : PySem.W.codeIn K cd3 "times" = true) (k3 : PySem.W.keepIn K (.ref f3) = true)
    (a4 : PySem.W.nsIn K mainGlobals "over" = some (some (.ref f4))) (l4 : K.lookup f4 = some ⟨oc4, od4, .func (PySem.W.fnOf "over" "over" (defArgs s_over) (defBody s_over) (defScope s_over) .none kV4 dc4 pm4 an4 cd4 ct4), sl4⟩) (c4 : PySem.W.codeIn K cd4 "over" = true) (k4 : PySem.W.keepIn K (.ref f4) = true)
    (a5 : PySem.W.nsIn K mainGlobals "less" = some (some (.ref f5))) (l5 : K.lookup f5 = some ⟨oc5, od5, .func (PySem.W.fnOf "less" "less" (defArgs s_less) (defBody s_less) (defScope s_less) .none kV5 dc5 pm5 an5 cd5 ct5), sl5⟩) (c5 : PySem.W.codeIn K cd5 "less" = true) (k5 : PySem.W.keepIn K (.ref f5) = true)
    (a6 : PySem.W.nsIn K mainGlobals "sum_of" = some (some (.ref f6))) (l6 : K.lookup f6 = some ⟨oc6, od6, .func (PySem.W.fnOf "sum_of" "sum_of" (defArgs s_sum_of) (defBody s_sum_of) (defScope s_sum_of) .none kV6 dc6 pm6 an6 cd6 ct6), sl6⟩) (c6 : PySem.W.codeIn K cd6 "sum_of" = true) (k6 : PySem.W.keepIn K (.ref f6) = true)
    (a7 : PySem.W.nsIn K mainGlobals "slopes" = some (some (.ref f7))) (l7 : K.lookup f7 = some ⟨oc7, od7, .func (PySem.W.fnOf "slopes" "slopes" (defArgs s_slopes) (defBody s_slopes) (defScope s_slopes) .none kV7 dc7 pm7 an7 cd7 ct7), sl7⟩) (c7 : PySem.W.codeIn K cd7 "slopes" = true) (k7 : PySem.W.keepIn K (.ref f7) = true)
    (a8 : PySem.W.nsIn K mainGlobals "points" = some (some (.ref f8))) (l8 : K.lookup f8 = some ⟨oc8, od8, .func (PySem.W.fnOf "points" "points" (defArgs s_points) (defBody s_points) (defScope s_points) .none kV8 dc8 pm8 an8 cd8 ct8), sl8⟩) (c8 : PySem.W.codeIn K cd8 "points" = true) (k8 : PySem.W.keepIn K (.ref f8) = true)
    (a9 : PySem.W.nsIn K mainGlobals "height_at" = some (some (.ref f9))) (l9 : K.lookup f9 = some ⟨oc9, od9, .func (PySem.W.fnOf "height_at" "height_at" (defArgs s_height_at) (defBody s_height_at) (defScope s_height_at) .none kV9 dc9 pm9 an9 cd9 ct9), sl9⟩) (c9 : PySem.W.codeIn K cd9 "height_at" = true) (k9 : PySem.W.keepIn K (.ref f9) = true)
    (a10 : PySem.W.nsIn K mainGlobals "sag" = some (some (.ref f10))) (l10 : K.lookup f10 = some ⟨oc10, od10, .func (PySem.W.fnOf "sag" "sag" (defArgs s_sag) (defBody s_sag) (defScope s_sag) .none kV10 dc10 pm10 an10 cd10 ct10), sl10⟩) (c10 : PySem.W.codeIn K cd10 "sag" = true) (k10 : PySem.W.keepIn K (.ref f10) = true)
    (a11 : PySem.W.nsIn K mainGlobals "greatest_sag" = some (some (.ref f11))) (l11 : K.lookup f11 = some ⟨oc11, od11, .func (PySem.W.fnOf "greatest_sag" "greatest_sag" (defArgs s_greatest_sag) (defBody s_greatest_sag) (defScope s_greatest_sag) .none kV11 dc11 pm11 an11 cd11 ct11), sl11⟩) (c11 : PySem.W.codeIn K cd11 "greatest_sag" = true) (k11 : PySem.W.keepIn K (.ref f11) = true)
    (a12 : PySem.W.nsIn K mainGlobals "pull_through" = some (some (.ref f12))) (l12 : K.lookup f12 = some ⟨oc12, od12, .func (PySem.W.fnOf "pull_through" "pull_through" (defArgs s_pull_through) (defBody s_pull_through) (defScope s_pull_through) .none kV12 dc12 pm12 an12 cd12 ct12), sl12⟩) (c12 : PySem.W.codeIn K cd12 "pull_through" = true) (k12 : PySem.W.keepIn K (.ref f12) = true)
    (a13 : PySem.W.nsIn K mainGlobals "loads_of" = some (some (.ref f13))) (l13 : K.lookup f13 = some ⟨oc13, od13, .func (PySem.W.fnOf "loads_of" "loads_of" (defArgs s_loads_of) (defBody s_loads_of) (defScope s_loads_of) .none kV13 dc13 pm13 an13 cd13 ct13), sl13⟩) (c13 : PySem.W.codeIn K cd13 "loads_of" = true) (k13 : PySem.W.keepIn K (.ref f13) = true)
    (a14 : PySem.W.nsIn K mainGlobals "end_pulls" = some (some (.ref f14))) (l14 : K.lookup f14 = some ⟨oc14, od14, .func (PySem.W.fnOf "end_pulls" "end_pulls" (defArgs s_end_pulls) (defBody s_end_pulls) (defScope s_end_pulls) .none kV14 dc14 pm14 an14 cd14 ct14), sl14⟩) (c14 : PySem.W.codeIn K cd14 "end_pulls" = true) (k14 : PySem.W.keepIn K (.ref f14) = true)
    (a15 : PySem.W.nsIn K mainGlobals "whole_load" = some (some (.ref f15))) (l15 : K.lookup f15 = some ⟨oc15, od15, .func (PySem.W.fnOf "whole_load" "whole_load" (defArgs s_whole_load) (defBody s_whole_load) (defScope s_whole_load) .none kV15 dc15 pm15 an15 cd15 ct15), sl15⟩) (c15 : PySem.W.codeIn K cd15 "whole_load" = true) (k15 : PySem.W.keepIn K (.ref f15) = true)
    (a16 : PySem.W.nsIn K mainGlobals "_law_mixed" = some (some (.ref f16))) (l16 : K.lookup f16 = some ⟨oc16, od16, .func (PySem.W.fnOf "_law_mixed" "_law_mixed" (defArgs s__law_mixed) (defBody s__law_mixed) (defScope s__law_mixed) .none kV16 dc16 pm16 an16 cd16 ct16), sl16⟩) (c16 : PySem.W.codeIn K cd16 "_law_mixed" = true) (k16 : PySem.W.keepIn K (.ref f16) = true)
    (a17 : PySem.W.nsIn K mainGlobals "_law_rest" = some (some (.ref f17))) (l17 : K.lookup f17 = some ⟨oc17, od17, .func (PySem.W.fnOf "_law_rest" "_law_rest" (defArgs s__law_rest) (defBody s__law_rest) (defScope s__law_rest) .none kV17 dc17 pm17 an17 cd17 ct17), sl17⟩) (c17 : PySem.W.codeIn K cd17 "_law_rest" = true) (k17 : PySem.W.keepIn K (.ref f17) = true)
    (a18 : PySem.W.nsIn K mainGlobals "_law_pool" = some (some (.ref f18))) (l18 : K.lookup f18 = some ⟨oc18, od18, .func (PySem.W.fnOf "_law_pool" "_law_pool" (defArgs s__law_pool) (defBody s__law_pool) (defScope s__law_pool) .none kV18 dc18 pm18 an18 cd18 ct18), sl18⟩) (c18 : PySem.W.codeIn K cd18 "_law_pool" = true) (k18 : PySem.W.keepIn K (.ref f18) = true)
    (a19 : PySem.W.nsIn K mainGlobals "_law_next" = some (some (.ref f19))) (l19 : K.lookup f19 = some ⟨oc19, od19, .func (PySem.W.fnOf "_law_next" "_law_next" (defArgs s__law_next) (defBody s__law_next) (defScope s__law_next) .none kV19 dc19 pm19 an19 cd19 ct19), sl19⟩) (c19 : PySem.W.codeIn K cd19 "_law_next" = true) (k19 : PySem.W.keepIn K (.ref f19) = true)
    (a20 : PySem.W.nsIn K mainGlobals "_law_draw" = some (some (.ref f20))) (l20 : K.lookup f20 = some ⟨oc20, od20, .func (PySem.W.fnOf "_law_draw" "_law_draw" (defArgs s__law_draw) (defBody s__law_draw) (defScope s__law_draw) .none kV20 dc20 pm20 an20 cd20 ct20), sl20⟩) (c20 : PySem.W.codeIn K cd20 "_law_draw" = true) (k20 : PySem.W.keepIn K (.ref f20) = true)
    (a21 : PySem.W.nsIn K mainGlobals "_law_pick" = some (some (.ref f21))) (l21 : K.lookup f21 = some ⟨oc21, od21, .func (PySem.W.fnOf "_law_pick" "_law_pick" (defArgs s__law_pick) (defBody s__law_pick) (defScope s__law_pick) .none kV21 dc21 pm21 an21 cd21 ct21), sl21⟩) (c21 : PySem.W.codeIn K cd21 "_law_pick" = true) (k21 : PySem.W.keepIn K (.ref f21) = true)
    (a22 : PySem.W.nsIn K mainGlobals "_law_same" = some (some (.ref f22))) (l22 : K.lookup f22 = some ⟨oc22, od22, .func (PySem.W.fnOf "_law_same" "_law_same" (defArgs s__law_same) (defBody s__law_same) (defScope s__law_same) .none kV22 dc22 pm22 an22 cd22 ct22), sl22⟩) (c22 : PySem.W.codeIn K cd22 "_law_same" = true) (k22 : PySem.W.keepIn K (.ref f22) = true)
    (a23 : PySem.W.nsIn K mainGlobals "_law_gcd" = some (some (.ref f23))) (l23 : K.lookup f23 = some ⟨oc23, od23, .func (PySem.W.fnOf "_law_gcd" "_law_gcd" (defArgs s__law_gcd) (defBody s__law_gcd) (defScope s__law_gcd) .none kV23 dc23 pm23 an23 cd23 ct23), sl23⟩) (c23 : PySem.W.codeIn K cd23 "_law_gcd" = true) (k23 : PySem.W.keepIn K (.ref f23) = true)
    (a24 : PySem.W.nsIn K mainGlobals "_law_ratio" = some (some (.ref f24))) (l24 : K.lookup f24 = some ⟨oc24, od24, .func (PySem.W.fnOf "_law_ratio" "_law_ratio" (defArgs s__law_ratio) (defBody s__law_ratio) (defScope s__law_ratio) .none kV24 dc24 pm24 an24 cd24 ct24), sl24⟩) (c24 : PySem.W.codeIn K cd24 "_law_ratio" = true) (k24 : PySem.W.keepIn K (.ref f24) = true)
    (a25 : PySem.W.nsIn K mainGlobals "_law_add" = some (some (.ref f25))) (l25 : K.lookup f25 = some ⟨oc25, od25, .func (PySem.W.fnOf "_law_add" "_law_add" (defArgs s__law_add) (defBody s__law_add) (defScope s__law_add) .none kV25 dc25 pm25 an25 cd25 ct25), sl25⟩) (c25 : PySem.W.codeIn K cd25 "_law_add" = true) (k25 : PySem.W.keepIn K (.ref f25) = true)
    (a26 : PySem.W.nsIn K mainGlobals "_law_sub" = some (some (.ref f26))) (l26 : K.lookup f26 = some ⟨oc26, od26, .func (PySem.W.fnOf "_law_sub" "_law_sub" (defArgs s__law_sub) (defBody s__law_sub) (defScope s__law_sub) .none kV26 dc26 pm26 an26 cd26 ct26), sl26⟩) (c26 : PySem.W.codeIn K cd26 "_law_sub" = true) (k26 : PySem.W.keepIn K (.ref f26) = true)
    (a27 : PySem.W.nsIn K mainGlobals "_law_mul" = some (some (.ref f27))) (l27 : K.lookup f27 = some ⟨oc27, od27, .func (PySem.W.fnOf "_law_mul" "_law_mul" (defArgs s__law_mul) (defBody s__law_mul) (defScope s__law_mul) .none kV27 dc27 pm27 an27 cd27 ct27), sl27⟩) (c27 : PySem.W.codeIn K cd27 "_law_mul" = true) (k27 : PySem.W.keepIn K (.ref f27) = true)
    (a28 : PySem.W.nsIn K mainGlobals "_law_div" = some (some (.ref f28))) (l28 : K.lookup f28 = some ⟨oc28, od28, .func (PySem.W.fnOf "_law_div" "_law_div" (defArgs s__law_div) (defBody s__law_div) (defScope s__law_div) .none kV28 dc28 pm28 an28 cd28 ct28), sl28⟩) (c28 : PySem.W.codeIn K cd28 "_law_div" = true) (k28 : PySem.W.keepIn K (.ref f28) = true)
    (a29 : PySem.W.nsIn K mainGlobals "_law_small_told" = some (some (.ref f29))) (l29 : K.lookup f29 = some ⟨oc29, od29, .func (PySem.W.fnOf "_law_small_told" "_law_small_told" (defArgs s__law_small_told) (defBody s__law_small_told) (defScope s__law_small_told) .none kV29 dc29 pm29 an29 cd29 ct29), sl29⟩) (c29 : PySem.W.codeIn K cd29 "_law_small_told" = true) (k29 : PySem.W.keepIn K (.ref f29) = true)
    (a30 : PySem.W.nsIn K mainGlobals "_law_hung" = some (some (.ref f30))) (l30 : K.lookup f30 = some ⟨oc30, od30, .func (PySem.W.fnOf "_law_hung" "_law_hung" (defArgs s__law_hung) (defBody s__law_hung) (defScope s__law_hung) .none kV30 dc30 pm30 an30 cd30 ct30), sl30⟩) (c30 : PySem.W.codeIn K cd30 "_law_hung" = true) (k30 : PySem.W.keepIn K (.ref f30) = true)
    (a31 : PySem.W.nsIn K mainGlobals "_law_moment" = some (some (.ref f31))) (l31 : K.lookup f31 = some ⟨oc31, od31, .func (PySem.W.fnOf "_law_moment" "_law_moment" (defArgs s__law_moment) (defBody s__law_moment) (defScope s__law_moment) .none kV31 dc31 pm31 an31 cd31 ct31), sl31⟩) (c31 : PySem.W.codeIn K cd31 "_law_moment" = true) (k31 : PySem.W.keepIn K (.ref f31) = true)
    (a32 : PySem.W.nsIn K mainGlobals "_law_line_own" = some (some (.ref f32))) (l32 : K.lookup f32 = some ⟨oc32, od32, .func (PySem.W.fnOf "_law_line_own" "_law_line_own" (defArgs s__law_line_own) (defBody s__law_line_own) (defScope s__law_line_own) .none kV32 dc32 pm32 an32 cd32 ct32), sl32⟩) (c32 : PySem.W.codeIn K cd32 "_law_line_own" = true) (k32 : PySem.W.keepIn K (.ref f32) = true)
    (a33 : PySem.W.nsIn K mainGlobals "law" = some (some (.ref f33))) (l33 : K.lookup f33 = some ⟨oc33, od33, .func (PySem.W.fnOf "law" "law" (defArgs s_law) (defBody s_law) (defScope s_law) .none kV33 dc33 pm33 an33 cd33 ct33), sl33⟩) (c33 : PySem.W.codeIn K cd33 "law" = true) (k33 : PySem.W.keepIn K (.ref f33) = true)
    (z_abs : PySem.W.nsIn K mainGlobals "abs" = some none)
    (z_bool : PySem.W.nsIn K mainGlobals "bool" = some none)
    (z_dict : PySem.W.nsIn K mainGlobals "dict" = some none)
    (z_int : PySem.W.nsIn K mainGlobals "int" = some none)
    (z_isinstance : PySem.W.nsIn K mainGlobals "isinstance" = some none)
    (z_len : PySem.W.nsIn K mainGlobals "len" = some none)
    (z_list : PySem.W.nsIn K mainGlobals "list" = some none)
    (z_range : PySem.W.nsIn K mainGlobals "range" = some none)
    (z_str : PySem.W.nsIn K mainGlobals "str" = some none)
    (z_tuple : PySem.W.nsIn K mainGlobals "tuple" = some none)
    (z_zip : PySem.W.nsIn K mainGlobals "zip" = some none)
    (i_gcd : PySem.W.nsIn K mainGlobals "gcd" = some (some (.builtin "math.gcd")))
    (n_NOUGHT : PySem.W.nsIn K mainGlobals "NOUGHT" = some (some (.ref p_NOUGHT))) (o_NOUGHT : K.lookup p_NOUGHT = some ⟨.type "tuple", od_NOUGHT, .seq #[.int 0 tNOUGHT0, .int 1 tNOUGHT1] sz_NOUGHT, sl_NOUGHT⟩) :
    ∃ fd : FuncData, (∀ (s : Shared) (v : Value), BindsTo s fd ⟨[v], []⟩ [("script", v)]) ∧ ∀ base : Heap, K.In base → base.Ns mainGlobals mg → FnOk l.prog w K mg base CX0 22 fa fd ["script"] (spLaw K) := by
  have e := hfa.symm.trans (PySem.W.mg_of X G a33)
  cases e
  refine ⟨PySem.W.fnOf "law" "law" (defArgs s_law) (defBody s_law) (defScope s_law) .none kV33 dc33 pm33 an33 cd33 ct33, fun s v => .of_eq rfl, fun base _ _ => ?_⟩
  have y_abs := PySem.W.mg_none_of X G z_abs
  have y_bool := PySem.W.mg_none_of X G z_bool
  have y_dict := PySem.W.mg_none_of X G z_dict
  have y_int := PySem.W.mg_none_of X G z_int
  have y_isinstance := PySem.W.mg_none_of X G z_isinstance
  have y_len := PySem.W.mg_none_of X G z_len
  have y_list := PySem.W.mg_none_of X G z_list
  have y_range := PySem.W.mg_none_of X G z_range
  have y_str := PySem.W.mg_none_of X G z_str
  have y_tuple := PySem.W.mg_none_of X G z_tuple
  have y_zip := PySem.W.mg_none_of X G z_zip
  have y_gcd := PySem.W.mg_of X G i_gcd
  have y_NOUGHT : Gc K mg "NOUGHT" c_NOUGHT := ⟨_, .ref p_NOUGHT, PySem.W.mg_of X G n_NOUGHT, rfl, fun S => rp_tup.mpr ⟨p_NOUGHT, [.int 0, .int 1], rfl, .inr ⟨_, _, _, o_NOUGHT, rfl, rfl, (by decide : (2 : Nat) ≤ sizeLine), (.cons ⟨tNOUGHT0, rfl⟩ (.cons ⟨tNOUGHT1, rfl⟩ .nil))⟩, RpL.ints [0, 1]⟩⟩
  have H_frac : Fn l.prog w K mg base "frac" 1 ["p", "q"] (spF K 2 m_frac) := ok_frac y_gcd (fun_mk (st := s_frac) l0 c0 k0) (PySem.W.mg_of X G a0)
  have H_plus : Fn l.prog w K mg base "plus" 2 ["a", "b"] (spF K 2 m_plus) := ok_plus H_frac (fun_mk (st := s_plus) l1 c1 k1) (PySem.W.mg_of X G a1)
  have H_minus : Fn l.prog w K mg base "minus" 2 ["a", "b"] (spF K 2 m_minus) := ok_minus H_frac (fun_mk (st := s_minus) l2 c2 k2) (PySem.W.mg_of X G a2)
  have H_times : Fn l.prog w K mg base "times" 2 ["a", "b"] (spF K 2 m_times) := ok_times H_frac (fun_mk (st := s_times) l3 c3 k3) (PySem.W.mg_of X G a3)
  have H_over : Fn l.prog w K mg base "over" 2 ["a", "b"] (spF K 2 m_over) := ok_over H_frac (fun_mk (st := s_over) l4 c4 k4) (PySem.W.mg_of X G a4)
  have H_less : Fn l.prog w K mg base "less" 1 ["a", "b"] (spF K 2 m_less) := ok_less  (fun_mk (st := s_less) l5 c5 k5) (PySem.W.mg_of X G a5)
  have H_sum_of : Fn l.prog w K mg base "sum_of" 3 ["numbers"] (spF K 1 m_sum_of) := ok_sum_of y_NOUGHT H_plus (fun_mk (st := s_sum_of) l6 c6 k6) (PySem.W.mg_of X G a6)
  have H_slopes : Fn l.prog w K mg base "slopes" 3 ["left", "right", "loads", "pull"] (spL K 4 m_slopes) := ok_slopes y_zip H_plus H_minus H_times H_over (fun_mk (st := s_slopes) l7 c7 k7) (PySem.W.mg_of X G a7)
  have H_points : Fn l.prog w K mg base "points" 4 ["left", "right", "loads", "pull"] (spL K 4 m_points) := ok_points y_zip H_plus H_minus H_times H_slopes (fun_mk (st := s_points) l8 c8 k8) (PySem.W.mg_of X G a8)
  have H_height_at : Fn l.prog w K mg base "height_at" 5 ["left", "right", "loads", "pull", "place"] (spF K 5 m_height_at) := ok_height_at y_zip H_plus H_minus H_times H_over H_less H_points (fun_mk (st := s_height_at) l9 c9 k9) (PySem.W.mg_of X G a9)
  have H_sag : Fn l.prog w K mg base "sag" 6 ["left", "right", "loads", "pull", "place"] (spF K 5 m_sag) := ok_sag H_plus H_minus H_times H_over H_height_at (fun_mk (st := s_sag) l10 c10 k10) (PySem.W.mg_of X G a10)
  have H_greatest_sag : Fn l.prog w K mg base "greatest_sag" 7 ["left", "right", "loads", "pull"] (spF K 4 m_greatest_sag) := ok_greatest_sag H_less H_sag (fun_mk (st := s_greatest_sag) l11 c11 k11) (PySem.W.mg_of X G a11)
  have H_pull_through : Fn l.prog w K mg base "pull_through" 7 ["left", "right", "loads", "point"] (spF K 4 m_pull_through) := ok_pull_through y_NOUGHT H_plus H_minus H_times H_over H_less H_sag (fun_mk (st := s_pull_through) l12 c12 k12) (PySem.W.mg_of X G a12)
  have H_loads_of : Fn l.prog w K mg base "loads_of" 3 ["told", "pull"] (spL K 2 m_loads_of) := ok_loads_of y_zip H_minus H_times H_over (fun_mk (st := s_loads_of) l13 c13 k13) (PySem.W.mg_of X G a13)
  have H_end_pulls : Fn l.prog w K mg base "end_pulls" 4 ["left", "right", "loads", "pull"] (spF K 4 m_end_pulls) := ok_end_pulls y_NOUGHT H_minus H_times H_slopes (fun_mk (st := s_end_pulls) l14 c14 k14) (PySem.W.mg_of X G a14)
  have H_whole_load : Fn l.prog w K mg base "whole_load" 4 ["loads"] (spF K 1 m_whole_load) := ok_whole_load H_sum_of (fun_mk (st := s_whole_load) l15 c15 k15) (PySem.W.mg_of X G a15)
  have H__law_mixed : Fn l.prog w K mg base "_law_mixed" 1 ["number", "place"] (spF K 2 m__law_mixed) := ok__law_mixed y_int (fun_mk (st := s__law_mixed) l16 c16 k16) (PySem.W.mg_of X G a16)
  have H__law_rest : Fn l.prog w K mg base "_law_rest" 2 ["script", "place", "fills"] (spF K 3 m__law_rest) := ok__law_rest y_int y_len H__law_mixed (fun_mk (st := s__law_rest) l17 c17 k17) (PySem.W.mg_of X G a17)
  have H__law_pool : Fn l.prog w K mg base "_law_pool" 3 ["script"] (spL K 1 m__law_pool) := ok__law_pool H__law_rest (fun_mk (st := s__law_pool) l18 c18 k18) (PySem.W.mg_of X G a18)
  have H__law_next : Fn l.prog w K mg base "_law_next" 3 ["pool"] (spP K 1 m__law_next) := ok__law_next H__law_rest (fun_mk (st := s__law_next) l19 c19 k19) (PySem.W.mg_of X G a19)
  have H__law_draw : Fn l.prog w K mg base "_law_draw" 3 ["pool", "limit"] (spP K 2 m__law_draw) := ok__law_draw y_int H__law_rest (fun_mk (st := s__law_draw) l20 c20 k20) (PySem.W.mg_of X G a20)
  have H__law_pick : Fn l.prog w K mg base "_law_pick" 4 ["pool", "options"] (spP K 2 m__law_pick) := ok__law_pick y_len H__law_draw (fun_mk (st := s__law_pick) l21 c21 k21) (PySem.W.mg_of X G a21)
  have H__law_same : Fn l.prog w K mg base "_law_same" 21 ["answer", "due"] (spF K 2 (m__law_same 20)) := ok__law_same y_bool y_dict y_int y_isinstance y_len y_list y_range y_str y_tuple (fun_mk (st := s__law_same) l22 c22 k22) (PySem.W.mg_of X G a22)
  have H__law_gcd : Fn l.prog w K mg base "_law_gcd" 1 ["one", "other"] (spF K 2 m__law_gcd) := ok__law_gcd y_int y_range (fun_mk (st := s__law_gcd) l23 c23 k23) (PySem.W.mg_of X G a23)
  have H__law_ratio : Fn l.prog w K mg base "_law_ratio" 2 ["p", "q"] (spF K 2 m__law_ratio) := ok__law_ratio y_abs H__law_gcd (fun_mk (st := s__law_ratio) l24 c24 k24) (PySem.W.mg_of X G a24)
  have H__law_add : Fn l.prog w K mg base "_law_add" 3 ["one", "other"] (spF K 2 m__law_add) := ok__law_add H__law_ratio (fun_mk (st := s__law_add) l25 c25 k25) (PySem.W.mg_of X G a25)
  have H__law_sub : Fn l.prog w K mg base "_law_sub" 3 ["one", "other"] (spF K 2 m__law_sub) := ok__law_sub H__law_ratio (fun_mk (st := s__law_sub) l26 c26 k26) (PySem.W.mg_of X G a26)
  have H__law_mul : Fn l.prog w K mg base "_law_mul" 3 ["one", "other"] (spF K 2 m__law_mul) := ok__law_mul H__law_ratio (fun_mk (st := s__law_mul) l27 c27 k27) (PySem.W.mg_of X G a27)
  have H__law_div : Fn l.prog w K mg base "_law_div" 3 ["one", "other"] (spF K 2 m__law_div) := ok__law_div H__law_ratio (fun_mk (st := s__law_div) l28 c28 k28) (PySem.W.mg_of X G a28)
  have H__law_small_told : Fn l.prog w K mg base "_law_small_told" 5 ["pool"] (spP K 1 m__law_small_told) := ok__law_small_told H__law_draw H__law_pick H__law_ratio (fun_mk (st := s__law_small_told) l29 c29 k29) (PySem.W.mg_of X G a29)
  have H__law_hung : Fn l.prog w K mg base "_law_hung" 6 ["pool"] (spP K 1 m__law_hung) := ok__law_hung y_len y_range H__law_draw H__law_ratio H__law_add H__law_small_told (fun_mk (st := s__law_hung) l30 c30 k30) (PySem.W.mg_of X G a30)
  have H__law_moment : Fn l.prog w K mg base "_law_moment" 4 ["left", "right", "loads", "place"] (spF K 4 m__law_moment) := ok__law_moment H__law_add H__law_sub H__law_mul H__law_div (fun_mk (st := s__law_moment) l31 c31 k31) (PySem.W.mg_of X G a31)
  have H__law_line_own : Fn l.prog w K mg base "_law_line_own" 4 ["left", "right", "place"] (spF K 3 m__law_line_own) := ok__law_line_own H__law_add H__law_sub H__law_mul H__law_div (fun_mk (st := s__law_line_own) l32 c32 k32) (PySem.W.mg_of X G a32)
  have F := fun_mk (st := s_law) l33 c33 k33
  exact law_of (ok_law_fn y_len y_list y_range H_slopes H_points H_height_at H_sag H_greatest_sag H_pull_through H_loads_of H_end_pulls H_whole_load H__law_pool H__law_next H__law_draw H__law_pick H__law_same H__law_ratio H__law_add H__law_sub H__law_mul H__law_div H__law_small_told H__law_hung H__law_moment H__law_line_own F) law_true
end Lw
open PySem PySem.W PyProof.Rows
set_option maxHeartbeats 0 in
theorem PySem.Challenge.cw_trusswork_k12_whole_hung_ropes_holds : PySem.Challenge.rw_trusswork_k12_whole_hung_ropes.Holds := by
  w_on; o_law; k_head; (case hw => w_witness2)
  k_fill
  refine L2.walk_of (l := PySem.Challenge.rw_trusswork_k12_whole_hung_ropes) (n := 63) (k := 22) (x := "script") (CX := fun _ => L2.CX0) (sp := fun w => Dn.spLaw _) rfl (by decide) rfl ⟨rfl, by decide, by decide⟩ (fun w h Y => PySem.W.kIn_of Y) ?F (fun _ _ a ns hl _ hS => ⟨a, ns, rfl, hS, hl, fun _ => rfl⟩) (fun _ _ _ _ _ h => h)
  case F =>
    intro w mg fa h KX G hmg
    refine' Lw.all_mk KX G hmg ?a0 ?l0 ?c0 ?k0 ?a1 ?l1 ?c1 ?k1 ?a2 ?l2 ?c2 ?k2 ?a3 ?l3 ?c3 ?k3 ?a4 ?l4 ?c4 ?k4 ?a5 ?l5 ?c5 ?k5 ?a6 ?l6 ?c6 ?k6 ?a7 ?l7 ?c7 ?k7 ?a8 ?l8 ?c8 ?k8 ?a9 ?l9 ?c9 ?k9 ?a10 ?l10 ?c10 ?k10 ?a11 ?l11 ?c11 ?k11 ?a12 ?l12 ?c12 ?k12 ?a13 ?l13 ?c13 ?k13 ?a14 ?l14 ?c14 ?k14 ?a15 ?l15 ?c15 ?k15 ?a16 ?l16 ?c16 ?k16 ?a17 ?l17 ?c17 ?k17 ?a18 ?l18 ?c18 ?k18 ?a19 ?l19 ?c19 ?k19 ?a20 ?l20 ?c20 ?k20 ?a21 ?l21 ?c21 ?k21 ?a22 ?l22 ?c22 ?k22 ?a23 ?l23 ?c23 ?k23 ?a24 ?l24 ?c24 ?k24 ?a25 ?l25 ?c25 ?k25 ?a26 ?l26 ?c26 ?k26 ?a27 ?l27 ?c27 ?k27 ?a28 ?l28 ?c28 ?k28 ?a29 ?l29 ?c29 ?k29 ?a30 ?l30 ?c30 ?k30 ?a31 ?l31 ?c31 ?k31 ?a32 ?l32 ?c32 ?k32 ?a33 ?l33 ?c33 ?k33 ?z_abs ?z_bool ?z_dict ?z_int ?z_isinstance ?z_len ?z_list ?z_range ?z_str ?z_tuple ?z_zip ?i_gcd ?n_NOUGHT ?o_NOUGHT
    (case a0 => k_is); (case l0 => k_is); (case c0 => k_is); (case k0 => k_is); (case a1 => k_is); (case l1 => k_is); (case c1 => k_is); (case k1 => k_is); (case a2 => k_is); (case l2 => k_is); (case c2 => k_is); (case k2 => k_is); (case a3 => k_is); (case l3 => k_is); (case c3 => k_is); (case k3 => k_is); (case a4 => k_is); (case l4 => k_is); (case c4 => k_is); (case k4 => k_is); (case a5 => k_is); (case l5 => k_is); (case c5 => k_is); (case k5 => k_is); (case a6 => k_is); (case l6 => k_is); (case c6 => k_is); (case k6 => k_is); (case a7 => k_is); (case l7 => k_is); (case c7 => k_is); (case k7 => k_is); (case a8 => k_is); (case l8 => k_is); (case c8 => k_is); (case k8 => k_is); (case a9 => k_is); (case l9 => k_is); (case c9 => k_is); (case k9 => k_is); (case a10 => k_is); (case l10 => k_is); (case c10 => k_is); (case k10 => k_is); (case a11 => k_is); (case l11 => k_is); (case c11 => k_is); (case k11 => k_is); (case a12 => k_is); (case l12 => k_is); (case c12 => k_is); (case k12 => k_is); (case a13 => k_is); (case l13 => k_is); (case c13 => k_is); (case k13 => k_is); (case a14 => k_is); (case l14 => k_is); (case c14 => k_is); (case k14 => k_is); (case a15 => k_is); (case l15 => k_is); (case c15 => k_is); (case k15 => k_is); (case a16 => k_is); (case l16 => k_is); (case c16 => k_is); (case k16 => k_is); (case a17 => k_is); (case l17 => k_is); (case c17 => k_is); (case k17 => k_is); (case a18 => k_is); (case l18 => k_is); (case c18 => k_is); (case k18 => k_is); (case a19 => k_is); (case l19 => k_is); (case c19 => k_is); (case k19 => k_is); (case a20 => k_is); (case l20 => k_is); (case c20 => k_is); (case k20 => k_is); (case a21 => k_is); (case l21 => k_is); (case c21 => k_is); (case k21 => k_is); (case a22 => k_is); (case l22 => k_is); (case c22 => k_is); (case k22 => k_is); (case a23 => k_is); (case l23 => k_is); (case c23 => k_is); (case k23 => k_is); (case a24 => k_is); (case l24 => k_is); (case c24 => k_is); (case k24 => k_is); (case a25 => k_is); (case l25 => k_is); (case c25 => k_is); (case k25 => k_is); (case a26 => k_is); (case l26 => k_is); (case c26 => k_is); (case k26 => k_is); (case a27 => k_is); (case l27 => k_is); (case c27 => k_is); (case k27 => k_is); (case a28 => k_is); (case l28 => k_is); (case c28 => k_is); (case k28 => k_is); (case a29 => k_is); (case l29 => k_is); (case c29 => k_is); (case k29 => k_is); (case a30 => k_is); (case l30 => k_is); (case c30 => k_is); (case k30 => k_is); (case a31 => k_is); (case l31 => k_is); (case c31 => k_is); (case k31 => k_is); (case a32 => k_is); (case l32 => k_is); (case c32 => k_is); (case k32 => k_is); (case a33 => k_is); (case l33 => k_is); (case c33 => k_is); (case k33 => k_is); (case z_abs => k_is); (case z_bool => k_is); (case z_dict => k_is); (case z_int => k_is); (case z_isinstance => k_is); (case z_len => k_is); (case z_list => k_is); (case z_range => k_is); (case z_str => k_is); (case z_tuple => k_is); (case z_zip => k_is); (case i_gcd => k_is); (case n_NOUGHT => k_is); (case o_NOUGHT => k_is)
