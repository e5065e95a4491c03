import PyProof.Rows.All
import Wide.All
import OpenK.AllK
import Wide.FinOn
import HandS.ForMost
import HandS.Gcd
import HandS.Wide
import HandS.Style
import HandS.IsInst
import HandS.Flow
import HandS.Deep
import HandS.TupLe
import HandS.TupAny
import HandS.IterVal
import HandS.Iter
import HandS.Zip
import HandS.SortInts
import HandS.Text
import KE.GoesMore
import PyProof.Draws
import KE.GoesEnumKw
import HandS.TryOnly
import KE.GoesEnum
import HandS.Conv
import PySem.Challenge.RW_trusswork_k24_whole_tables_reduced
set_option Elab.async false
set_option linter.all false
set_option maxRecDepth 100000
set_option maxHeartbeats 2000000
/-! The data layer: what expressions and statements of a def come to, as plain functions over plain data. -/
namespace Dn
open PySem L2

/-! ### data -/
inductive D where
  | non | bl (b : Bool) | int (i : Int) | str (x : Str) | tup (xs : List D) | lst (xs : List D) | dct (ks vs : List D) | scr (ns : List Int)

/-- a key of a dict with plain keys -/
def keyOf : D → Option Key
  | .int i => some (.inl i)
  | .str x => some (.inr x)
  | _ => none
def keysOf : List D → Option (List Key)
  | [] => some []
  | d :: ds => (keyOf d).bind fun k => (keysOf ds).map (k :: ·)
def tkeyOf : D → Option (List Key)
  | .tup ds => keysOf ds
  | _ => none
def tkeysOf : List D → Option (List (List Key))
  | [] => some []
  | d :: ds => (tkeyOf d).bind fun k => (tkeysOf ds).map (k :: ·)

/-! ### what a value stands for, in the part S of the heap that stays -/
mutual
def Rp (K : PySem.W.Frag) (S : Hp) : D → V → Prop
  | .non, v => v = .non
  | .bl b, v => v = .bl b
  | .int i, v => v = .int i
  | .str x, v => v = .str x
  | .tup ds, v => ∃ a vs, v = .ref a ∧ SqT K S a vs ∧ RpL K S ds vs
  | .lst ds, v => ∃ a vs, v = .ref a ∧ S a = some (.lst vs) ∧ RpL K S ds vs
  | .dct ks ds, v => ∃ a, v = .ref a ∧ ((∃ kvs, S a = some (.dK kvs) ∧ keysOf ks = some (kvs.map (·.1)) ∧ RpL K S ds (kvs.map (·.2))) ∨ (∃ kvs, S a = some (.dT kvs) ∧ tkeysOf ks = some (kvs.map (·.1)) ∧ RpL K S ds (kvs.map (·.2))))
  | .scr ns, v => ∃ a, v = .ref a ∧ SqL K S a (ns.map V.int)
def RpL (K : PySem.W.Frag) (S : Hp) : List D → List V → Prop
  | [], vs => vs = []
  | d :: ds, vs => ∃ v r, vs = v :: r ∧ Rp K S d v ∧ RpL K S ds r
end

abbrev Sb (S H : Hp) : Prop := ∀ a o, S a = some o → H a = some o
theorem Sb.refl (S : Hp) : Sb S S := fun _ _ h => h
theorem Sb.trans {A B C : Hp} (h : Sb A B) (g : Sb B C) : Sb A C := fun a o e => g a o (h a o e)
theorem sb_upd {H : Hp} {p : Addr} {o : HO} (h : H p = none) : Sb H (upd H p o) := fun b u e => by
  rw [upd_ne (ne_of_none e h)]; exact e
theorem sb_rd {S H : Hp} {a : Addr} {u : HO} (e : Sb S H) (h : Rd S a u) : Rd H a u := by
  rcases h with h | ⟨o, h⟩
  · exact .inl (e a _ h)
  · exact .inr ⟨o, e a _ h⟩
theorem sb_l {K : PySem.W.Frag} {S H : Hp} {a : Addr} {xs : List V} (e : Sb S H) (h : SqL K S a xs) : SqL K H a xs := by
  rcases h with h | h
  · exact .inl (sb_rd e h)
  · exact .inr h
theorem sb_t {K : PySem.W.Frag} {S H : Hp} {a : Addr} {xs : List V} (e : Sb S H) (h : SqT K S a xs) : SqT K H a xs := by
  rcases h with h | h
  · exact .inl (sb_rd e h)
  · exact .inr h

mutual
theorem Rp.mono {K : PySem.W.Frag} {S S' : Hp} (e : Sb S S') : ∀ (d : D) (v : V), Rp K S d v → Rp K S' d v
  | .non, v, h => by simpa [Rp] using h
  | .bl b, v, h => by simpa [Rp] using h
  | .int i, v, h => by simpa [Rp] using h
  | .str x, v, h => by simpa [Rp] using h
  | .tup ds, v, h => by
    simp only [Rp] at h ⊢
    obtain ⟨a, vs, e1, h1, h2⟩ := h
    exact ⟨a, vs, e1, sb_t e h1, RpL.mono e ds vs h2⟩
  | .lst ds, v, h => by
    simp only [Rp] at h ⊢
    obtain ⟨a, vs, e1, h1, h2⟩ := h
    exact ⟨a, vs, e1, e _ _ h1, RpL.mono e ds vs h2⟩
  | .dct ks ds, v, h => by
    simp only [Rp] at h ⊢
    obtain ⟨a, e1, h⟩ := h
    rcases h with ⟨kvs, h1, h2, h3⟩ | ⟨kvs, h1, h2, h3⟩
    · exact ⟨a, e1, .inl ⟨kvs, e _ _ h1, h2, RpL.mono e ds _ h3⟩⟩
    · exact ⟨a, e1, .inr ⟨kvs, e _ _ h1, h2, RpL.mono e ds _ h3⟩⟩
  | .scr ns, v, h => by
    simp only [Rp] at h ⊢
    obtain ⟨a, e1, h1⟩ := h
    exact ⟨a, e1, sb_l e h1⟩
theorem RpL.mono {K : PySem.W.Frag} {S S' : Hp} (e : Sb S S') : ∀ (ds : List D) (vs : List V), RpL K S ds vs → RpL K S' ds vs
  | [], vs, h => by simpa [RpL] using h
  | d :: ds, vs, h => by
    simp only [RpL] at h ⊢
    obtain ⟨v, r, e1, h1, h2⟩ := h
    exact ⟨v, r, e1, Rp.mono e d v h1, RpL.mono e ds r h2⟩
end

section
variable {K : PySem.W.Frag} {S : Hp}
theorem RpL.nil : RpL K S [] [] := by simp [RpL]
theorem RpL.cons {d : D} {ds : List D} {v : V} {vs : List V} (h : Rp K S d v) (g : RpL K S ds vs) : RpL K S (d :: ds) (v :: vs) := by
  simp only [RpL]; exact ⟨v, vs, rfl, h, g⟩
theorem RpL.cons_inv {d : D} {ds : List D} {vs : List V} (h : RpL K S (d :: ds) vs) : ∃ v r, vs = v :: r ∧ Rp K S d v ∧ RpL K S ds r := by
  simpa only [RpL] using h
theorem RpL.nil_inv {vs : List V} (h : RpL K S [] vs) : vs = [] := by simpa only [RpL] using h
theorem RpL.len : ∀ {ds : List D} {vs : List V}, RpL K S ds vs → vs.length = ds.length
  | [], vs, h => by rw [h.nil_inv]; rfl
  | d :: ds, vs, h => by
    obtain ⟨v, r, rfl, _, h2⟩ := h.cons_inv
    simp only [List.length_cons, h2.len]
theorem RpL.get : ∀ {ds : List D} {vs : List V} {i : Nat} {d : D}, RpL K S ds vs → ds[i]? = some d → ∃ v, vs[i]? = some v ∧ Rp K S d v
  | [], _, _, _, _, e => by simp at e
  | d :: ds, vs, 0, d', h, e => by
    obtain ⟨v, r, rfl, h1, _⟩ := h.cons_inv
    simp at e; subst e
    exact ⟨v, rfl, h1⟩
  | d :: ds, vs, i + 1, d', h, e => by
    obtain ⟨v, r, rfl, _, h2⟩ := h.cons_inv
    obtain ⟨v', e1, h3⟩ := RpL.get (i := i) h2 (by simpa using e)
    exact ⟨v', by simpa using e1, h3⟩
theorem RpL.getV : ∀ {ds : List D} {vs : List V} {i : Nat} {v : V}, RpL K S ds vs → vs[i]? = some v → ∃ d, ds[i]? = some d ∧ Rp K S d v
  | [], _, _, _, h, e => by rw [h.nil_inv] at e; simp at e
  | d :: ds, vs, 0, v', h, e => by
    obtain ⟨v, r, rfl, h1, _⟩ := h.cons_inv
    simp at e; subst e
    exact ⟨d, rfl, h1⟩
  | d :: ds, vs, i + 1, v', h, e => by
    obtain ⟨v, r, rfl, _, h2⟩ := h.cons_inv
    obtain ⟨d', e1, h3⟩ := RpL.getV (i := i) h2 (by simpa using e)
    exact ⟨d', by simpa using e1, h3⟩
theorem RpL.append : ∀ {ds es : List D} {vs us : List V}, RpL K S ds vs → RpL K S es us → RpL K S (ds ++ es) (vs ++ us)
  | [], _, vs, _, h, g => by rw [h.nil_inv]; exact g
  | d :: ds, es, vs, us, h, g => by
    obtain ⟨v, r, rfl, h1, h2⟩ := h.cons_inv
    exact RpL.cons h1 (h2.append g)
theorem RpL.take : ∀ {ds : List D} {vs : List V} (n : Nat), RpL K S ds vs → RpL K S (ds.take n) (vs.take n)
  | _, _, 0, _ => by simp only [List.take_zero]; exact RpL.nil
  | [], vs, n + 1, h => by rw [h.nil_inv]; exact RpL.nil
  | d :: ds, vs, n + 1, h => by
    obtain ⟨v, r, rfl, h1, h2⟩ := h.cons_inv
    exact RpL.cons h1 (h2.take n)
theorem RpL.drop : ∀ {ds : List D} {vs : List V} (n : Nat), RpL K S ds vs → RpL K S (ds.drop n) (vs.drop n)
  | _, _, 0, h => by simpa using h
  | [], vs, n + 1, h => by rw [h.nil_inv]; exact RpL.nil
  | d :: ds, vs, n + 1, h => by
    obtain ⟨v, r, rfl, h1, h2⟩ := h.cons_inv
    exact h2.drop n
theorem RpL.set : ∀ {ds : List D} {vs : List V} (i : Nat) {d : D} {v : V}, RpL K S ds vs → Rp K S d v → RpL K S (ds.set i d) (vs.set i v)
  | [], vs, _, _, _, h, _ => by rw [h.nil_inv]; exact RpL.nil
  | d :: ds, vs, 0, _, _, h, g => by
    obtain ⟨v, r, rfl, h1, h2⟩ := h.cons_inv
    exact RpL.cons g h2
  | d :: ds, vs, i + 1, _, _, h, g => by
    obtain ⟨v, r, rfl, h1, h2⟩ := h.cons_inv
    exact RpL.cons h1 (h2.set i g)
theorem RpL.ints : ∀ (ns : List Int), RpL K S (ns.map D.int) (ns.map V.int)
  | [] => RpL.nil
  | n :: ns => RpL.cons (by simp [Rp]) (RpL.ints ns)
end

/-! ### slots, the pool -/
inductive Sl where
  | un | val (d : D) | own (xs : List D) | owd (ks vs : List D) | pool
/-- the pool of drawn numbers: the script, the place, the rest, the fills -/
structure Pl where
  scr : List Int
  i : Int
  n : Int
  k : Int
/-- the pool's object, the script's, the script's numbers -/
abbrev PP := Option (Addr × Addr × List Int)
def SlR (K : PySem.W.Frag) (pp : PP) (S : Hp) : Sl → Option (Option V) → Prop
  | .un, _ => True
  | .val d, ov => ∃ v, ov = some (some v) ∧ Rp K S d v
  | .own xs, ov => ∃ v, ov = some (some v) ∧ Rp K S (.lst xs) v
  | .owd ks vs, ov => ∃ v, ov = some (some v) ∧ Rp K S (.dct ks vs) v
  | .pool, ov => ∃ p sc, pp = some (p, sc) ∧ ov = some (some (.ref p))
theorem SlR.mono {K : PySem.W.Frag} {pp : PP} {S S' : Hp} (e : Sb S S') : ∀ {sl : Sl} {ov : Option (Option V)}, SlR K pp S sl ov → SlR K pp S' sl ov
  | .un, _, _ => trivial
  | .val d, _, ⟨v, e1, h⟩ => ⟨v, e1, h.mono e⟩
  | .own xs, _, ⟨v, e1, h⟩ => ⟨v, e1, h.mono e⟩
  | .owd ks vs, _, ⟨v, e1, h⟩ => ⟨v, e1, h.mono e⟩
  | .pool, _, h => h

abbrev Env := List Sl
/-- the state ahead of an expression -/
structure ER (K : PySem.W.Frag) (pp : PP) (S H : Hp) (σ : L2.St) (E : Env) (pl : Option Pl) : Prop where
  sub : Sb S H
  len : E.length = σ.length
  env : ∀ (i : Nat) (sl : Sl), E[i]? = some sl → SlR K pp S sl σ[i]?
  pin : ∀ p sc, pp = some (p, sc) → (∃ o, H p = some o) ∧ S p = none ∧ SqL K S sc.1 (sc.2.map V.int)
  pool : ∀ P, pl = some P → ∃ p sc, pp = some (p, sc) ∧ H p = some (.lst [.ref sc.1, .int P.i, .int P.n, .int P.k]) ∧ P.scr = sc.2
  npp : pl = none → pp = none
/-- behind an expression: what was stands, but the pool; what stays new is new -/
structure Ad (pp : PP) (S H S' H' : Hp) : Prop where
  s : Sb S S'
  h : ∀ a o, H a = some o → (∀ sc, pp ≠ some (a, sc)) → H' a = some o
  t : ∀ a o, H a = some o → ∃ o', H' a = some o'
  n : ∀ a o, S' a = some o → S a = some o ∨ H a = none
/-- new objects that stay, nothing else -/
structure Nw (S H S' H' : Hp) : Prop where
  sub : Sb S' H'
  s : Sb S S'
  h : Sb H H'
  n : ∀ a o, S' a = some o → S a = some o ∨ H a = none
section
variable {K : PySem.W.Frag} {pp : PP} {S S' S'' H H' H'' : Hp} {σ : L2.St} {E : Env} {pl : Option Pl}
theorem Ad.refl : Ad pp S H S H := ⟨Sb.refl _, fun _ _ h _ => h, fun a o h => ⟨o, h⟩, fun _ _ h => .inl h⟩
theorem none_of_t {H H' : Hp} (t : ∀ a o, H a = some o → ∃ o', H' a = some o') {a : Addr} (h : H' a = none) : H a = none := by
  cases e : H a with
  | none => rfl
  | some o => obtain ⟨o', e'⟩ := t a o e; rw [e'] at h; cases h
theorem Ad.trans (a : Ad pp S H S' H') (b : Ad pp S' H' S'' H'') : Ad pp S H S'' H'' :=
  ⟨a.s.trans b.s, fun x o e n => b.h x o (a.h x o e n) n, fun x o e => let ⟨o', e'⟩ := a.t x o e; b.t x o' e', fun x o e => by
    rcases b.n x o e with h | h
    · exact a.n x o h
    · exact .inr (none_of_t a.t h)⟩
theorem Nw.refl (h : Sb S H) : Nw S H S H := ⟨h, Sb.refl _, Sb.refl _, fun _ _ h => .inl h⟩
theorem Nw.t (a : Nw S H S' H') : ∀ x o, H x = some o → ∃ o', H' x = some o' := fun x o e => ⟨o, a.h x o e⟩
theorem Nw.trans (a : Nw S H S' H') (b : Nw S' H' S'' H'') : Nw S H S'' H'' :=
  ⟨b.sub, a.s.trans b.s, a.h.trans b.h, fun x o e => by
    rcases b.n x o e with h | h
    · exact a.n x o h
    · exact .inr (none_of_t a.t h)⟩
theorem Nw.ad (a : Nw S H S' H') : Ad pp S H S' H' := ⟨a.s, fun x o e _ => a.h x o e, a.t, a.n⟩
/-- a new object that stays -/
theorem Nw.new {p : Addr} {o : HO} (hs : Sb S H) (h : H p = none) : Nw S H (upd S p o) (upd H p o) := by
  refine ⟨fun a u e => ?_, sb_upd ?_, sb_upd h, fun a u e => ?_⟩
  · by_cases hp : a = p
    · subst hp; rw [upd_same] at e ⊢; exact e
    · rw [upd_ne hp] at e ⊢; exact hs a u e
  · cases e : S p with
    | none => rfl
    | some u => rw [hs p u e] at h; cases h
  · by_cases hp : a = p
    · subst hp; exact .inr h
    · rw [upd_ne hp] at e; exact .inl e
theorem Nw.freeze {p : Addr} {o : HO} (a : Nw S H S' H') (h : H p = none) (h' : H' p = some o) (h'' : S' p = none) : Nw S H (upd S' p o) H' := by
  refine ⟨fun b u e => ?_, a.s.trans (sb_upd h''), a.h, fun b u e => ?_⟩
  · by_cases hp : b = p
    · subst hp; rw [upd_same] at e; cases e; exact h'
    · rw [upd_ne hp] at e; exact a.sub b u e
  · by_cases hp : b = p
    · subst hp; exact .inr h
    · rw [upd_ne hp] at e; exact a.n b u e
theorem ER.nw (I : ER K pp S H σ E pl) (a : Nw S H S' H') : ER K pp S' H' σ E pl := by
  refine ⟨a.sub, I.len, fun i sl e => (I.env i sl e).mono a.s, fun p sc e => ?_, fun P e => ?_, I.npp⟩
  · obtain ⟨⟨o, h⟩, g, g'⟩ := I.pin p sc e
    refine ⟨⟨o, a.h p o h⟩, ?_, sb_l a.s g'⟩
    cases q : S' p with
    | none => rfl
    | some u =>
      rcases a.n p u q with z | z
      · rw [z] at g; cases g
      · rw [z] at h; cases h
  · obtain ⟨p, sc, e1, h1, h2⟩ := I.pool P e
    exact ⟨p, sc, e1, a.h _ _ h1, h2⟩
end
end Dn
set_option Elab.async false
set_option linter.all false
set_option maxRecDepth 100000
set_option maxHeartbeats 2000000
namespace Dn
open PySem L2

/-! ### plain data, equality -/
def fl : Nat → D → Bool
  | _, .non => true
  | _, .bl _ => true
  | _, .int _ => true
  | _, .str x => x.cps.all (· < 0x110000)
  | n + 1, .tup xs => xs.all (fl n)
  | n + 1, .lst xs => xs.all (fl n)
  | _, _ => false
mutual
def toPy : D → PyData
  | .non => .none
  | .bl b => .bool b
  | .int i => .int i
  | .str x => .str x
  | .tup xs => .tuple (toPyL xs)
  | .lst xs => .list (toPyL xs)
  | .dct _ _ => .none
  | .scr _ => .none
def toPyL : List D → List PyData
  | [] => []
  | d :: ds => toPy d :: toPyL ds
end
mutual
def eqd : D → D → Bool
  | .non, .non => true
  | .bl a, .bl b => a == b
  | .bl a, .int j => (if a then 1 else 0) == j
  | .int i, .bl b => i == (if b then 1 else 0)
  | .int i, .int j => i == j
  | .str x, .str y => x == y
  | .tup xs, .tup ys => eqdL xs ys
  | .lst xs, .lst ys => eqdL xs ys
  | _, _ => false
def eqdL : List D → List D → Bool
  | [], [] => true
  | x :: xs, y :: ys => eqd x y && eqdL xs ys
  | _, _ => false
end
theorem fl_tup {n : Nat} {xs : List D} : fl (n + 1) (.tup xs) = xs.all (fl n) := by simp only [fl]
theorem fl_lst {n : Nat} {xs : List D} : fl (n + 1) (.lst xs) = xs.all (fl n) := by simp only [fl]
theorem fl_dct {n : Nat} {ks vs : List D} : fl n (.dct ks vs) = false := by cases n <;> simp only [fl]
theorem fl_scr {n : Nat} {ns : List Int} : fl n (.scr ns) = false := by cases n <;> simp only [fl]
theorem fl_tup0 {xs : List D} : fl 0 (.tup xs) = false := by simp only [fl]
theorem fl_lst0 {xs : List D} : fl 0 (.lst xs) = false := by simp only [fl]
theorem fl_int {n : Nat} {i : Int} : fl n (.int i) = true := by cases n <;> simp only [fl]
theorem fl_non {n : Nat} : fl n .non = true := by cases n <;> simp only [fl]
theorem fl_bl {n : Nat} {b : Bool} : fl n (.bl b) = true := by cases n <;> simp only [fl]
theorem fl_str {n : Nat} {x : Str} : fl n (.str x) = x.cps.all (· < 0x110000) := by cases n <;> simp only [fl]

mutual
theorem eqd_py : ∀ (n : Nat) (a b : D), fl n a = true → fl n b = true → PyData.eqv (toPy a) (toPy b) = eqd a b
  | n, .non, b, _, h => by cases b <;> simp_all [toPy, eqd, PyData.eqv, fl_dct, fl_scr]
  | n, .bl _, b, _, h => by cases b <;> simp_all [toPy, eqd, PyData.eqv, fl_dct, fl_scr]
  | n, .int _, b, _, h => by cases b <;> simp_all [toPy, eqd, PyData.eqv, fl_dct, fl_scr]
  | n, .str _, b, _, h => by cases b <;> simp_all [toPy, eqd, PyData.eqv, fl_dct, fl_scr]
  | n, .tup xs, .tup ys, h, g => by
    cases n with
    | zero => simp [fl_tup0] at h
    | succ n =>
      simp only [toPy, eqd, PyData.eqv]
      exact eqdL_py n xs ys (by simpa only [fl_tup] using h) (by simpa only [fl_tup] using g)
  | n, .lst xs, .lst ys, h, g => by
    cases n with
    | zero => simp [fl_lst0] at h
    | succ n =>
      simp only [toPy, eqd, PyData.eqv]
      exact eqdL_py n xs ys (by simpa only [fl_lst] using h) (by simpa only [fl_lst] using g)
  | n, .tup xs, .non, _, _ => by simp [toPy, eqd, PyData.eqv]
  | n, .tup xs, .bl _, _, _ => by simp [toPy, eqd, PyData.eqv]
  | n, .tup xs, .int _, _, _ => by simp [toPy, eqd, PyData.eqv]
  | n, .tup xs, .str _, _, _ => by simp [toPy, eqd, PyData.eqv]
  | n, .tup xs, .lst _, _, _ => by simp [toPy, eqd, PyData.eqv]
  | n, .tup xs, .dct _ _, _, g => by simp [fl_dct] at g
  | n, .tup xs, .scr _, _, g => by simp [fl_scr] at g
  | n, .lst xs, .non, _, _ => by simp [toPy, eqd, PyData.eqv]
  | n, .lst xs, .bl _, _, _ => by simp [toPy, eqd, PyData.eqv]
  | n, .lst xs, .int _, _, _ => by simp [toPy, eqd, PyData.eqv]
  | n, .lst xs, .str _, _, _ => by simp [toPy, eqd, PyData.eqv]
  | n, .lst xs, .tup _, _, _ => by simp [toPy, eqd, PyData.eqv]
  | n, .lst xs, .dct _ _, _, g => by simp [fl_dct] at g
  | n, .lst xs, .scr _, _, g => by simp [fl_scr] at g
  | n, .dct _ _, _, h, _ => by simp [fl_dct] at h
  | n, .scr _, _, h, _ => by simp [fl_scr] at h
theorem eqdL_py : ∀ (n : Nat) (a b : List D), a.all (fl n) = true → b.all (fl n) = true → PyData.eqvAll (toPyL a) (toPyL b) = eqdL a b
  | n, [], [], _, _ => by simp [toPyL, eqdL, PyData.eqvAll]
  | n, [], _ :: _, _, _ => by simp [toPyL, eqdL, PyData.eqvAll]
  | n, _ :: _, [], _, _ => by simp [toPyL, eqdL, PyData.eqvAll]
  | n, x :: xs, y :: ys, h, g => by
    simp only [List.all_cons, Bool.and_eq_true] at h g
    simp only [toPyL, eqdL, PyData.eqvAll, eqd_py n x y h.1 g.1, eqdL_py n xs ys h.2 g.2]
end
mutual
theorem lay_py : ∀ (n : Nat) (a : D), fl n a = true → PyData.canLay0 (toPy a) = true ∧ PyData.depth (toPy a) ≤ n
  | n, .non, _ => by simp [toPy, PyData.canLay0, PyData.depth]
  | n, .bl _, _ => by simp [toPy, PyData.canLay0, PyData.depth]
  | n, .int _, _ => by simp [toPy, PyData.canLay0, PyData.depth]
  | n, .str x, h => by
    rw [fl_str] at h
    simp only [toPy, PyData.canLay0, PyData.depth]
    exact ⟨h, Nat.zero_le _⟩
  | 0, .tup _, h => by simp [fl_tup0] at h
  | 0, .lst _, h => by simp [fl_lst0] at h
  | n + 1, .tup xs, h => by
    have g := layL_py n xs (by simpa only [fl_tup] using h)
    simp only [toPy, PyData.canLay0, PyData.depth]
    exact ⟨g.1, by omega⟩
  | n + 1, .lst xs, h => by
    have g := layL_py n xs (by simpa only [fl_lst] using h)
    simp only [toPy, PyData.canLay0, PyData.depth]
    exact ⟨g.1, by omega⟩
  | n, .dct _ _, h => by simp [fl_dct] at h
  | n, .scr _, h => by simp [fl_scr] at h
theorem layL_py : ∀ (n : Nat) (a : List D), a.all (fl n) = true → PyData.canLayAll0 (toPyL a) = true ∧ PyData.depthAll (toPyL a) ≤ n
  | n, [], _ => by simp [toPyL, PyData.canLayAll0, PyData.depthAll]
  | n, x :: xs, h => by
    simp only [List.all_cons, Bool.and_eq_true] at h
    have g1 := lay_py n x h.1
    have g2 := layL_py n xs h.2
    simp only [toPyL, PyData.canLayAll0, PyData.depthAll, g1.1, g2.1]
    exact ⟨rfl, by omega⟩
end
theorem shaped_py {n : Nat} {a : D} (h : fl n a = true) (hn : n ≤ 60) : SeqAt.shaped (toPy a) = true := by
  have g := lay_py n a h
  unfold SeqAt.shaped
  rw [g.1, decide_eq_true (by omega)]; rfl
mutual
theorem dp_py {K : PySem.W.Frag} {S H : Hp} (e : Sb S H) : ∀ (n : Nat) (d : D) (v : V), fl n d = true → Rp K S d v → Dp K H v (toPy d)
  | n, .non, v, _, h => by simp only [Rp] at h; subst h; simp only [toPy]; exact .non
  | n, .bl b, v, _, h => by simp only [Rp] at h; subst h; simp only [toPy]; exact .bl b
  | n, .int i, v, _, h => by simp only [Rp] at h; subst h; simp only [toPy]; exact .int i
  | n, .str i, v, _, h => by simp only [Rp] at h; subst h; simp only [toPy]; exact .str i
  | 0, .tup _, _, h, _ => by simp [fl_tup0] at h
  | 0, .lst _, _, h, _ => by simp [fl_lst0] at h
  | n + 1, .tup xs, v, h, g => by
    simp only [Rp] at g
    obtain ⟨a, vs, rfl, h1, h2⟩ := g
    simp only [toPy]
    exact .tup (sb_t e h1) (dpL_py e n xs vs (by simpa only [fl_tup] using h) h2)
  | n + 1, .lst xs, v, h, g => by
    simp only [Rp] at g
    obtain ⟨a, vs, rfl, h1, h2⟩ := g
    simp only [toPy]
    exact .lst (.inl (.inl (e _ _ h1))) (dpL_py e n xs vs (by simpa only [fl_lst] using h) h2)
  | n, .dct _ _, _, h, _ => by simp [fl_dct] at h
  | n, .scr _, _, h, _ => by simp [fl_scr] at h
theorem dpL_py {K : PySem.W.Frag} {S H : Hp} (e : Sb S H) : ∀ (n : Nat) (ds : List D) (vs : List V), ds.all (fl n) = true → RpL K S ds vs → DpAll K H vs (toPyL ds)
  | n, [], vs, _, h => by rw [h.nil_inv]; simp only [toPyL]; exact .nil
  | n, d :: ds, vs, h, g => by
    obtain ⟨v, r, rfl, h1, h2⟩ := g.cons_inv
    simp only [List.all_cons, Bool.and_eq_true] at h
    simp only [toPyL]
    exact .cons (dp_py e n d v h.1 h1) (dpL_py e n ds r h.2 h2)
end

/-! ### expressions: what they come to -/
abbrev EM := Env → Option Pl → Option (D × Option Pl)
abbrev BM := Env → Option Pl → Option (Bool × Option Pl)
abbrev AM := Env → Option Pl → Option (List D × Option Pl)
def ES (K : PySem.W.Frag) (t : TE) (m : EM) : Prop := ∀ pp S H σ E pl d pl' (Q : VK), ER K pp S H σ E pl → m E pl = some (d, pl') → (∀ v S' H', ER K pp S' H' σ E pl' → Ad pp S H S' H' → Rp K S' d v → Q v H') → t σ H Q
def BS (K : PySem.W.Frag) (t : TT) (m : BM) : Prop := ∀ pp S H σ E pl d pl' (Q : Bool → Hp → Prop), ER K pp S H σ E pl → m E pl = some (d, pl') → (∀ S' H', ER K pp S' H' σ E pl' → Ad pp S H S' H' → Q d H') → t σ H Q
def AS (K : PySem.W.Frag) (t : TA) (m : AM) : Prop := ∀ pp S H σ E pl d pl' (Q : List V → Hp → Prop), ER K pp S H σ E pl → m E pl = some (d, pl') → (∀ vs S' H', ER K pp S' H' σ E pl' → Ad pp S H S' H' → RpL K S' d vs → Q vs H') → t σ H Q
/-- a list made here, that nothing else knows -/
def LS (K : PySem.W.Frag) (t : TE) (m : AM) : Prop := ∀ pp S H σ E pl d pl' (Q : VK), ER K pp S H σ E pl → m E pl = some (d, pl') → (∀ p vs S' H', ER K pp S' H' σ E pl' → Ad pp S H S' H' → H p = none → S' p = none → H' p = some (.lst vs) → RpL K S' d vs → Q (.ref p) H') → t σ H Q

def EF (X : Cx) (e : Expr) (m : EM) : Prop := ∃ t, PE X e t ∧ ES X.K t m
def BF (X : Cx) (e : Expr) (m : BM) : Prop := ∃ t, PT X e t ∧ BS X.K t m
def WF (X : Cx) (e : Expr) (m : BM) : Prop := ∃ t, PW X e t ∧ BS X.K t m
def AF (X : Cx) (es : List Expr) (m : AM) : Prop := ∃ t, PA X es t ∧ AS X.K t m
def LF (X : Cx) (e : Expr) (m : AM) : Prop := ∃ t, PE X e t ∧ LS X.K t m

def oks {α : Type} (d : α) : Env → Option Pl → Option (α × Option Pl) := fun _ pl => some (d, pl)
def seqM {α β : Type} (m : Env → Option Pl → Option (α × Option Pl)) (f : α → Env → Option Pl → Option (β × Option Pl)) : Env → Option Pl → Option (β × Option Pl) :=
  fun E pl => match m E pl with
    | some (a, p) => f a E p
    | none => none
def lftM {α : Type} (o : Option α) : Env → Option Pl → Option (α × Option Pl) := fun _ pl => o.map fun d => (d, pl)
theorem seqM_some {α β : Type} {m : Env → Option Pl → Option (α × Option Pl)} {f : α → Env → Option Pl → Option (β × Option Pl)} {E : Env} {pl p' : Option Pl} {b : β} (h : seqM m f E pl = some (b, p')) : ∃ a p, m E pl = some (a, p) ∧ f a E p = some (b, p') := by
  unfold seqM at h
  cases e : m E pl with
  | none => rw [e] at h; cases h
  | some x =>
    obtain ⟨a, p⟩ := x
    rw [e] at h
    exact ⟨a, p, rfl, h⟩
theorem lftM_some {α : Type} {o : Option α} {E : Env} {pl p' : Option Pl} {a : α} (h : lftM o E pl = some (a, p')) : o = some a ∧ p' = pl := by
  unfold lftM at h
  cases o with
  | none => cases h
  | some x => cases h; exact ⟨rfl, rfl⟩
theorem oks_some {α : Type} {d a : α} {E : Env} {pl p' : Option Pl} (h : oks d E pl = some (a, p')) : d = a ∧ p' = pl := by
  unfold oks at h; cases h; exact ⟨rfl, rfl⟩

def mC (d : D) : EM := oks d
def mV (i : Nat) : EM := fun E pl => match E[i]? with
  | some (.val d) => some (d, pl)
  | some (.own xs) => some (.lst xs, pl)
  | some (.owd ks vs) => some (.dct ks vs, pl)
  | _ => none
def mOp (g : D → D → Option D) (ma mb : EM) : EM := seqM ma fun x => seqM mb fun y => lftM (g x y)
def mUn (g : D → Option D) (ma : EM) : EM := seqM ma fun x => lftM (g x)
def aNil : AM := oks []
def aCons (ma : EM) (mr : AM) : AM := seqM ma fun x => seqM mr fun xs => oks (x :: xs)

section
variable {X : Cx}
theorem ES.c {K : PySem.W.Frag} {v : V} {d : D} (h : ∀ S, Rp K S d v) : ES K (tC v) (mC d) := fun pp S H σ E pl d' pl' Q I e q => by
  obtain ⟨rfl, rfl⟩ := oks_some e
  exact q v S H I Ad.refl (h S)
theorem ef_int {i j pos} : EF X (.Constant (.int i) j pos) (mC (.int i)) := ⟨_, pe_int, ES.c fun _ => by simp only [Rp]⟩
theorem ef_bl {b j pos} : EF X (.Constant (.bool b) j pos) (mC (.bl b)) := ⟨_, pe_bl, ES.c fun _ => by simp only [Rp]⟩
theorem ef_non {j pos} : EF X (.Constant .none j pos) (mC .non) := ⟨_, pe_non, ES.c fun _ => by simp only [Rp]⟩
theorem ef_str {x j pos} : EF X (.Constant (.str x) j pos) (mC (.str x)) := ⟨_, pe_str, ES.c fun _ => by simp only [Rp]⟩
theorem ES.v {K : PySem.W.Frag} (i : Nat) : ES K (tVar i) (mV i) := fun pp S H σ E pl d pl' Q I e q => by
  unfold mV at e
  cases h : E[i]? with
  | none => rw [h] at e; cases e
  | some sl =>
    rw [h] at e
    have g := I.env i sl h
    cases sl with
    | un => cases e
    | pool => cases e
    | val d' => cases e; obtain ⟨v, e1, r⟩ := g; exact ⟨v, e1, q v S H I Ad.refl r⟩
    | own xs => cases e; obtain ⟨v, e1, r⟩ := g; exact ⟨v, e1, q v S H I Ad.refl r⟩
    | owd ks vs => cases e; obtain ⟨v, e1, r⟩ := g; exact ⟨v, e1, q v S H I Ad.refl r⟩
theorem ev (i : Nat) {x : Str} {pos : Pos} (hN : X.N[i]? = some x := by rfl) (hv : Vis X.env.scope x := by first | exact Or.inl rfl | exact Or.inr (Or.inl rfl) | exact Or.inr (Or.inr rfl)) (hd : (x == ("__debug__" : Str)) = false := by decide)
    (hcd : (x == ("__classdict__" : Str)) = false := by decide) : EF X (.Name x pos) (mV i) := ⟨_, pe_var hN hv hd hcd, ES.v i⟩
theorem ef_or {e : Expr} {m1 m2 : EM} (h1 : EF X e m1) (h2 : EF X e m2) : EF X e (fun E pl => (m1 E pl).or (m2 E pl)) := by
  obtain ⟨t1, p1, s1⟩ := h1
  obtain ⟨t2, p2, s2⟩ := h2
  refine ⟨fun σ H Q => t1 σ H Q ∨ t2 σ H Q, ⟨fun pins s σ H Q I h => h.elim (p1.run pins s σ H Q I) (p2.run pins s σ H Q I)⟩, fun pp S H σ E pl d pl' Q I e q => ?_⟩
  dsimp only at e
  cases z : m1 E pl with
  | some r =>
    rw [z] at e
    exact .inl (s1 pp S H σ E pl d pl' Q I (z.trans e) q)
  | none =>
    rw [z] at e
    exact .inr (s2 pp S H σ E pl d pl' Q I e q)

/-! operators by values -/
def RD2 (K : PySem.W.Frag) (r : R2) (g : D → D → Option D) : Prop := ∀ S H a b d v u (Q : VK), Sb S H → Rp K S a v → Rp K S b u → g a b = some d → (∀ w S' H', Nw S H S' H' → Rp K S' d w → Q w H') → r v u H Q
def RD1 (K : PySem.W.Frag) (r : V → Hp → VK → Prop) (g : D → Option D) : Prop := ∀ S H a d v (Q : VK), Sb S H → Rp K S a v → g a = some d → (∀ w S' H', Nw S H S' H' → Rp K S' d w → Q w H') → r v H Q
def RDN (K : PySem.W.Frag) (r : List V → Hp → VK → Prop) (g : List D → Option D) : Prop := ∀ S H a d v (Q : VK), Sb S H → RpL K S a v → g a = some d → (∀ w S' H', Nw S H S' H' → Rp K S' d w → Q w H') → r v H Q
/-- .. that give a new list -/
def RDL (K : PySem.W.Frag) (r : List V → Hp → VK → Prop) (g : List D → Option (List D)) : Prop := ∀ S H a d v (Q : VK), Sb S H → RpL K S a v → g a = some d → (∀ p vs S' H', Nw S H S' H' → H p = none → S' p = none → H' p = some (.lst vs) → RpL K S' d vs → Q (.ref p) H') → r v H Q
theorem ES.op {K : PySem.W.Frag} {r : R2} {g : D → D → Option D} {ta tb : TE} {ma mb : EM} (hr : RD2 K r g) (ha : ES K ta ma) (hb : ES K tb mb) : ES K (tOp r ta tb) (mOp g ma mb) := fun pp S H σ E pl d pl' Q I e q => by
  obtain ⟨x, p1, e1, e⟩ := seqM_some e
  obtain ⟨y, p2, e2, e⟩ := seqM_some e
  obtain ⟨e3, rfl⟩ := lftM_some e
  refine ha pp S H σ E pl x p1 _ I e1 fun v S1 H1 I1 a1 r1 => ?_
  refine hb pp S1 H1 σ E p1 y _ _ I1 e2 fun u S2 H2 I2 a2 r2 => ?_
  refine hr S2 H2 x y d v u Q I2.sub (r1.mono a2.s) r2 e3 fun w S3 H3 a3 r3 => ?_
  exact q w S3 H3 (I2.nw a3) (a1.trans (a2.trans a3.ad)) r3
theorem ES.un {K : PySem.W.Frag} {r : V → Hp → VK → Prop} {g : D → Option D} {ta : TE} {ma : EM} (hr : RD1 K r g) (ha : ES K ta ma) : ES K (tUn r ta) (mUn g ma) := fun pp S H σ E pl d pl' Q I e q => by
  obtain ⟨x, p1, e1, e⟩ := seqM_some e
  obtain ⟨e3, rfl⟩ := lftM_some e
  refine ha pp S H σ E pl x _ _ I e1 fun v S1 H1 I1 a1 r1 => ?_
  exact hr S1 H1 x d v Q I1.sub r1 e3 fun w S3 H3 a3 r3 => q w S3 H3 (I1.nw a3) (a1.trans a3.ad) r3
theorem AS.nil {K : PySem.W.Frag} : AS K tNil aNil := fun pp S H σ E pl d pl' Q I e q => by
  obtain ⟨rfl, rfl⟩ := oks_some e
  exact q [] S H I Ad.refl RpL.nil
theorem AS.cons {K : PySem.W.Frag} {ta : TE} {tr : TA} {ma : EM} {mr : AM} (ha : ES K ta ma) (hr : AS K tr mr) : AS K (tCons ta tr) (aCons ma mr) := fun pp S H σ E pl d pl' Q I e q => by
  obtain ⟨x, p1, e1, e⟩ := seqM_some e
  obtain ⟨xs, p2, e2, e⟩ := seqM_some e
  obtain ⟨rfl, rfl⟩ := oks_some e
  refine ha pp S H σ E pl x p1 _ I e1 fun v S1 H1 I1 a1 r1 => ?_
  refine hr pp S1 H1 σ E p1 xs _ _ I1 e2 fun vs S2 H2 I2 a2 r2 => ?_
  exact q (v :: vs) S2 H2 I2 (a1.trans a2) (RpL.cons (r1.mono a2.s) r2)
theorem af_nil : AF X [] aNil := ⟨_, pa_nil, AS.nil⟩
/-! no star -/
def nst : Expr → Bool
  | .Starred _ _ => false
  | _ => true
def nsts : List Expr → Bool
  | [] => true
  | e :: es => nst e && nsts es
theorem star_nst {e : Expr} {es : List Expr} {env : PySem.Env} (h : nst e = true) : starEach (e :: es) env = (false, eval e env) :: starEach es env := by
  cases e <;> first | rfl | cases h
theorem back_nst {pos : Pos} {env : PySem.Env} : ∀ {es : List Expr}, nsts es = true → (backTo pos (starEach es env)).any (·.1) = false
  | [], _ => rfl
  | e :: es, h => by
    simp only [nsts, Bool.and_eq_true] at h
    rw [star_nst h.1]
    show (false || (backTo pos (starEach es env)).any (·.1)) = false
    rw [back_nst h.2]; rfl
theorem af_cons {e : Expr} {es : List Expr} {ma : EM} {mr : AM} (ha : EF X e ma) (hr : AF X es mr) (hs : nst e = true := by rfl) : AF X (e :: es) (aCons ma mr) := by
  obtain ⟨t1, p1, s1⟩ := ha
  obtain ⟨t2, p2, s2⟩ := hr
  exact ⟨_, pa_cons p1 p2 (star_nst hs), AS.cons s1 s2⟩
def OpD (X : Cx) (f : Value → Value → Sem Value) (g : D → D → Option D) : Prop := ∃ r, OpR X f r ∧ RD2 X.K r g
def UnD (X : Cx) (f : Value → Sem Value) (g : D → Option D) : Prop := ∃ r, UnR X f r ∧ RD1 X.K r g
def CallD (X : Cx) (f : Value) (g : List D → Option D) : Prop := ∃ r, CallR X f r ∧ RDN X.K r g
theorem OpD.or {f : Value → Value → Sem Value} {g1 g2 : D → D → Option D} (h1 : OpD X f g1) (h2 : OpD X f g2) : OpD X f (fun a b => (g1 a b).or (g2 a b)) := by
  obtain ⟨r1, p1, s1⟩ := h1
  obtain ⟨r2, p2, s2⟩ := h2
  refine ⟨_, p1.or p2, fun S H a b d v u Q hs ra rb e q => ?_⟩
  dsimp only at e
  cases z : g1 a b with
  | some x => rw [z] at e; exact .inl (s1 S H a b d v u Q hs ra rb (z.trans e) q)
  | none => rw [z] at e; exact .inr (s2 S H a b d v u Q hs ra rb e q)
theorem OpD.imp {f : Value → Value → Sem Value} {g1 g2 : D → D → Option D} (h1 : OpD X f g1) (h : ∀ a b d, g2 a b = some d → g1 a b = some d) : OpD X f g2 := by
  obtain ⟨r1, p1, s1⟩ := h1
  exact ⟨r1, p1, fun S H a b d v u Q hs ra rb e q => s1 S H a b d v u Q hs ra rb (h a b d e) q⟩
theorem CallD.or {f : Value} {g1 g2 : List D → Option D} (h1 : CallD X f g1) (h2 : CallD X f g2) : CallD X f (fun a => (g1 a).or (g2 a)) := by
  obtain ⟨r1, p1, s1⟩ := h1
  obtain ⟨r2, p2, s2⟩ := h2
  refine ⟨_, p1.or p2, fun S H a d v Q hs ra e q => ?_⟩
  dsimp only at e
  cases z : g1 a with
  | some x => rw [z] at e; exact .inl (s1 S H a d v Q hs ra (z.trans e) q)
  | none => rw [z] at e; exact .inr (s2 S H a d v Q hs ra e q)
theorem CallD.imp {f : Value} {g1 g2 : List D → Option D} (h1 : CallD X f g1) (h : ∀ a d, g2 a = some d → g1 a = some d) : CallD X f g2 := by
  obtain ⟨r1, p1, s1⟩ := h1
  exact ⟨r1, p1, fun S H a d v Q hs ra e q => s1 S H a d v Q hs ra (h a d e) q⟩
theorem ef_op {op : Operator} {g : D → D → Option D} {a b : Expr} {ma mb : EM} {pos : Pos} (ho : OpD X (binaryOp op) g) (ha : EF X a ma) (hb : EF X b mb) : EF X (.BinOp a op b pos) (mOp g ma mb) := by
  obtain ⟨r, p, s⟩ := ho
  obtain ⟨t1, p1, s1⟩ := ha
  obtain ⟨t2, p2, s2⟩ := hb
  exact ⟨_, pe_op p p1 p2, ES.op s s1 s2⟩
theorem ef_un {op : UnaryOp} {g : D → Option D} {a : Expr} {ma : EM} {pos : Pos} (ho : UnD X (unaryOp op) g) (ha : EF X a ma) : EF X (.UnaryOp op a pos) (mUn g ma) := by
  obtain ⟨r, p, s⟩ := ho
  obtain ⟨t1, p1, s1⟩ := ha
  exact ⟨_, pe_un p p1, ES.un s s1⟩
theorem ef_cmp {op : CmpOp} {g : D → D → Option D} {a b : Expr} {ma mb : EM} {pos : Pos} (ho : OpD X (compareOp op) g) (ha : EF X a ma) (hb : EF X b mb) (hm : behindInMarks op b = false := by first | exact nomark _ | rfl) : EF X (.Compare a [op] [b] pos) (mOp g ma mb) := by
  obtain ⟨r, p, s⟩ := ho
  obtain ⟨t1, p1, s1⟩ := ha
  obtain ⟨t2, p2, s2⟩ := hb
  exact ⟨_, pe_cmpR p p1 p2 hm, ES.op s s1 s2⟩

/-! what operators give -/
def sized (n : Nat) : Bool := decide (n ≤ 1000000)
theorem sized_le {n : Nat} (h : sized n = true) : n ≤ sizeLine := Nat.le_trans (of_decide_eq_true h) (by decide)
theorem sized_lt {n : Nat} (h : sized n = true) : n < sizeLine := Nat.lt_of_le_of_lt (of_decide_eq_true h) (by decide)
def dAddI : D → D → Option D | .int a, .int b => some (.int (a + b)) | _, _ => none
def dSub : D → D → Option D | .int a, .int b => some (.int (a - b)) | _, _ => none
/-- below 2 ^ 400000 -/
def wideB (i : Int) : Bool := decide (i.natAbs.log2 < 490000)
def dMulI : D → D → Option D
  | .int a, .int b => if (wideB a && wideB b) || decide (a.natAbs < 2 ^ 63) || decide (b.natAbs < 2 ^ 63) then some (.int (a * b)) else none
  | _, _ => none
def dFdiv : D → D → Option D
  | .int a, .int b => if decide (0 < b) && decide (b.natAbs.log2 < 9000) then some (.int (a / b)) else none
  | _, _ => none
def dMod : D → D → Option D | .int a, .int b => if 0 < b then some (.int (a % b)) else none | _, _ => none
def dPow : D → D → Option D | .int a, .int b => if decide (0 ≤ b) && decide (b.natAbs ≤ 100000) && decide (a.natAbs < 2 ^ 63) then some (.int (a ^ b.toNat)) else none | _, _ => none
def dNeg : D → Option D | .int a => some (.int (-a)) | _ => none
theorem rp_int {K : PySem.W.Frag} {S : Hp} {i : Int} {v : V} : Rp K S (.int i) v ↔ v = .int i := by simp only [Rp]
theorem rp_bl {K : PySem.W.Frag} {S : Hp} {i : Bool} {v : V} : Rp K S (.bl i) v ↔ v = .bl i := by simp only [Rp]
theorem rp_str {K : PySem.W.Frag} {S : Hp} {i : Str} {v : V} : Rp K S (.str i) v ↔ v = .str i := by simp only [Rp]
theorem rp_non {K : PySem.W.Frag} {S : Hp} {v : V} : Rp K S .non v ↔ v = .non := by simp only [Rp]
theorem rp_tup {K : PySem.W.Frag} {S : Hp} {ds : List D} {v : V} : Rp K S (.tup ds) v ↔ ∃ a vs, v = .ref a ∧ SqT K S a vs ∧ RpL K S ds vs := by simp only [Rp]
theorem rp_lst {K : PySem.W.Frag} {S : Hp} {ds : List D} {v : V} : Rp K S (.lst ds) v ↔ ∃ a vs, v = .ref a ∧ S a = some (.lst vs) ∧ RpL K S ds vs := by simp only [Rp]
theorem rp_scr {K : PySem.W.Frag} {S : Hp} {ns : List Int} {v : V} : Rp K S (.scr ns) v ↔ ∃ a, v = .ref a ∧ SqL K S a (ns.map V.int) := by simp only [Rp]
theorem rd_int {K : PySem.W.Frag} {f : Int → Int → D} {fv : Int → Int → V} {C : Int → Int → Prop} (g : D → D → Option D)
    (hg : ∀ a b d, g a b = some d → ∃ i j, a = .int i ∧ b = .int j ∧ C i j ∧ d = f i j) (hf : ∀ S i j, Rp K S (f i j) (fv i j)) : RD2 K (rI C fv) g := fun S H a b d v u Q hs ra rb e q => by
  obtain ⟨i, j, rfl, rfl, hc, rfl⟩ := hg a b d e
  rw [rp_int] at ra rb
  exact ⟨i, j, ra, rb, hc, q _ S H (Nw.refl hs) (hf S i j)⟩
theorem rd_int0 {K : PySem.W.Frag} {f : Int → Int → D} {fv : Int → Int → V} (g : D → D → Option D)
    (hg : ∀ a b d, g a b = some d → ∃ i j, a = .int i ∧ b = .int j ∧ d = f i j) (hf : ∀ S i j, Rp K S (f i j) (fv i j)) : RD2 K (rI0 fv) g := fun S H a b d v u Q hs ra rb e q => by
  obtain ⟨i, j, rfl, rfl, rfl⟩ := hg a b d e
  rw [rp_int] at ra rb
  exact ⟨i, j, ra, rb, q _ S H (Nw.refl hs) (hf S i j)⟩
theorem od_addI : OpD X (binaryOp .Add) dAddI := ⟨_, op_add, rd_int0 (f := fun i j => .int (i + j)) dAddI (fun a b d e => by
  unfold dAddI at e; split at e <;> cases e; exact ⟨_, _, rfl, rfl, rfl⟩) fun _ _ _ => rp_int.mpr rfl⟩
theorem od_sub : OpD X (binaryOp .Sub) dSub := ⟨_, op_sub, rd_int0 (f := fun i j => .int (i - j)) dSub (fun a b d e => by
  unfold dSub at e; split at e <;> cases e; exact ⟨_, _, rfl, rfl, rfl⟩) fun _ _ _ => rp_int.mpr rfl⟩
theorem od_mod : OpD X (binaryOp .Mod) dMod := ⟨_, op_mod, rd_int (f := fun i j => .int (i % j)) dMod (fun a b d e => by
  unfold dMod at e; split at e <;> try cases e
  split at e <;> cases e
  exact ⟨_, _, rfl, rfl, by assumption, rfl⟩) fun _ _ _ => rp_int.mpr rfl⟩
theorem od_fdiv : OpD X (binaryOp .FloorDiv) dFdiv := ⟨_, op_fdivW, rd_int (f := fun i j => .int (i / j)) dFdiv (fun a b d e => by
  unfold dFdiv at e; split at e <;> try cases e
  split at e <;> cases e
  rename_i h
  simp only [Bool.and_eq_true, decide_eq_true_eq] at h
  exact ⟨_, _, rfl, rfl, h, rfl⟩) fun _ _ _ => rp_int.mpr rfl⟩
theorem od_pow : OpD X (binaryOp .Pow) dPow := ⟨_, op_pow, rd_int (f := fun i j => .int (i ^ j.toNat)) dPow (fun a b d e => by
  unfold dPow at e; split at e <;> try cases e
  split at e <;> cases e
  rename_i h
  simp only [Bool.and_eq_true, decide_eq_true_eq] at h
  exact ⟨_, _, rfl, rfl, ⟨h.1.1, by omega, by omega⟩, rfl⟩) fun _ _ _ => rp_int.mpr rfl⟩
def dMul1 : D → D → Option D
  | .int a, .int b => if decide (a.natAbs < 2 ^ 63) || decide (b.natAbs < 2 ^ 63) then some (.int (a * b)) else none
  | _, _ => none
def dMul2 : D → D → Option D
  | .int a, .int b => if (wideB a && wideB b) then some (.int (a * b)) else none
  | _, _ => none
theorem od_mul1 : OpD X (binaryOp .Mult) dMul1 := ⟨_, op_mul, rd_int (f := fun i j => .int (i * j)) dMul1 (fun a b d e => by
  unfold dMul1 at e
  split at e <;> try cases e
  split at e <;> cases e
  rename_i h
  simp only [Bool.or_eq_true, decide_eq_true_eq] at h
  refine ⟨_, _, rfl, rfl, ?_, rfl⟩
  rcases h with h | h
  · exact .inl ⟨by omega, by omega⟩
  · exact .inr ⟨by omega, by omega⟩) fun _ _ _ => rp_int.mpr rfl⟩
theorem od_mul2 : OpD X (binaryOp .Mult) dMul2 := ⟨_, op_mulW, rd_int (f := fun i j => .int (i * j)) dMul2 (fun a b d e => by
  unfold dMul2 at e
  split at e <;> try cases e
  split at e <;> cases e
  rename_i h
  unfold wideB at h
  simp only [Bool.and_eq_true, decide_eq_true_eq] at h
  exact ⟨_, _, rfl, rfl, (show _ + _ < 1000000 by omega), rfl⟩) fun _ _ _ => rp_int.mpr rfl⟩
theorem od_mulI : OpD X (binaryOp .Mult) dMulI := (od_mul1.or od_mul2).imp fun a b d e => by
  unfold dMulI at e
  split at e <;> try cases e
  split at e <;> cases e
  rename_i a b h
  dsimp only [dMul1, dMul2]
  by_cases h1 : (decide (a.natAbs < 2 ^ 63) || decide (b.natAbs < 2 ^ 63)) = true
  · rw [if_pos h1]; rfl
  · rw [if_neg h1, if_pos]
    · rfl
    · rw [Bool.or_assoc, Bool.or_eq_true] at h
      exact h.resolve_right h1
theorem ud_neg : UnD X (unaryOp .USub) dNeg := ⟨_, un_neg, fun S H a d v Q hs ra e q => by
  unfold dNeg at e; split at e <;> cases e
  rw [rp_int] at ra
  exact ⟨_, ra, q _ S H (Nw.refl hs) (rp_int.mpr rfl)⟩⟩
def dLtI : D → D → Option D | .int a, .int b => some (.bl (decide (a < b))) | _, _ => none
def dLeI : D → D → Option D | .int a, .int b => some (.bl (decide (a ≤ b))) | _, _ => none
def dGtI : D → D → Option D | .int a, .int b => some (.bl (decide (b < a))) | _, _ => none
def dGeI : D → D → Option D | .int a, .int b => some (.bl (decide (b ≤ a))) | _, _ => none
theorem od_lt : OpD X (compareOp .Lt) dLtI := ⟨_, op_lt, rd_int0 (f := fun i j => .bl (decide (i < j))) dLtI (fun a b d e => by
  unfold dLtI at e; split at e <;> cases e; exact ⟨_, _, rfl, rfl, rfl⟩) fun _ _ _ => rp_bl.mpr rfl⟩
theorem od_le : OpD X (compareOp .LtE) dLeI := ⟨_, op_le, rd_int0 (f := fun i j => .bl (decide (i ≤ j))) dLeI (fun a b d e => by
  unfold dLeI at e; split at e <;> cases e; exact ⟨_, _, rfl, rfl, rfl⟩) fun _ _ _ => rp_bl.mpr rfl⟩
theorem od_gt : OpD X (compareOp .Gt) dGtI := ⟨_, op_gt, rd_int0 (f := fun i j => .bl (decide (j < i))) dGtI (fun a b d e => by
  unfold dGtI at e; split at e <;> cases e; exact ⟨_, _, rfl, rfl, rfl⟩) fun _ _ _ => rp_bl.mpr rfl⟩
theorem od_ge : OpD X (compareOp .GtE) dGeI := ⟨_, op_ge, rd_int0 (f := fun i j => .bl (decide (j ≤ i))) dGeI (fun a b d e => by
  unfold dGeI at e; split at e <;> cases e; exact ⟨_, _, rfl, rfl, rfl⟩) fun _ _ _ => rp_bl.mpr rfl⟩
def dEq : D → D → Option D := fun a b => if fl 20 a && fl 20 b then some (.bl (eqd a b)) else none
def dNe : D → D → Option D := fun a b => if fl 20 a && fl 20 b then some (.bl (!eqd a b)) else none
def dIn : D → D → Option D := fun a b => match b with
  | .lst xs => if fl 20 a && xs.all (fl 20) then some (.bl (xs.any fun z => eqd z a)) else none
  | _ => none
def dNotIn : D → D → Option D := fun a b => match b with
  | .lst xs => if fl 20 a && xs.all (fl 20) then some (.bl (!xs.any fun z => eqd z a)) else none
  | _ => none
theorem od_eq (hu : X.A.units + 64 < cLine) : OpD X (compareOp .Eq) dEq := ⟨_, op_eqD hu, fun S H a b d v u Q hs ra rb e q => by
  unfold dEq at e; split at e <;> cases e
  rename_i h
  rw [Bool.and_eq_true] at h
  refine ⟨_, _, dp_py hs 20 a v h.1 ra, dp_py hs 20 b u h.2 rb, shaped_py h.1 (by decide), shaped_py h.2 (by decide), ?_⟩
  rw [eqd_py 20 a b h.1 h.2]
  exact q _ S H (Nw.refl hs) (rp_bl.mpr rfl)⟩
theorem od_ne (hu : X.A.units + 64 < cLine) : OpD X (compareOp .NotEq) dNe := ⟨_, op_neD hu, fun S H a b d v u Q hs ra rb e q => by
  unfold dNe at e; split at e <;> cases e
  rename_i h
  rw [Bool.and_eq_true] at h
  refine ⟨_, _, dp_py hs 20 a v h.1 ra, dp_py hs 20 b u h.2 rb, shaped_py h.1 (by decide), shaped_py h.2 (by decide), ?_⟩
  rw [eqd_py 20 a b h.1 h.2]
  exact q _ S H (Nw.refl hs) (rp_bl.mpr rfl)⟩
theorem any_py {n : Nat} {a : D} (h : fl n a = true) : ∀ {xs : List D}, xs.all (fl n) = true → (toPyL xs).any (fun z => PyData.eqv z (toPy a)) = xs.any fun z => eqd z a
  | [], _ => by simp [toPyL]
  | x :: xs, g => by
    simp only [List.all_cons, Bool.and_eq_true] at g
    simp only [toPyL, List.any_cons, eqd_py n x a g.1 h, any_py h g.2]
theorem od_in (hu : X.A.units + 65 < cLine) : OpD X (compareOp .In) dIn := ⟨_, op_inD hu, fun S H a b d v u Q hs ra rb e q => by
  unfold dIn at e; split at e <;> try cases e
  split at e <;> cases e
  rename_i xs h
  rw [Bool.and_eq_true] at h
  have g2 : fl 21 (.lst xs) = true := by rw [fl_lst]; exact h.2
  have dl := dp_py hs 21 _ u g2 rb
  have sl := shaped_py g2 (by decide)
  simp only [toPy] at dl sl
  refine ⟨toPy a, toPyL xs, dp_py hs 20 a v h.1 ra, dl, shaped_py h.1 (by decide), sl, ?_⟩
  rw [any_py h.1 h.2]
  exact q _ S H (Nw.refl hs) (rp_bl.mpr rfl)⟩
theorem od_notIn (hu : X.A.units + 65 < cLine) : OpD X (compareOp .NotIn) dNotIn := ⟨_, op_notInD hu, fun S H a b d v u Q hs ra rb e q => by
  unfold dNotIn at e; split at e <;> try cases e
  split at e <;> cases e
  rename_i xs h
  rw [Bool.and_eq_true] at h
  have g2 : fl 21 (.lst xs) = true := by rw [fl_lst]; exact h.2
  have dl := dp_py hs 21 _ u g2 rb
  have sl := shaped_py g2 (by decide)
  simp only [toPy] at dl sl
  refine ⟨toPy a, toPyL xs, dp_py hs 20 a v h.1 ra, dl, shaped_py h.1 (by decide), sl, ?_⟩
  rw [any_py h.1 h.2]
  exact q _ S H (Nw.refl hs) (rp_bl.mpr rfl)⟩
/-- is None, is True, is False -/
def rIsC (c : V) (neg : Bool) : R2 := fun x y H Q => y = c ∧ Q (.bl (if neg then !decide (x = c) else decide (x = c))) H
theorem op_isC {b : Bool} : OpR X (compareOp .Is) (rIsC (.bl b) false) := by
  intro pins s σ H x y v u Q I rx ry h
  obtain ⟨rfl, q⟩ := h
  cases (show u = Value.bool b from ry)
  have key : ∀ {v : Value}, plainIs v (.bool b) = true → (v == Value.bool b) = decide (x = .bl b) → wpAny (model X.prog X.w) X.A (compareOp .Is v (.bool b)) (EP X pins σ Q) X.xe s := fun h1 h2 =>
    wpAny_is_plain h1 (fin_bl I q h2.symm)
  cases x with
  | non => cases rx; exact key rfl (by rw [decide_eq_false (by intro z; cases z)]; rfl)
  | bl c =>
    cases rx
    refine key rfl ?_
    by_cases e : c = b
    · subst e; rw [decide_eq_true rfl]; exact beq_self_eq_true _
    · rw [decide_eq_false (by intro z; cases z; exact e rfl)]; exact beq_eq_false_iff_ne.mpr (by intro z; cases z; exact e rfl)
  | int i => obtain ⟨t, rfl⟩ := rx; exact key rfl (by rw [decide_eq_false (by intro z; cases z)]; rfl)
  | str x => obtain ⟨t, rfl⟩ := rx; exact key rfl (by rw [decide_eq_false (by intro z; cases z)]; rfl)
  | byt x => obtain ⟨t, rfl⟩ := rx; exact key rfl (by rw [decide_eq_false (by intro z; cases z)]; rfl)
  | flt x => obtain ⟨t, rfl⟩ := rx; exact key rfl (by rw [decide_eq_false (by intro z; cases z)]; rfl)
  | ref a => cases rx; exact key rfl (by rw [decide_eq_false (by intro z; cases z)]; rfl)
  | ty n => cases rx; exact key rfl (by rw [decide_eq_false (by intro z; cases z)]; rfl)
theorem op_isNotC {b : Bool} : OpR X (compareOp .IsNot) (rIsC (.bl b) true) := by
  intro pins s σ H x y v u Q I rx ry h
  obtain ⟨rfl, q⟩ := h
  cases (show u = Value.bool b from ry)
  have key : ∀ {v : Value}, plainIs v (.bool b) = true → (v == Value.bool b) = decide (x = .bl b) → wpAny (model X.prog X.w) X.A (compareOp .IsNot v (.bool b)) (EP X pins σ Q) X.xe s := fun h1 h2 =>
    wpAny_isNot_plain h1 (fin_bl I q (by rw [h2]; rfl))
  cases x with
  | non => cases rx; exact key rfl (by rw [decide_eq_false (by intro z; cases z)]; rfl)
  | bl c =>
    cases rx
    refine key rfl ?_
    by_cases e : c = b
    · subst e; rw [decide_eq_true rfl]; exact beq_self_eq_true _
    · rw [decide_eq_false (by intro z; cases z; exact e rfl)]; exact beq_eq_false_iff_ne.mpr (by intro z; cases z; exact e rfl)
  | int i => obtain ⟨t, rfl⟩ := rx; exact key rfl (by rw [decide_eq_false (by intro z; cases z)]; rfl)
  | str x => obtain ⟨t, rfl⟩ := rx; exact key rfl (by rw [decide_eq_false (by intro z; cases z)]; rfl)
  | byt x => obtain ⟨t, rfl⟩ := rx; exact key rfl (by rw [decide_eq_false (by intro z; cases z)]; rfl)
  | flt x => obtain ⟨t, rfl⟩ := rx; exact key rfl (by rw [decide_eq_false (by intro z; cases z)]; rfl)
  | ref a => cases rx; exact key rfl (by rw [decide_eq_false (by intro z; cases z)]; rfl)
  | ty n => cases rx; exact key rfl (by rw [decide_eq_false (by intro z; cases z)]; rfl)
def isN : D → Bool | .non => true | _ => false
def isB (b : Bool) : D → Bool | .bl c => c == b | _ => false
theorem isN_v {K : PySem.W.Frag} {S : Hp} {d : D} {v : V} (h : Rp K S d v) : decide (v = .non) = isN d := by
  cases d <;> simp only [Rp] at h
  · subst h; rfl
  · subst h; rfl
  · subst h; rfl
  · subst h; rfl
  all_goals
    first
      | obtain ⟨a, vs, rfl, _⟩ := h; rfl
      | obtain ⟨a, rfl, _⟩ := h; rfl
theorem isB_v {K : PySem.W.Frag} {S : Hp} {b : Bool} {d : D} {v : V} (h : Rp K S d v) : decide (v = .bl b) = isB b d := by
  cases d <;> simp only [Rp] at h
  · subst h; rfl
  · subst h; rename_i c; cases b <;> cases c <;> rfl
  · subst h; rfl
  · subst h; rfl
  all_goals
    first
      | obtain ⟨a, vs, rfl, _⟩ := h; rfl
      | obtain ⟨a, rfl, _⟩ := h; rfl
def dIs : D → D → Option D := fun a b => match b with
  | .non => some (.bl (isN a))
  | .bl b => some (.bl (isB b a))
  | _ => none
def dIsNot : D → D → Option D := fun a b => match b with
  | .non => some (.bl (!isN a))
  | .bl b => some (.bl (!isB b a))
  | _ => none
theorem od_isN : OpD X (compareOp .Is) (fun a b => match b with | .non => some (.bl (isN a)) | _ => none) := ⟨_, op_isN, fun S H a b d v u Q hs ra rb e q => by
  simp only at e; split at e <;> cases e
  rw [rp_non] at rb
  exact ⟨rb, q _ S H (Nw.refl hs) (by rw [isN_v ra]; exact rp_bl.mpr rfl)⟩⟩
theorem od_isC (c : Bool) : OpD X (compareOp .Is) (fun a b => match b with | .bl b => if b = c then some (.bl (isB c a)) else none | _ => none) := ⟨_, op_isC (b := c), fun S H a b d v u Q hs ra rb e q => by
  simp only at e; split at e <;> try cases e
  split at e <;> cases e
  rename_i h
  subst h
  rw [rp_bl] at rb
  refine ⟨rb, ?_⟩
  show Q (.bl (decide (v = .bl _))) H
  exact q _ S H (Nw.refl hs) (by rw [isB_v ra]; exact rp_bl.mpr rfl)⟩
theorem od_notN : OpD X (compareOp .IsNot) (fun a b => match b with | .non => some (.bl (!isN a)) | _ => none) := ⟨_, op_notN, fun S H a b d v u Q hs ra rb e q => by
  simp only at e; split at e <;> cases e
  rw [rp_non] at rb
  exact ⟨rb, q _ S H (Nw.refl hs) (by rw [isN_v ra]; exact rp_bl.mpr rfl)⟩⟩
theorem od_isNotC (c : Bool) : OpD X (compareOp .IsNot) (fun a b => match b with | .bl b => if b = c then some (.bl (!isB c a)) else none | _ => none) := ⟨_, op_isNotC (b := c), fun S H a b d v u Q hs ra rb e q => by
  simp only at e; split at e <;> try cases e
  split at e <;> cases e
  rename_i h
  subst h
  rw [rp_bl] at rb
  refine ⟨rb, ?_⟩
  show Q (.bl (!decide (v = .bl _))) H
  exact q _ S H (Nw.refl hs) (by rw [isB_v ra]; exact rp_bl.mpr rfl)⟩
theorem od_is : OpD X (compareOp .Is) dIs := ((od_isN.or (od_isC true)).or (od_isC false)).imp fun a b d e => by
  unfold dIs at e
  split at e
  · exact e
  · rename_i c; cases c <;> exact e
  · cases e
theorem od_isNot : OpD X (compareOp .IsNot) dIsNot := ((od_notN.or (od_isNotC true)).or (od_isNotC false)).imp fun a b d e => by
  unfold dIsNot at e
  split at e
  · exact e
  · rename_i c; cases c <;> exact e
  · cases e
end
end Dn
set_option Elab.async false
set_option linter.all false
set_option maxRecDepth 100000
set_option maxHeartbeats 2000000
namespace Dn
open PySem L2

/-! ### truth, tests -/
def tru : D → Option Bool
  | .non => some false
  | .bl b => some b
  | .int i => some (i != 0)
  | .str x => if sized x.length then some ((x.length : Int) != 0) else none
  | .tup xs => some (!xs.isEmpty)
  | .lst xs => some (!xs.isEmpty)
  | .dct _ _ => none
  | .scr ns => some (!ns.isEmpty)
theorem isEmpty_len {α β : Type} {xs : List α} {ys : List β} (h : ys.length = xs.length) : (!ys.isEmpty) = !xs.isEmpty := by
  cases xs <;> cases ys <;> simp_all
theorem tru_v {K : PySem.W.Frag} {S H : Hp} (e : Sb S H) {d : D} {v : V} {b : Bool} (h : Rp K S d v) (ht : tru d = some b) : TruV K v H b := by
  cases d <;> simp only [Rp] at h <;> simp only [tru] at ht
  · cases ht; subst h; rfl
  · cases ht; subst h; rfl
  · cases ht; subst h; rfl
  · subst h
    split at ht <;> cases ht
    rename_i hz
    exact ⟨sized_le hz, rfl⟩
  · cases ht
    obtain ⟨a, vs, rfl, h1, h2⟩ := h
    exact .inr (.inl ⟨vs, sb_t e h1, (isEmpty_len h2.len).symm⟩)
  · cases ht
    obtain ⟨a, vs, rfl, h1, h2⟩ := h
    exact .inl ⟨vs, .inl (.inl (e _ _ h1)), (isEmpty_len h2.len).symm⟩
  · cases ht
  · cases ht
    obtain ⟨a, rfl, h1⟩ := h
    exact .inl ⟨_, sb_l e h1, by simp⟩
def mTru (m : EM) : BM := seqM m fun x => lftM (tru x)
def blD : D → Option Bool | .bl b => some b | _ => none
def mTst (m : EM) : BM := seqM m fun x => lftM (blD x)
def mNot (m : BM) : BM := seqM m fun b => oks (!b)
def bM {α : Type} (b : Bool) (m n : α) : α := match b with
  | true => m
  | false => n
theorem bM_t {α : Type} (m n : α) : bM true m n = m := rfl
theorem bM_f {α : Type} (m n : α) : bM false m n = n := rfl
def mAnd (m n : BM) : BM := seqM m fun b => bM b n (oks false)
def mOr (m n : BM) : BM := seqM m fun b => bM b (oks true) n
def mIte (c : BM) (a b : EM) : EM := seqM c fun t => bM t a b
def mAndV (a b : EM) : EM := seqM a fun x => seqM (lftM (tru x)) fun t => bM t b (oks x)
def mOrV (a b : EM) : EM := seqM a fun x => seqM (lftM (tru x)) fun t => bM t (oks x) b
def mNotV (a : EM) : EM := seqM a fun x => seqM (lftM (tru x)) fun t => oks (.bl (!t))
section
variable {X : Cx}
/-- a test of plain truth -/
def itp : Expr → Bool
  | .UnaryOp .Not _ _ => false
  | .BoolOp _ _ _ => false
  | .IfExp _ _ _ _ => false
  | .Compare _ _ _ _ => false
  | _ => true
theorem itp_ok {a : Expr} {env : PySem.Env} (h : itp a = true) : ∀ whole, isTrue a env whole = (do let v ← whole; standAt a.pos; holding [v] (truthy v)) := by
  intro whole
  cases a <;> first | rfl | cases h | skip
  rename_i op x p
  cases op <;> first | rfl | cases h
theorem bf_tru {a : Expr} {m : EM} (ha : EF X a m) (he : itp a = true := by rfl) : BF X a (mTru m) := by
  obtain ⟨t, p, s⟩ := ha
  refine ⟨_, pt_truth p (itp_ok he), fun pp S H σ E pl d pl' Q I e q => ?_⟩
  obtain ⟨x, p1, e1, e⟩ := seqM_some e
  obtain ⟨e2, rfl⟩ := lftM_some e
  exact s pp S H σ E pl x _ _ I e1 fun v S1 H1 I1 a1 r1 => ⟨d, tru_v I1.sub r1 e2, q S1 H1 I1 a1⟩
theorem bf_cmp {op : CmpOp} {g : D → D → Option D} {a b : Expr} {ma mb : EM} {pos : Pos} (ho : OpD X (compareOp op) g) (ha : EF X a ma) (hb : EF X b mb) (hm : behindInMarks op b = false := by first | exact nomark _ | rfl) : BF X (.Compare a [op] [b] pos) (mTst (mOp g ma mb)) := by
  obtain ⟨r, p, s⟩ := ho
  obtain ⟨t1, p1, s1⟩ := ha
  obtain ⟨t2, p2, s2⟩ := hb
  refine ⟨_, pt_cmpR p p1 p2 hm, fun pp S H σ E pl d pl' Q I e q => ?_⟩
  obtain ⟨x, q1, e1, e⟩ := seqM_some e
  obtain ⟨e2, rfl⟩ := lftM_some e
  refine ES.op s s1 s2 pp S H σ E pl x _ _ I e1 fun v S1 H1 I1 a1 r1 => ?_
  unfold blD at e2
  split at e2 <;> cases e2
  rw [rp_bl] at r1
  exact ⟨_, r1, q S1 H1 I1 a1⟩
theorem bf_not {a : Expr} {m : BM} {pos : Pos} (ha : BF X a m) : BF X (.UnaryOp .Not a pos) (mNot m) := by
  obtain ⟨t, p, s⟩ := ha
  refine ⟨_, pt_not p, fun pp S H σ E pl d pl' Q I e q => ?_⟩
  obtain ⟨x, p1, e1, e⟩ := seqM_some e
  obtain ⟨rfl, rfl⟩ := oks_some e
  exact s pp S H σ E pl x _ _ I e1 fun S1 H1 I1 a1 => q S1 H1 I1 a1
theorem WF.bf {e : Expr} {m : BM} (h : WF X e m) : BF X e m := let ⟨t, p, s⟩ := h; ⟨t, p.pt, s⟩
theorem wf_and1 {a : Expr} {m : BM} {pos : Pos} (ha : BF X a m) : WF X (.BoolOp .And [a] pos) m := let ⟨t, p, s⟩ := ha; ⟨t, pw_and1 p, s⟩
theorem wf_or1 {a : Expr} {m : BM} {pos : Pos} (ha : BF X a m) : WF X (.BoolOp .Or [a] pos) m := let ⟨t, p, s⟩ := ha; ⟨t, pw_or1 p, s⟩
theorem wf_and {a b : Expr} {rest : List Expr} {m n : BM} {pos : Pos} (ha : BF X a m) (hb : WF X (.BoolOp .And (b :: rest) pos) n) : WF X (.BoolOp .And (a :: b :: rest) pos) (mAnd m n) := by
  obtain ⟨t, p, s⟩ := ha
  obtain ⟨u, p', s'⟩ := hb
  refine ⟨_, pw_and p p', fun pp S H σ E pl d pl' Q I e q => ?_⟩
  obtain ⟨x, p1, e1, e⟩ := seqM_some e
  refine s pp S H σ E pl x _ _ I e1 fun S1 H1 I1 a1 => ?_
  cases x with
  | true =>
    show u σ H1 Q
    exact s' pp S1 H1 σ E p1 d pl' Q I1 e fun S2 H2 I2 a2 => q S2 H2 I2 (a1.trans a2)
  | false =>
    rw [bM_f] at e
    obtain ⟨rfl, rfl⟩ := oks_some e
    exact q S1 H1 I1 a1
theorem wf_or {a b : Expr} {rest : List Expr} {m n : BM} {pos : Pos} (ha : BF X a m) (hb : WF X (.BoolOp .Or (b :: rest) pos) n) : WF X (.BoolOp .Or (a :: b :: rest) pos) (mOr m n) := by
  obtain ⟨t, p, s⟩ := ha
  obtain ⟨u, p', s'⟩ := hb
  refine ⟨_, pw_or p p', fun pp S H σ E pl d pl' Q I e q => ?_⟩
  obtain ⟨x, p1, e1, e⟩ := seqM_some e
  refine s pp S H σ E pl x _ _ I e1 fun S1 H1 I1 a1 => ?_
  cases x with
  | false =>
    show u σ H1 Q
    exact s' pp S1 H1 σ E p1 d pl' Q I1 e fun S2 H2 I2 a2 => q S2 H2 I2 (a1.trans a2)
  | true =>
    rw [bM_t] at e
    obtain ⟨rfl, rfl⟩ := oks_some e
    exact q S1 H1 I1 a1
theorem ef_ite {c a b : Expr} {mc : BM} {ma mb : EM} {pos : Pos} (hc : BF X c mc) (ha : EF X a ma) (hb : EF X b mb) : EF X (.IfExp c a b pos) (mIte mc ma mb) := by
  obtain ⟨t, p, s⟩ := hc
  obtain ⟨t1, p1, s1⟩ := ha
  obtain ⟨t2, p2, s2⟩ := hb
  refine ⟨_, pe_ifExp p p1 p2, fun pp S H σ E pl d pl' Q I e q => ?_⟩
  obtain ⟨x, q1, e1, e⟩ := seqM_some e
  refine s pp S H σ E pl x _ _ I e1 fun S1 H1 I1 a1 => ?_
  cases x with
  | true =>
    show t1 σ H1 Q
    exact s1 pp S1 H1 σ E q1 d pl' Q I1 e fun v S2 H2 I2 a2 => q v S2 H2 I2 (a1.trans a2)
  | false =>
    show t2 σ H1 Q
    exact s2 pp S1 H1 σ E q1 d pl' Q I1 e fun v S2 H2 I2 a2 => q v S2 H2 I2 (a1.trans a2)
theorem ef_one {op} {a : Expr} {m : EM} {pos : Pos} (h : EF X a m) : EF X (.BoolOp op [a] pos) m := let ⟨t, p, s⟩ := h; ⟨t, pe_one p, s⟩
theorem ef_and {a b : Expr} {rest : List Expr} {ma mb : EM} {pos : Pos} (ha : EF X a ma) (hb : EF X (.BoolOp .And (b :: rest) pos) mb) : EF X (.BoolOp .And (a :: b :: rest) pos) (mAndV ma mb) := by
  obtain ⟨t1, p1, s1⟩ := ha
  obtain ⟨t2, p2, s2⟩ := hb
  refine ⟨_, pe_andT p1 p2, fun pp S H σ E pl d pl' Q I e q => ?_⟩
  obtain ⟨x, q1, e1, f1⟩ := seqM_some e
  obtain ⟨t, q2, g2, f2⟩ := seqM_some f1
  obtain ⟨e2, rfl⟩ := lftM_some g2
  refine s1 pp S H σ E pl x _ _ I e1 fun v S1 H1 I1 a1 r1 => ⟨t, tru_v I1.sub r1 e2, ?_⟩
  cases t with
  | true =>
    show t2 σ H1 Q
    exact s2 pp S1 H1 σ E _ d pl' Q I1 f2 fun v S2 H2 I2 a2 => q v S2 H2 I2 (a1.trans a2)
  | false =>
    rw [bM_f] at f2
    obtain ⟨rfl, rfl⟩ := oks_some f2
    exact q v S1 H1 I1 a1 r1
theorem ef_orr {a b : Expr} {rest : List Expr} {ma mb : EM} {pos : Pos} (ha : EF X a ma) (hb : EF X (.BoolOp .Or (b :: rest) pos) mb) : EF X (.BoolOp .Or (a :: b :: rest) pos) (mOrV ma mb) := by
  obtain ⟨t1, p1, s1⟩ := ha
  obtain ⟨t2, p2, s2⟩ := hb
  refine ⟨_, pe_orT p1 p2, fun pp S H σ E pl d pl' Q I e q => ?_⟩
  obtain ⟨x, q1, e1, f1⟩ := seqM_some e
  obtain ⟨t, q2, g2, f2⟩ := seqM_some f1
  obtain ⟨e2, rfl⟩ := lftM_some g2
  refine s1 pp S H σ E pl x _ _ I e1 fun v S1 H1 I1 a1 r1 => ⟨t, tru_v I1.sub r1 e2, ?_⟩
  cases t with
  | false =>
    show t2 σ H1 Q
    exact s2 pp S1 H1 σ E _ d pl' Q I1 f2 fun v S2 H2 I2 a2 => q v S2 H2 I2 (a1.trans a2)
  | true =>
    rw [bM_t] at f2
    obtain ⟨rfl, rfl⟩ := oks_some f2
    exact q v S1 H1 I1 a1 r1
theorem ef_notV {a : Expr} {m : EM} {pos : Pos} (ha : EF X a m) : EF X (.UnaryOp .Not a pos) (mNotV m) := by
  obtain ⟨t1, p1, s1⟩ := ha
  refine ⟨_, pe_notT p1, fun pp S H σ E pl d pl' Q I e q => ?_⟩
  obtain ⟨x, q1, e1, f1⟩ := seqM_some e
  obtain ⟨t, q2, g2, f2⟩ := seqM_some f1
  obtain ⟨e2, rfl⟩ := lftM_some g2
  obtain ⟨rfl, rfl⟩ := oks_some f2
  exact s1 pp S H σ E pl x _ _ I e1 fun v S1 H1 I1 a1 r1 => ⟨t, tru_v I1.sub r1 e2, q _ S1 H1 I1 a1 (rp_bl.mpr rfl)⟩
/-- a chain a < b < c -/
def mChain (g g' : D → D → Option D) (ma mb mc : EM) : EM := seqM ma fun x => seqM mb fun y => seqM (lftM ((g x y).bind blD)) fun t => bM t (seqM mc fun z => lftM (g' y z)) (oks (.bl false))
theorem ES.chain {K : PySem.W.Frag} {r r' : R2} {g g' : D → D → Option D} {ta tb tc : TE} {ma mb mc : EM} (hr : RD2 K r g) (hr' : RD2 K r' g') (ha : ES K ta ma) (hb : ES K tb mb) (hc : ES K tc mc) : ES K (tChain r r' ta tb tc) (mChain g g' ma mb mc) := fun pp S H σ E pl d pl' Q I e q => by
  obtain ⟨x, p1, e1, e⟩ := seqM_some e
  obtain ⟨y, p2, e2, e⟩ := seqM_some e
  obtain ⟨t, p3, e3, e⟩ := seqM_some e
  obtain ⟨e3, rfl⟩ := lftM_some e3
  refine ha pp S H σ E pl x p1 _ I e1 fun v S1 H1 I1 a1 r1 => ?_
  refine hb pp S1 H1 σ E p1 y _ _ I1 e2 fun u S2 H2 I2 a2 r2 => ?_
  cases h : g x y with
  | none => rw [h] at e3; cases e3
  | some w =>
    rw [h] at e3
    refine hr S2 H2 x y w v u _ I2.sub (r1.mono a2.s) r2 h fun w' S3 H3 a3 r3 => ?_
    cases w <;> try cases e3
    rw [rp_bl] at r3
    refine ⟨t, r3, ?_⟩
    cases t with
    | false =>
      rw [bM_f] at e
      obtain ⟨rfl, rfl⟩ := oks_some e
      exact q _ S3 H3 (I2.nw a3) (a1.trans (a2.trans a3.ad)) (rp_bl.mpr rfl)
    | true =>
      rw [bM_t] at e
      obtain ⟨z, p4, e4, e⟩ := seqM_some e
      obtain ⟨e5, rfl⟩ := lftM_some e
      show tc σ H3 _
      refine hc pp S3 H3 σ E _ z _ _ (I2.nw a3) e4 fun u4 S4 H4 I4 a4 r4 => ?_
      refine hr' S4 H4 y z d u u4 Q I4.sub (r2.mono (a3.s.trans a4.s)) r4 e5 fun w5 S5 H5 a5 r5 => ?_
      exact q w5 S5 H5 (I4.nw a5) (a1.trans (a2.trans (a3.ad.trans (a4.trans a5.ad)))) r5
theorem ef_chain {op op' : CmpOp} {g g' : D → D → Option D} {a b c : Expr} {ma mb mc : EM} {pos : Pos} (ho : OpD X (compareOp op) g) (ho' : OpD X (compareOp op') g') (ha : EF X a ma) (hb : EF X b mb) (hc : EF X c mc)
    (hm : lastMarks [op, op'] [b, c] = false := by with_unfolding_all rfl) : EF X (.Compare a [op, op'] [b, c] pos) (mChain g g' ma mb mc) := by
  obtain ⟨r, p, s⟩ := ho
  obtain ⟨r', p', s'⟩ := ho'
  obtain ⟨t1, p1, s1⟩ := ha
  obtain ⟨t2, p2, s2⟩ := hb
  obtain ⟨t3, p3, s3⟩ := hc
  exact ⟨_, pe_chain p p' p1 p2 p3 hm, ES.chain s s' s1 s2 s3⟩
theorem bf_chain {op op' : CmpOp} {g g' : D → D → Option D} {a b c : Expr} {ma mb mc : EM} {pos : Pos} (ho : OpD X (compareOp op) g) (ho' : OpD X (compareOp op') g') (ha : EF X a ma) (hb : EF X b mb) (hc : EF X c mc)
    (hm : lastMarks [op, op'] [b, c] = false := by with_unfolding_all rfl) : BF X (.Compare a [op, op'] [b, c] pos) (mTst (mChain g g' ma mb mc)) := by
  obtain ⟨r, p, s⟩ := ho
  obtain ⟨r', p', s'⟩ := ho'
  obtain ⟨t1, p1, s1⟩ := ha
  obtain ⟨t2, p2, s2⟩ := hb
  obtain ⟨t3, p3, s3⟩ := hc
  refine ⟨_, pt_chain p p' p1 p2 p3 hm, fun pp S H σ E pl d pl' Q I e q => ?_⟩
  obtain ⟨x, q1, e1, e⟩ := seqM_some e
  obtain ⟨e2, rfl⟩ := lftM_some e
  refine ES.chain s s' s1 s2 s3 pp S H σ E pl x _ _ I e1 fun v S1 H1 I1 a1 r1 => ?_
  unfold blD at e2
  split at e2 <;> cases e2
  rw [rp_bl] at r1
  exact ⟨_, r1, q S1 H1 I1 a1⟩

/-! ### displays, subscripts -/
def mTup (m : AM) : EM := seqM m fun xs => bM (sized xs.length) (oks (.tup xs)) (lftM none)
def mLstL (m : AM) : AM := seqM m fun xs => bM (sized xs.length) (oks xs) (lftM none)
def mFrz (m : AM) : EM := seqM m fun xs => oks (.lst xs)
theorem ef_tup {es : List Expr} {k} {m : AM} {pos : Pos} (h : AF X es m) : EF X (.Tuple es k pos) (mTup m) := by
  obtain ⟨t, p, s⟩ := h
  refine ⟨_, pe_tup p, fun pp S H σ E pl d pl' Q I e q => ?_⟩
  obtain ⟨xs, q1, e1, e⟩ := seqM_some e
  refine s pp S H σ E pl xs _ _ I e1 fun vs S1 H1 I1 a1 r1 => ?_
  cases hz : sized xs.length with
  | true =>
    rw [hz, bM_t] at e
    obtain ⟨rfl, rfl⟩ := oks_some e
    refine ⟨by rw [r1.len]; exact sized_le hz, fun p hp => ?_⟩
    have nw := Nw.new (o := .tup vs) I1.sub hp
    exact q _ _ _ (I1.nw nw) (a1.trans nw.ad) (rp_tup.mpr ⟨p, vs, rfl, SqT.of upd_same, r1.mono nw.s⟩)
  | false => rw [hz, bM_f] at e; cases (lftM_some e).1
/-- what is new, and is to be stored by the one who asked -/
theorem nw_lst {K : PySem.W.Frag} {pp : PP} {S H : Hp} {σ : L2.St} {E : Env} {pl : Option Pl} (I : ER K pp S H σ E pl) {p : Addr} {vs : List V} (hp : H p = none) : Nw S H S (upd H p (.lst vs)) ∧ S p = none :=
  ⟨⟨I.sub.trans (sb_upd hp), Sb.refl _, sb_upd hp, fun _ _ h => .inl h⟩, by
    cases e : S p with
    | none => rfl
    | some o => rw [I.sub _ _ e] at hp; cases hp⟩
theorem none_ad {pp : PP} {S H S' H' : Hp} (a : Ad pp S H S' H') {p : Addr} (h : H' p = none) : H p = none := none_of_t a.t h
theorem lf_lst {es : List Expr} {m : AM} {pos : Pos} (h : AF X es m) : LF X (.List es pos) (mLstL m) := by
  obtain ⟨t, p, s⟩ := h
  refine ⟨_, pe_lst p, fun pp S H σ E pl d pl' Q I e q => ?_⟩
  obtain ⟨xs, q1, e1, e⟩ := seqM_some e
  refine s pp S H σ E pl xs _ _ I e1 fun vs S1 H1 I1 a1 r1 => ?_
  cases hz : sized xs.length with
  | true =>
    rw [hz, bM_t] at e
    obtain ⟨rfl, rfl⟩ := oks_some e
    refine ⟨by rw [r1.len]; exact sized_le hz, fun p hp => ?_⟩
    obtain ⟨nw, sp⟩ := nw_lst (vs := vs) I1 hp
    exact q p vs _ _ (I1.nw nw) (a1.trans nw.ad) (none_ad a1 hp) sp upd_same r1
  | false => rw [hz, bM_f] at e; cases (lftM_some e).1
theorem ER.frz {K : PySem.W.Frag} {pp : PP} {S H S1 H1 : Hp} {σ : L2.St} {E : Env} {pl pl1 : Option Pl} (I : ER K pp S H σ E pl) (I1 : ER K pp S1 H1 σ E pl1) (a1 : Ad pp S H S1 H1) {p : Addr} {o : HO} (hp : H p = none) (sp : S1 p = none) (hq : H1 p = some o) :
    ER K pp (upd S1 p o) H1 σ E pl1 ∧ Ad pp S H (upd S1 p o) H1 := by
  refine ⟨⟨fun a u e => ?_, I1.len, fun i sl e => (I1.env i sl e).mono (sb_upd sp), fun b sc e => ?_, fun P e => ?_, I1.npp⟩, ⟨a1.s.trans (sb_upd sp), a1.h, a1.t, fun a u e => ?_⟩⟩
  · by_cases ha : a = p
    · subst ha; rw [upd_same] at e; cases e; exact hq
    · rw [upd_ne ha] at e; exact I1.sub a u e
  · obtain ⟨⟨u, h⟩, _⟩ := I.pin b sc e
    have ne : b ≠ p := ne_of_none h hp
    refine ⟨(I1.pin b sc e).1, ?_, sb_l (sb_upd sp) (I1.pin b sc e).2.2⟩
    rw [upd_ne ne]; exact (I1.pin b sc e).2.1
  · obtain ⟨b, sc, e1, h1, h2⟩ := I1.pool P e
    exact ⟨b, sc, e1, h1, h2⟩
  · by_cases ha : a = p
    · subst ha; exact .inr hp
    · rw [upd_ne ha] at e; exact a1.n a u e
/-- a new list, left as it is from here on -/
theorem LF.ef {e : Expr} {m : AM} (h : LF X e m) : EF X e (mFrz m) := by
  obtain ⟨t, p, s⟩ := h
  refine ⟨t, p, fun pp S H σ E pl d pl' Q I e q => ?_⟩
  obtain ⟨xs, q1, e1, e⟩ := seqM_some e
  obtain ⟨rfl, rfl⟩ := oks_some e
  refine s pp S H σ E pl xs _ _ I e1 fun p vs S1 H1 I1 a1 hp sp hq r1 => ?_
  obtain ⟨I2, a2⟩ := I.frz I1 a1 hp sp hq
  exact q _ _ _ I2 a2 (rp_lst.mpr ⟨p, vs, rfl, upd_same, r1.mono (sb_upd sp)⟩)
/-- xs[i] -/
def dIx : D → D → Option D
  | .lst xs, .int i => atI xs i
  | .tup xs, .int i => atI xs i
  | .scr ns, .int i => (atI ns i).map D.int
  | _, _ => none
theorem at_rp {K : PySem.W.Frag} {S : Hp} {ds : List D} {vs : List V} {i : Int} {d : D} (r : RpL K S ds vs) (h : atI ds i = some d) : ∃ v, atI vs i = some v ∧ Rp K S d v := by
  unfold atI at h ⊢
  rw [r.len]
  cases e : ixN ds.length i with
  | none => rw [e] at h; cases h
  | some j => rw [e] at h; exact r.get h
theorem at_map {α β : Type} (f : α → β) {xs : List α} {i : Int} : atI (xs.map f) i = (atI xs i).map f := by
  unfold atI
  rw [List.length_map]
  cases ixN xs.length i with
  | none => rfl
  | some j => simp
def IxD (X : Cx) (g : D → D → Option D) : Prop := ∃ r, IxR X r ∧ RD2 X.K r g
theorem IxD.or {g1 g2 : D → D → Option D} (h1 : IxD X g1) (h2 : IxD X g2) : IxD X (fun a b => (g1 a b).or (g2 a b)) := by
  obtain ⟨r1, p1, s1⟩ := h1
  obtain ⟨r2, p2, s2⟩ := h2
  refine ⟨_, p1.or p2, fun S H a b d v u Q hs ra rb e q => ?_⟩
  dsimp only at e
  cases z : g1 a b with
  | some x => rw [z] at e; exact .inl (s1 S H a b d v u Q hs ra rb (z.trans e) q)
  | none => rw [z] at e; exact .inr (s2 S H a b d v u Q hs ra rb e q)
theorem id_ix : IxD X dIx := by
  refine ⟨_, ix_seq, fun S H a b d v u Q hs ra rb e q => ?_⟩
  unfold dIx at e
  split at e <;> try cases e
  · rw [rp_lst] at ra; rw [rp_int] at rb
    obtain ⟨p, vs, rfl, h1, h2⟩ := ra
    obtain ⟨w, h3, h4⟩ := at_rp h2 e
    exact .inl ⟨p, vs, _, w, rfl, rb, .inl (.inl (hs _ _ h1)), h3, q w S H (Nw.refl hs) h4⟩
  · rw [rp_tup] at ra; rw [rp_int] at rb
    obtain ⟨p, vs, rfl, h1, h2⟩ := ra
    obtain ⟨w, h3, h4⟩ := at_rp h2 e
    exact .inr (.inl ⟨p, vs, _, w, rfl, rb, sb_t hs h1, h3, q w S H (Nw.refl hs) h4⟩)
  · rw [rp_scr] at ra; rw [rp_int] at rb
    obtain ⟨p, rfl, h1⟩ := ra
    rename_i ns i
    cases h : atI ns i with
    | none => rw [h] at e; cases e
    | some n =>
      rw [h] at e; cases e
      exact .inl ⟨p, _, _, .int n, rfl, rb, sb_l hs h1, by rw [at_map, h]; rfl, q _ S H (Nw.refl hs) (rp_int.mpr rfl)⟩
theorem ef_ix {a b : Expr} {ma mb : EM} {pos : Pos} (ha : EF X a ma) (hb : EF X b mb) (hs : PlainIx b := by exact fun _ _ => rfl) : EF X (.Subscript a b pos) (mOp dIx ma mb) := by
  obtain ⟨r, p, s⟩ := id_ix (X := X)
  obtain ⟨t1, p1, s1⟩ := ha
  obtain ⟨t2, p2, s2⟩ := hb
  exact ⟨_, pe_ix p p1 p2 hs, ES.op s s1 s2⟩

/-! ### calls of built-ins -/
def mCall (g : List D → Option D) (m : AM) : EM := seqM m fun xs => lftM (g xs)
theorem ES.call {K : PySem.W.Frag} {r : List V → Hp → VK → Prop} {g : List D → Option D} {t : TA} {m : AM} (hr : RDN K r g) (ha : AS K t m) : ES K (tCB r t) (mCall g m) := fun pp S H σ E pl d pl' Q I e q => by
  obtain ⟨x, p1, e1, e⟩ := seqM_some e
  obtain ⟨e3, rfl⟩ := lftM_some e
  refine ha pp S H σ E pl x _ _ I e1 fun v S1 H1 I1 a1 r1 => ?_
  exact hr S1 H1 x d v Q I1.sub r1 e3 fun w S3 H3 a3 r3 => q w S3 H3 (I1.nw a3) (a1.trans a3.ad) r3
theorem ef_callB {x : Str} {id : String} {g : List D → Option D} {p pos : Pos} {e : Expr} {es : List Expr} {m : AM} (hc : CallD X (.builtin id) g) (hg : Gl X x) (hm : X.mg x = none) (hv : bootBuiltins x = some (.builtin id)) (ha : AF X (e :: es) m) (hn : x ≠ "__name__" := by decide) (hdb : (x == ("__debug__" : Str)) = false := by decide)
    (he : nst e = true := by rfl) (hpl : nsts es = true := by rfl) : EF X (.Call (.Name x p) (e :: es) [] pos) (mCall g m) := by
  obtain ⟨r, q, s⟩ := hc
  obtain ⟨t, p1, s1⟩ := ha
  exact ⟨_, pe_callB q hg hm hv p1 hn hdb (star_nst he) (back_nst hpl), ES.call s s1⟩
theorem ef_callTy {x : Str} {T : String} {g : List D → Option D} {p pos : Pos} {e : Expr} {es : List Expr} {m : AM} (hc : CallD X (.type T) g) (hg : Gl X x) (hm : X.mg x = none) (hv : bootBuiltins x = some (.type T)) (ha : AF X (e :: es) m) (hn : x ≠ "__name__" := by decide) (hdb : (x == ("__debug__" : Str)) = false := by decide)
    (he : nst e = true := by rfl) (hpl : nsts es = true := by rfl) : EF X (.Call (.Name x p) (e :: es) [] pos) (mCall g m) := by
  obtain ⟨r, q, s⟩ := hc
  obtain ⟨t, p1, s1⟩ := ha
  exact ⟨_, pe_callTy q hg hm hv p1 hn hdb (star_nst he) (back_nst hpl), ES.call s s1⟩
theorem ef_callBf {x : Str} {id : String} {g : List D → Option D} {p pos : Pos} {e : Expr} {es : List Expr} {m : AM} (hc : CallD X (.builtin id) g) (hg : Gl X x) (hm : X.mg x = some (.builtin id)) (ha : AF X (e :: es) m) (hdb : (x == ("__debug__" : Str)) = false := by decide)
    (he : nst e = true := by rfl) (hpl : nsts es = true := by rfl) : EF X (.Call (.Name x p) (e :: es) [] pos) (mCall g m) := by
  obtain ⟨r, q, s⟩ := hc
  obtain ⟨t, p1, s1⟩ := ha
  exact ⟨_, pe_callBfun q hg hm p1 hdb (star_nst he) (back_nst hpl), ES.call s s1⟩
theorem rpl_one {K : PySem.W.Frag} {S : Hp} {a : D} {vs : List V} (h : RpL K S [a] vs) : ∃ v, vs = [v] ∧ Rp K S a v := by
  obtain ⟨v, r, rfl, h1, h2⟩ := h.cons_inv
  rw [h2.nil_inv]; exact ⟨v, rfl, h1⟩
theorem rpl_two {K : PySem.W.Frag} {S : Hp} {a b : D} {vs : List V} (h : RpL K S [a, b] vs) : ∃ v u, vs = [v, u] ∧ Rp K S a v ∧ Rp K S b u := by
  obtain ⟨v, r, rfl, h1, h2⟩ := h.cons_inv
  obtain ⟨u, rfl, h3⟩ := rpl_one h2
  exact ⟨v, u, rfl, h1, h3⟩
def gGcd : List D → Option D | [.int a, .int b] => some (.int (Nat.gcd a.natAbs b.natAbs : Nat)) | _ => none
def gAbs : List D → Option D | [.int a] => some (.int (if a < 0 then -a else a)) | _ => none
def gMax : List D → Option D | [.int a, .int b] => some (.int (if b > a then b else a)) | _ => none
def gMin : List D → Option D | [.int a, .int b] => some (.int (if b < a then b else a)) | _ => none
def gInt : List D → Option D | [.int a] => some (.int a) | [.bl b] => some (.int (if b then 1 else 0)) | _ => none
def gBool : List D → Option D | [.int a] => some (.bl (a != 0)) | [.bl b] => some (.bl b) | _ => none
def gLen : List D → Option D
  | [.lst xs] => some (.int xs.length) | [.tup xs] => some (.int xs.length) | [.scr ns] => some (.int ns.length)
  | [.str x] => if sized x.length then some (.int x.length) else none
  | _ => none
theorem cd_gcd : CallD X (.builtin "math.gcd") gGcd := ⟨_, cr_gcd, fun S H a d v Q hs ra e q => by
  unfold gGcd at e; split at e <;> cases e
  obtain ⟨v, u, rfl, h1, h2⟩ := rpl_two ra
  rw [rp_int] at h1 h2; subst h1 h2
  exact ⟨_, _, rfl, q _ S H (Nw.refl hs) (rp_int.mpr rfl)⟩⟩
theorem cd_abs : CallD X (.builtin "abs") gAbs := ⟨_, call_abs, fun S H a d v Q hs ra e q => by
  unfold gAbs at e; split at e <;> cases e
  obtain ⟨v, rfl, h1⟩ := rpl_one ra
  rw [rp_int] at h1; subst h1
  exact ⟨_, rfl, q _ S H (Nw.refl hs) (rp_int.mpr rfl)⟩⟩
theorem cd_max (hc : X.calm = true) : CallD X (.builtin "max") gMax := ⟨_, call_max2 hc, fun S H a d v Q hs ra e q => by
  unfold gMax at e; split at e <;> cases e
  obtain ⟨v, u, rfl, h1, h2⟩ := rpl_two ra
  rw [rp_int] at h1 h2; subst h1 h2
  exact ⟨_, _, rfl, q _ S H (Nw.refl hs) (rp_int.mpr rfl)⟩⟩
theorem cd_min (hc : X.calm = true) : CallD X (.builtin "min") gMin := ⟨_, call_min2 hc, fun S H a d v Q hs ra e q => by
  unfold gMin at e; split at e <;> cases e
  obtain ⟨v, u, rfl, h1, h2⟩ := rpl_two ra
  rw [rp_int] at h1 h2; subst h1 h2
  exact ⟨_, _, rfl, q _ S H (Nw.refl hs) (rp_int.mpr rfl)⟩⟩
theorem cd_int : CallD X (.type "int") gInt := ⟨_, call_int1, fun S H a d v Q hs ra e q => by
  unfold gInt at e
  split at e <;> cases e
  all_goals
    obtain ⟨v, rfl, h1⟩ := rpl_one ra
    first
      | (rw [rp_int] at h1; subst h1; exact .inl ⟨_, rfl, q _ S H (Nw.refl hs) (rp_int.mpr rfl)⟩)
      | (rw [rp_bl] at h1; subst h1; exact .inr ⟨_, rfl, q _ S H (Nw.refl hs) (rp_int.mpr rfl)⟩)⟩
theorem cd_bool : CallD X (.type "bool") gBool := ⟨_, call_bool1, fun S H a d v Q hs ra e q => by
  unfold gBool at e
  split at e <;> cases e
  all_goals
    obtain ⟨v, rfl, h1⟩ := rpl_one ra
    first
      | (rw [rp_int] at h1; subst h1; exact .inl ⟨_, rfl, q _ S H (Nw.refl hs) (rp_bl.mpr rfl)⟩)
      | (rw [rp_bl] at h1; subst h1; exact .inr ⟨_, rfl, q _ S H (Nw.refl hs) (rp_bl.mpr rfl)⟩)⟩
theorem cd_len : CallD X (.builtin "len") gLen := ⟨_, call_len_seq.or call_len_str, fun S H a d v Q hs ra e q => by
  unfold gLen at e
  split at e <;> try cases e
  · obtain ⟨v, rfl, h1⟩ := rpl_one ra
    rw [rp_lst] at h1
    obtain ⟨p, vs, rfl, h1, h2⟩ := h1
    refine .inl ⟨p, vs, rfl, .inl (.inl (.inl (hs _ _ h1))), ?_⟩
    rw [h2.len]; exact q _ S H (Nw.refl hs) (rp_int.mpr rfl)
  · obtain ⟨v, rfl, h1⟩ := rpl_one ra
    rw [rp_tup] at h1
    obtain ⟨p, vs, rfl, h1, h2⟩ := h1
    refine .inl ⟨p, vs, rfl, .inr (sb_t hs h1), ?_⟩
    rw [h2.len]; exact q _ S H (Nw.refl hs) (rp_int.mpr rfl)
  · obtain ⟨v, rfl, h1⟩ := rpl_one ra
    rw [rp_scr] at h1
    obtain ⟨p, rfl, h1⟩ := h1
    refine .inl ⟨p, _, rfl, .inl (sb_l hs h1), ?_⟩
    rw [List.length_map]; exact q _ S H (Nw.refl hs) (rp_int.mpr rfl)
  · split at e <;> cases e
    rename_i hz
    obtain ⟨v, rfl, h1⟩ := rpl_one ra
    rw [rp_str] at h1; subst h1
    exact .inr ⟨_, rfl, sized_le hz, q _ S H (Nw.refl hs) (rp_int.mpr rfl)⟩⟩
/-- isinstance(x, T), T a built-in class -/
def tyD : D → String
  | .non => "NoneType" | .bl _ => "bool" | .int _ => "int" | .str _ => "str" | .tup _ => "tuple" | .lst _ => "list" | .dct _ _ => "dict" | .scr _ => "list"
theorem tyx {K : PySem.W.Frag} {S H : Hp} (e : Sb S H) {d : D} {v : V} (h : Rp K S d v) : TyX K H v (.type (tyD d)) := by
  cases d <;> simp only [Rp] at h <;> simp only [tyD]
  · subst h; exact .base .non
  · subst h; exact .base (.bl _)
  · subst h; exact .base (.int _)
  · subst h; exact .base (.str _)
  · obtain ⟨a, vs, rfl, h1, _⟩ := h
    rcases h1 with (h1 | ⟨o, h1⟩) | ⟨o, its, n, h1, h2, _⟩
    · exact .base (.tup (e _ _ h1))
    · exact .fTuple (e _ _ h1)
    · exact .kTuple h1 h2
  · obtain ⟨a, vs, rfl, h1, _⟩ := h
    exact .base (.lst (e _ _ h1))
  · obtain ⟨a, rfl, h⟩ := h
    rcases h with ⟨kvs, h1, _⟩ | ⟨kvs, h1, _⟩
    · exact .base (.dK (e _ _ h1))
    · exact .base (.dT (e _ _ h1))
  · obtain ⟨a, rfl, h1⟩ := h
    rcases h1 with (h1 | ⟨o, h1⟩) | ⟨o, its, n, h1, h2, _⟩
    · exact .base (.lst (e _ _ h1))
    · exact .base (.frz (e _ _ h1))
    · exact .kList h1 h2
def isTyS (a T : String) : Bool := (a == T) || ((a == "bool") && (T == "int"))
def isTy (T : String) (d : D) : Bool := isTyS (tyD d) T
def mIsi (T : String) (m : EM) : EM := seqM m fun x => oks (.bl (isTy T x))
theorem kit_tyD {T : String} (hT : T = "int" ∨ T = "bool" ∨ T = "str" ∨ T = "list" ∨ T = "tuple" ∨ T = "dict") (d : D) : kitB (tyD d) T = some (isTy T d) := by
  unfold isTy
  have h : tyD d = "NoneType" ∨ tyD d = "bool" ∨ tyD d = "int" ∨ tyD d = "str" ∨ tyD d = "tuple" ∨ tyD d = "list" ∨ tyD d = "dict" := by
    cases d <;> simp [tyD]
  generalize tyD d = a at h ⊢
  rcases hT with rfl | rfl | rfl | rfl | rfl | rfl <;> rcases h with rfl | rfl | rfl | rfl | rfl | rfl | rfl <;> decide +kernel
theorem ef_isi {e : Expr} {x : Str} {p p2 pos : Pos} {m : EM} (T : String) (hT : T = "int" ∨ T = "bool" ∨ T = "str" ∨ T = "list" ∨ T = "tuple" ∨ T = "dict") (ha : EF X e m) (hg : Gl X "isinstance") (hm : X.mg "isinstance" = none) (hg2 : Gl X x) (hm2 : X.mg x = none) (hv : bootBuiltins x = some (.type T)) (hn : x ≠ "__name__" := by decide) (hdb : (x == ("__debug__" : Str)) = false := by decide)
    (he : nst e = true := by rfl) : EF X (.Call (.Name "isinstance" p) [e, .Name x p2] [] pos) (mIsi T m) := by
  obtain ⟨t, p1, s1⟩ := ha
  refine ⟨_, pe_callB call_isi hg hm (by decide +kernel) (pa_cons p1 (pa_cons (pe_bltn (v := .ty T) hg2 hm2 hv rfl hn hdb) pa_nil (star_nst rfl)) (star_nst he)) (by decide) (by decide) (star_nst he) (back_nst rfl), fun pp S H σ E pl d pl' Q I e q => ?_⟩
  obtain ⟨y, q1, e1, e⟩ := seqM_some e
  obtain ⟨rfl, rfl⟩ := oks_some e
  refine s1 pp S H σ E pl y _ _ I e1 fun v S1 H1 I1 a1 r1 => ?_
  exact ⟨v, .ty T, .type (tyD y), .type T, _, rfl, .ty T, tyx I1.sub r1, kit_ty (kit_tyD hT y), q _ S1 H1 I1 a1 (rp_bl.mpr rfl)⟩
end
end Dn
set_option Elab.async false
set_option linter.all false
set_option maxRecDepth 100000
set_option maxHeartbeats 2000000
namespace Dn
open PySem L2

/-! ### the state ahead of a statement -/
/-- at the def's entry: what stays, the heap, the pool that it was given -/
structure Cz where
  S0 : Hp
  H0 : Hp
  pp0 : PP
/-- what an own slot's object holds -/
def OwnC (K : PySem.W.Frag) (S : Hp) : Sl → HO → Prop
  | .own xs, o => ∃ vs, o = .lst vs ∧ RpL K S xs vs
  | .owd ks ds, o => (∃ kvs, o = .dK kvs ∧ keysOf ks = some (kvs.map (·.1)) ∧ RpL K S ds (kvs.map (·.2))) ∨ (∃ kvs, o = .dT kvs ∧ tkeysOf ks = some (kvs.map (·.1)) ∧ RpL K S ds (kvs.map (·.2)))
  | _, _ => False
def isOwn : Sl → Bool
  | .own _ => true
  | .owd _ _ => true
  | _ => false
theorem OwnC.mono {K : PySem.W.Frag} {S S' : Hp} (e : Sb S S') : ∀ {sl : Sl} {o : HO}, OwnC K S sl o → OwnC K S' sl o
  | .own xs, o, ⟨vs, e1, h⟩ => ⟨vs, e1, h.mono e⟩
  | .owd ks ds, o, h => by
    rcases h with ⟨kvs, h1, h2, h3⟩ | ⟨kvs, h1, h2, h3⟩
    · exact .inl ⟨kvs, h1, h2, h3.mono e⟩
    · exact .inr ⟨kvs, h1, h2, h3.mono e⟩
/-- an own slot's object, left as it is from here on -/
def frz1 : Sl → Sl
  | .own xs => .val (.lst xs)
  | .owd ks vs => .val (.dct ks vs)
  | sl => sl
theorem OwnC.slr {K : PySem.W.Frag} {pp : PP} {S : Hp} {p : Addr} {o : HO} (hp : S p = some o) : ∀ {sl : Sl}, OwnC K S sl o → SlR K pp S sl (some (some (.ref p))) ∧ SlR K pp S (frz1 sl) (some (some (.ref p)))
  | .own xs, ⟨vs, e1, h⟩ => by
    subst e1
    have g : Rp K S (.lst xs) (.ref p) := rp_lst.mpr ⟨p, vs, rfl, hp, h⟩
    exact ⟨⟨_, rfl, g⟩, ⟨_, rfl, g⟩⟩
  | .owd ks ds, h => by
    have g : Rp K S (.dct ks ds) (.ref p) := by
      simp only [Rp]
      rcases h with ⟨kvs, h1, h2, h3⟩ | ⟨kvs, h1, h2, h3⟩
      · subst h1; exact ⟨p, rfl, .inl ⟨kvs, hp, h2, h3⟩⟩
      · subst h1; exact ⟨p, rfl, .inr ⟨kvs, hp, h2, h3⟩⟩
    exact ⟨⟨_, rfl, g⟩, ⟨_, rfl, g⟩⟩
theorem OwnC.notup {K : PySem.W.Frag} {S : Hp} : ∀ {sl : Sl} {o : HO}, OwnC K S sl o → (∀ xs, o ≠ .tup xs) ∧ ∀ ob xs, o ≠ .frz ob (.tup xs)
  | .own xs, o, ⟨vs, e1, h⟩ => by subst e1; exact ⟨(fun _ z => nomatch z), (fun _ _ z => nomatch z)⟩
  | .owd ks ds, o, h => by
    rcases h with ⟨kvs, h1, _⟩ | ⟨kvs, h1, _⟩ <;> subst h1 <;> exact ⟨(fun _ z => nomatch z), (fun _ _ z => nomatch z)⟩
def SlS (K : PySem.W.Frag) (H0 : Hp) (pp : PP) (S H : Hp) (sl : Sl) (ov : Option (Option V)) : Prop :=
  if isOwn sl = true then ∃ p o, ov = some (some (.ref p)) ∧ H p = some o ∧ OwnC K S sl o ∧ S p = none ∧ H0 p = none ∧ ∀ sc, pp ≠ some (p, sc) else SlR K pp S sl ov
structure SR (K : PySem.W.Frag) (C : Cz) (pp : PP) (S H : Hp) (σ : L2.St) (E : Env) (pl : Option Pl) : Prop where
  sub : Sb S H
  len : E.length = σ.length
  env : ∀ (i : Nat) (sl : Sl), E[i]? = some sl → SlS K C.H0 pp S H sl σ[i]?
  pin : ∀ p sc, pp = some (p, sc) → (∃ o, H p = some o) ∧ S p = none ∧ SqL K S sc.1 (sc.2.map V.int)
  new' : ∀ p sc, pp = some (p, sc) → C.pp0 = pp ∨ C.H0 p = none
  pool : ∀ P, pl = some P → ∃ p sc, pp = some (p, sc) ∧ H p = some (.lst [.ref sc.1, .int P.i, .int P.n, .int P.k]) ∧ P.scr = sc.2
  s0 : Sb C.S0 S
  keep : ∀ a o, C.H0 a = some o → (∀ sc, C.pp0 ≠ some (a, sc)) → H a = some o
  kept : ∀ a o, C.H0 a = some o → ∃ o', H a = some o'
  new : ∀ a o, S a = some o → C.S0 a = some o ∨ C.H0 a = none
  dist : ∀ (i j : Nat) (a b : Sl) (p : Addr), i ≠ j → E[i]? = some a → E[j]? = some b → isOwn a = true → isOwn b = true → σ[i]? = some (some (.ref p)) → σ[j]? = some (some (.ref p)) → False
  ppk : C.pp0 = none ∨ pp = C.pp0
  npp : pl = none → pp = none

/-! what of the own slots is seen -/
def hide1 : Sl → Sl
  | .own _ => .un
  | .owd _ _ => .un
  | sl => sl
def put (E0 : Env) : List Nat → Env → Env
  | [], E => E
  | i :: F, E => match E0[i]? with
    | some sl => put E0 F (E.set i sl)
    | none => put E0 F E
def vw (F : List Nat) (E : Env) : Env := put E F (E.map hide1)
def frz (F : List Nat) (E : Env) : Env := put (E.map frz1) F E
theorem put_len (E0 : Env) : ∀ (F : List Nat) (E : Env), (put E0 F E).length = E.length
  | [], E => rfl
  | i :: F, E => by
    unfold put
    split
    · rw [put_len E0 F, List.length_set]
    · exact put_len E0 F E
theorem put_get (E0 : Env) : ∀ (F : List Nat) (E : Env), E0.length = E.length → ∀ (i : Nat), (put E0 F E)[i]? = if i ∈ F then E0[i]? else E[i]?
  | [], E, _, i => by simp [put]
  | j :: F, E, hl, i => by
    unfold put
    cases h : E0[j]? with
    | some sl =>
      show (put E0 F (E.set j sl))[i]? = _
      rw [put_get E0 F _ (by rw [List.length_set]; exact hl)]
      by_cases hi : i ∈ F
      · rw [if_pos hi, if_pos (List.mem_cons_of_mem _ hi)]
      · rw [if_neg hi]
        by_cases hij : i = j
        · subst hij
          rw [if_pos List.mem_cons_self, h]
          have : i < E.length := by rw [← hl]; exact (List.getElem?_eq_some_iff.mp h).1
          exact List.getElem?_set_self this
        · rw [if_neg (by simp [hij, hi]), List.getElem?_set_ne (Ne.symm hij)]
    | none =>
      show (put E0 F E)[i]? = _
      rw [put_get E0 F _ hl]
      by_cases hi : i ∈ F
      · rw [if_pos hi, if_pos (List.mem_cons_of_mem _ hi)]
      · rw [if_neg hi]
        by_cases hij : i = j
        · subst hij
          rw [if_pos List.mem_cons_self, h]
          have : E.length ≤ i := by rw [← hl]; exact List.getElem?_eq_none_iff.mp h
          exact List.getElem?_eq_none_iff.mpr this
        · rw [if_neg (by simp [hij, hi])]
theorem vw_get (F : List Nat) (E : Env) (i : Nat) : (vw F E)[i]? = if i ∈ F then E[i]? else (E[i]?).map hide1 := by
  unfold vw
  rw [put_get _ _ _ (by rw [List.length_map])]
  by_cases h : i ∈ F
  · rw [if_pos h, if_pos h]
  · rw [if_neg h, if_neg h, List.getElem?_map]
theorem frz_get (F : List Nat) (E : Env) (i : Nat) : (frz F E)[i]? = if i ∈ F then (E[i]?).map frz1 else E[i]? := by
  unfold frz
  rw [put_get _ _ _ (by rw [List.length_map])]
  by_cases h : i ∈ F
  · rw [if_pos h, if_pos h, List.getElem?_map]
  · rw [if_neg h, if_neg h]
theorem vw_len (F : List Nat) (E : Env) : (vw F E).length = E.length := by unfold vw; rw [put_len, List.length_map]
theorem frz_len (F : List Nat) (E : Env) : (frz F E).length = E.length := by unfold frz; rw [put_len]
/-- a is an own slot's object, of those in F -/
def OwnA (F : List Nat) (E : Env) (σ : L2.St) (a : Addr) : Prop := ∃ (i : Nat) (sl : Sl), i ∈ F ∧ E[i]? = some sl ∧ isOwn sl = true ∧ σ[i]? = some (some (.ref a))
open Classical in
noncomputable def Splus (S H : Hp) (F : List Nat) (E : Env) (σ : L2.St) : Hp := fun a => if OwnA F E σ a then H a else S a
open Classical in
noncomputable def Sminus (S : Hp) (F : List Nat) (E : Env) (σ : L2.St) : Hp := fun a => if OwnA F E σ a then none else S a
section
variable {K : PySem.W.Frag} {C : Cz} {pp : PP} {S H S' H' : Hp} {σ : L2.St} {E : Env} {pl pl' : Option Pl} {F : List Nat}
theorem SR.own (I : SR K C pp S H σ E pl) {i : Nat} {sl : Sl} (h : E[i]? = some sl) (ho : isOwn sl = true) : ∃ p o, σ[i]? = some (some (.ref p)) ∧ H p = some o ∧ OwnC K S sl o ∧ S p = none ∧ C.H0 p = none ∧ ∀ sc, pp ≠ some (p, sc) := by
  have g := I.env i sl h
  unfold SlS at g
  rw [if_pos ho] at g
  exact g
theorem SR.slr (I : SR K C pp S H σ E pl) {i : Nat} {sl : Sl} (h : E[i]? = some sl) (ho : isOwn sl = false) : SlR K pp S sl σ[i]? := by
  have g := I.env i sl h
  unfold SlS at g
  rw [if_neg (by rw [ho]; decide)] at g
  exact g
theorem SR.ownA (I : SR K C pp S H σ E pl) {a : Addr} (h : OwnA F E σ a) : ∃ sl o, H a = some o ∧ OwnC K S sl o ∧ S a = none ∧ C.H0 a = none ∧ ∀ sc, pp ≠ some (a, sc) := by
  obtain ⟨i, sl, _, h1, h2, h3⟩ := h
  obtain ⟨p, o, e, g⟩ := I.own h1 h2
  rw [h3] at e; cases e
  exact ⟨sl, o, g⟩
theorem SR.plus (I : SR K C pp S H σ E pl) : Sb S (Splus S H F E σ) := fun a o e => by
  unfold Splus
  split
  · rename_i h
    obtain ⟨_, _, _, _, h2, _⟩ := I.ownA h
    rw [h2] at e; cases e
  · exact e
theorem SR.plusH (I : SR K C pp S H σ E pl) : Sb (Splus S H F E σ) H := fun a o e => by
  unfold Splus at e
  split at e
  · exact e
  · exact I.sub a o e
theorem hide1_own {sl : Sl} (h : isOwn sl = true) : hide1 sl = .un := by cases sl <;> first | rfl | cases h
theorem hide1_not {sl : Sl} (h : isOwn sl = false) : hide1 sl = sl := by cases sl <;> first | rfl | cases h
theorem frz1_not {sl : Sl} (h : isOwn sl = false) : frz1 sl = sl := by cases sl <;> first | rfl | cases h
theorem frz1_own (sl : Sl) : isOwn (frz1 sl) = false := by cases sl <;> rfl
/-- ahead of an expression: the own slots in F are seen, as if they stayed -/
theorem SR.er (I : SR K C pp S H σ E pl) (F : List Nat) : ER K pp (Splus S H F E σ) H σ (vw F E) pl := by
  refine ⟨I.plusH, by rw [vw_len]; exact I.len, fun i sl e => ?_, fun p sc e => ?_, fun P e => ?_, I.npp⟩
  · rw [vw_get] at e
    by_cases hi : i ∈ F
    · rw [if_pos hi] at e
      cases ho : isOwn sl with
      | false => exact (I.slr e ho).mono I.plus
      | true =>
        obtain ⟨p, o, h1, h2, h3, h4, h5, h6⟩ := I.own e ho
        rw [h1]
        have hp : (Splus S H F E σ) p = some o := by
          unfold Splus
          rw [if_pos ⟨i, sl, hi, e, ho, h1⟩]; exact h2
        exact (OwnC.slr hp (h3.mono I.plus)).1
    · rw [if_neg hi] at e
      cases h : E[i]? with
      | none => rw [h] at e; cases e
      | some s1 =>
        rw [h] at e
        cases e
        cases ho : isOwn s1 with
        | true => rw [hide1_own ho]; exact trivial
        | false => rw [hide1_not ho]; exact (I.slr h ho).mono I.plus
  · obtain ⟨h1, h2, h3⟩ := I.pin p sc e
    refine ⟨h1, ?_, sb_l I.plus h3⟩
    unfold Splus
    split
    · rename_i h
      obtain ⟨_, _, _, _, _, _, h6⟩ := I.ownA h
      exact absurd e (h6 sc)
    · exact h2
  · obtain ⟨p, sc, h1, h2, h3⟩ := I.pool P e
    exact ⟨p, sc, h1, h2, h3⟩
/-- behind it: those in F stay from here on -/
theorem SR.fin (I : SR K C pp S H σ E pl) (J : ER K pp S' H' σ (vw F E) pl') (a : Ad pp (Splus S H F E σ) H S' H') : SR K C pp S' H' σ (frz F E) pl' := by
  have sS : Sb S S' := I.plus.trans a.s
  refine ⟨J.sub, by rw [frz_len]; exact I.len, fun i sl e => ?_, fun p sc e => J.pin p sc e, I.new', J.pool, I.s0.trans sS, fun b o e n => ?_, fun b o e => ?_, fun b o e => ?_, fun i j x y p hij hx hy ox oy sx sy => ?_, I.ppk, J.npp⟩
  · rw [frz_get] at e
    unfold SlS
    by_cases hi : i ∈ F
    · rw [if_pos hi] at e
      cases h : E[i]? with
      | none => rw [h] at e; cases e
      | some s1 =>
        rw [h] at e; cases e
        rw [if_neg (by rw [frz1_own]; decide)]
        cases ho : isOwn s1 with
        | false => rw [frz1_not ho]; exact (I.slr h ho).mono sS
        | true =>
          obtain ⟨p, o, h1, h2, h3, _⟩ := I.own h ho
          rw [h1]
          have hp : (Splus S H F E σ) p = some o := by
            unfold Splus
            rw [if_pos ⟨i, s1, hi, h, ho, h1⟩]; exact h2
          exact (OwnC.slr (a.s p o hp) (h3.mono sS)).2
    · rw [if_neg hi] at e
      cases ho : isOwn sl with
      | false => rw [if_neg (by decide)]; exact (I.slr e ho).mono sS
      | true =>
        rw [if_pos rfl]
        obtain ⟨p, o, h1, h2, h3, h4, h5, h6⟩ := I.own e ho
        refine ⟨p, o, h1, a.h p o h2 h6, h3.mono sS, ?_, h5, h6⟩
        cases q : S' p with
        | none => rfl
        | some u =>
          rcases a.n p u q with z | z
          · unfold Splus at z
            split at z
            · rename_i w
              obtain ⟨j, sj, w1, w2, w3, w4⟩ := w
              exact (I.dist i j sl sj p (fun q => hi (q ▸ w1)) e w2 ho w3 h1 w4).elim
            · rw [h4] at z; cases z
          · rw [z] at h2; cases h2
  · by_cases hp : ∃ sc, pp = some (b, sc)
    · obtain ⟨sc, hp⟩ := hp
      rcases I.new' b sc hp with z | z
      · exact absurd (z.trans hp) (n sc)
      · rw [z] at e; cases e
    · exact a.h b o (I.keep b o e n) fun sc z => hp ⟨sc, z⟩
  · obtain ⟨o', e'⟩ := I.kept b o e
    exact a.t b o' e'
  · rcases a.n b o e with z | z
    · unfold Splus at z
      split at z
      · rename_i w
        obtain ⟨_, _, _, _, _, w5, _⟩ := I.ownA w
        exact .inr w5
      · exact I.new b o z
    · right
      cases q : C.H0 b with
      | none => rfl
      | some u => obtain ⟨o', e'⟩ := I.kept b u q; rw [z] at e'; cases e'
  · rw [frz_get] at hx hy
    have nx : i ∉ F := fun hi => by
      rw [if_pos hi] at hx
      cases h : E[i]? with
      | none => rw [h] at hx; cases hx
      | some s1 => rw [h] at hx; cases hx; rw [frz1_own] at ox; cases ox
    have ny : j ∉ F := fun hi => by
      rw [if_pos hi] at hy
      cases h : E[j]? with
      | none => rw [h] at hy; cases hy
      | some s1 => rw [h] at hy; cases hy; rw [frz1_own] at oy; cases oy
    rw [if_neg nx] at hx
    rw [if_neg ny] at hy
    exact I.dist i j x y p hij hx hy ox oy sx sy
/-! no list within -/
mutual
def noL : D → Bool
  | .non => true
  | .bl _ => true
  | .int _ => true
  | .str _ => true
  | .tup xs => noLL xs
  | _ => false
def noLL : List D → Bool
  | [] => true
  | d :: ds => noL d && noLL ds
end
mutual
theorem Rp.low (hS : ∀ a xs, Rd S a (.tup xs) → Rd S' a (.tup xs)) : ∀ (d : D) (v : V), noL d = true → Rp K S d v → Rp K S' d v
  | .non, v, _, h => by simpa only [Rp] using h
  | .bl _, v, _, h => by simpa only [Rp] using h
  | .int _, v, _, h => by simpa only [Rp] using h
  | .str _, v, _, h => by simpa only [Rp] using h
  | .tup xs, v, n, h => by
    simp only [noL] at n
    simp only [Rp] at h ⊢
    obtain ⟨a, vs, e, h1, h2⟩ := h
    refine ⟨a, vs, e, ?_, RpL.low hS xs vs n h2⟩
    rcases h1 with h1 | h1
    · exact .inl (hS a vs h1)
    · exact .inr h1
  | .lst _, v, n, h => by simp only [noL] at n; cases n
  | .dct _ _, v, n, h => by simp only [noL] at n; cases n
  | .scr _, v, n, h => by simp only [noL] at n; cases n
theorem RpL.low (hS : ∀ a xs, Rd S a (.tup xs) → Rd S' a (.tup xs)) : ∀ (ds : List D) (vs : List V), noLL ds = true → RpL K S ds vs → RpL K S' ds vs
  | [], vs, _, h => by rw [h.nil_inv]; exact RpL.nil
  | d :: ds, vs, n, h => by
    obtain ⟨v, r, rfl, h1, h2⟩ := h.cons_inv
    simp only [noLL, Bool.and_eq_true] at n
    exact RpL.cons (Rp.low hS d v n.1 h1) (RpL.low hS ds r n.2 h2)
end
/-- behind it, where what came out knows no list: the own slots are own again -/
def allF (E : Env) : List Nat := List.range E.length
theorem vw_all (E : Env) : vw (allF E) E = E := by
  apply List.ext_getElem?
  intro i
  rw [vw_get]
  by_cases h : i ∈ allF E
  · rw [if_pos h]
  · rw [if_neg h]
    have : E.length ≤ i := by
      unfold allF at h
      rw [List.mem_range] at h
      omega
    rw [List.getElem?_eq_none_iff.mpr this]; rfl
theorem SR.erA (I : SR K C pp S H σ E pl) : ER K pp (Splus S H (allF E) E σ) H σ E pl := by
  have h := I.er (allF E)
  rwa [vw_all] at h
theorem SR.back (I : SR K C pp S H σ E pl) (J : ER K pp S' H' σ E pl') (a : Ad pp (Splus S H (allF E) E σ) H S' H') :
    SR K C pp (Sminus S' (allF E) E σ) H' σ E pl' ∧ ∀ d v, noL d = true → Rp K S' d v → Rp K (Sminus S' (allF E) E σ) d v := by
  have own_in : ∀ {i : Nat} {sl : Sl}, E[i]? = some sl → i ∈ allF E := fun h => by
    unfold allF; rw [List.mem_range]; exact (List.getElem?_eq_some_iff.mp h).1
  have sS : Sb S (Sminus S' (allF E) E σ) := fun b o e => by
    unfold Sminus
    split
    · rename_i w
      obtain ⟨_, _, _, _, w2, _⟩ := I.ownA w
      rw [w2] at e; cases e
    · exact a.s b o (I.plus b o e)
  have sM : Sb (Sminus S' (allF E) E σ) S' := fun b o e => by
    unfold Sminus at e
    split at e
    · cases e
    · exact e
  refine ⟨⟨sM.trans J.sub, I.len, fun i sl e => ?_, fun p sc e => ?_, I.new', fun P e => ?_, I.s0.trans sS, fun b o e n => ?_, fun b o e => ?_, fun b o e => ?_, I.dist, I.ppk, J.npp⟩, fun d v n h => Rp.low (fun b xs r => ?_) d v n h⟩
  · unfold SlS
    cases ho : isOwn sl with
    | false => rw [if_neg (by decide)]; exact (I.slr e ho).mono sS
    | true =>
      rw [if_pos rfl]
      obtain ⟨p, o, h1, h2, h3, h4, h5, h6⟩ := I.own e ho
      refine ⟨p, o, h1, a.h p o h2 h6, h3.mono sS, ?_, h5, h6⟩
      unfold Sminus
      rw [if_pos ⟨i, sl, own_in e, e, ho, h1⟩]
  · obtain ⟨h1, h2, _⟩ := J.pin p sc e
    refine ⟨h1, ?_, sb_l sS (I.pin p sc e).2.2⟩
    unfold Sminus
    split
    · rfl
    · exact h2
  · obtain ⟨p, sc, h1, h2, h3⟩ := J.pool P e
    exact ⟨p, sc, h1, h2, h3⟩
  · by_cases hp : ∃ sc, pp = some (b, sc)
    · obtain ⟨sc, hp⟩ := hp
      rcases I.new' b sc hp with z | z
      · exact absurd (z.trans hp) (n sc)
      · rw [z] at e; cases e
    · exact a.h b o (I.keep b o e n) fun sc z => hp ⟨sc, z⟩
  · obtain ⟨o', e'⟩ := I.kept b o e
    exact a.t b o' e'
  · unfold Sminus at e
    split at e
    · cases e
    · rename_i w
      rcases a.n b o e with z | z
      · unfold Splus at z
        rw [if_neg w] at z
        exact I.new b o z
      · right
        cases q : C.H0 b with
        | none => rfl
        | some u => obtain ⟨o', e'⟩ := I.kept b u q; rw [z] at e'; cases e'
  · have key : ∀ u, S' b = some u → (∀ sl, OwnC K S sl u → False) → Sminus S' (allF E) E σ b = some u := fun u h g => by
      unfold Sminus
      split
      · rename_i w
        obtain ⟨sl, o, w1, w2, w3, w4, w5⟩ := I.ownA w
        have : H' b = some o := a.h b o w1 w5
        rw [J.sub b u h] at this
        cases this
        exact (g sl w2).elim
      · exact h
    rcases r with r | ⟨o, r⟩
    · exact .inl (key _ r fun sl w => (w.notup).1 _ rfl)
    · exact .inr ⟨o, key _ r fun sl w => (w.notup).2 _ _ rfl⟩
end
end Dn
set_option Elab.async false
set_option linter.all false
set_option maxRecDepth 100000
set_option maxHeartbeats 2000000
namespace Dn
open PySem L2

/-! ### statements: what they come to -/
inductive Out where
  | nx (E : Env) (pl : Option Pl)
  | rt (d : D) (E : Env) (pl : Option Pl)
  | rtl (xs : List D) (E : Env) (pl : Option Pl)
  | bk (E : Env) (pl : Option Pl)
  | ct (E : Env) (pl : Option Pl)
abbrev SM := Env → Option Pl → Option Out
def PpS (pp pp' : PP) : Prop := pp = none ∨ pp' = pp
theorem PpS.refl {pp : PP} : PpS pp pp := .inr rfl
theorem PpS.trans {a b c : PP} (h : PpS a b) (g : PpS b c) : PpS a c := by
  rcases h with h | h
  · exact .inl h
  · subst h; exact g
/-- what must hold behind -/
def PO' (K : PySem.W.Frag) (C : Cz) (pp : PP) (D' : Ends) : Out → Prop
  | .nx E pl => ∀ pp' S H σ, PpS pp pp' → SR K C pp' S H σ E pl → D'.nx σ H
  | .bk E pl => ∀ pp' S H σ, PpS pp pp' → SR K C pp' S H σ E pl → D'.bk σ H
  | .ct E pl => ∀ pp' S H σ, PpS pp pp' → SR K C pp' S H σ E pl → D'.ct σ H
  | .rt d E pl => ∀ pp' S H σ v, PpS pp pp' → SR K C pp' S H σ E pl → Rp K S d v → D'.rt v H
  | .rtl xs E pl => ∀ pp' S H σ p vs, PpS pp pp' → SR K C pp' S H σ E pl → H p = some (.lst vs) → S p = none → C.H0 p = none → (∀ sc, pp' ≠ some (p, sc)) → RpL K S xs vs → D'.rt (.ref p) H
theorem PO'.step {K : PySem.W.Frag} {C : Cz} {pp pp' : PP} {D' : Ends} {o : Out} (h : PpS pp pp') (g : PO' K C pp D' o) : PO' K C pp' D' o := by
  cases o <;> simp only [PO'] at g ⊢
  · exact fun a S H σ e => g a S H σ (h.trans e)
  · exact fun a S H σ v e => g a S H σ v (h.trans e)
  · exact fun a S H σ p vs e => g a S H σ p vs (h.trans e)
  · exact fun a S H σ e => g a S H σ (h.trans e)
  · exact fun a S H σ e => g a S H σ (h.trans e)
def SS (K : PySem.W.Frag) (t : TS) (m : SM) : Prop := ∀ C pp S H σ E pl D' out, SR K C pp S H σ E pl → m E pl = some out → PO' K C pp D' out → t D' σ H
def SF (X : Cx) (st : Stmt) (m : SM) : Prop := ∃ t, PS X st t ∧ SS X.K t m
def BkF (X : Cx) (sts : List Stmt) (m : SM) : Prop := ∃ t, PSs X sts t ∧ SS X.K t m

/-! a slot is stored -/
theorem SlS.un {K : PySem.W.Frag} {H0 : Hp} {pp : PP} {S H : Hp} {ov : Option (Option V)} : SlS K H0 pp S H .un ov := by
  unfold SlS; rw [if_neg (by decide)]; exact trivial
section
variable {K : PySem.W.Frag} {C : Cz} {pp : PP} {S H S' H' : Hp} {σ : L2.St} {E : Env} {pl pl' : Option Pl} {F : List Nat} {X : Cx}
theorem SR.slot (I : SR K C pp S H σ E pl) (i : Nat) {sl : Sl} {v : V} (h : SlS K C.H0 pp S H sl (some (some v)))
    (hd : isOwn sl = true → ∀ (j : Nat) (b : Sl), j ≠ i → E[j]? = some b → isOwn b = true → σ[j]? ≠ some (some v)) : SR K C pp S H (σ.set i (some v)) (E.set i sl) pl := by
  have get : ∀ {j : Nat} {b : Sl}, (E.set i sl)[j]? = some b → (j = i ∧ b = sl ∧ (σ.set i (some v))[j]? = some (some v)) ∨ (j ≠ i ∧ E[j]? = some b ∧ (σ.set i (some v))[j]? = σ[j]?) := fun {j b} e => by
    by_cases hj : i = j
    · subst hj
      by_cases hl : i < E.length
      · rw [List.getElem?_set_self hl] at e
        cases e
        exact .inl ⟨rfl, rfl, List.getElem?_set_self (by rw [← I.len]; exact hl)⟩
      · rw [List.getElem?_eq_none_iff.mpr (by rw [List.length_set]; omega)] at e; cases e
    · rw [List.getElem?_set_ne hj] at e
      exact .inr ⟨Ne.symm hj, e, List.getElem?_set_ne hj⟩
  refine ⟨I.sub, by rw [List.length_set, List.length_set]; exact I.len, fun j b e => ?_, I.pin, I.new', I.pool, I.s0, I.keep, I.kept, I.new, fun j k a b p hjk ha hb oa ob sa sb => ?_, I.ppk, I.npp⟩
  · rcases get e with ⟨_, e2, e3⟩ | ⟨_, e2, e3⟩
    · rw [e3]; subst e2; exact h
    · rw [e3]; exact I.env j b e2
  · rcases get ha with ⟨e1, e2, e3⟩ | ⟨e1, e2, e3⟩ <;> rcases get hb with ⟨g1, g2, g3⟩ | ⟨g1, g2, g3⟩
    · exact hjk (e1.trans g1.symm)
    · rw [e3] at sa; cases sa
      rw [g3] at sb
      subst e2
      exact hd oa k b g1 g2 ob sb
    · rw [g3] at sb; cases sb
      rw [e3] at sa
      subst g2
      exact hd ob j a e1 e2 oa sa
    · rw [e3] at sa; rw [g3] at sb
      exact I.dist j k a b p hjk e2 g2 oa ob sa sb
theorem SR.val (I : SR K C pp S H σ E pl) (i : Nat) {d : D} {v : V} (h : Rp K S d v) : SR K C pp S H (σ.set i (some v)) (E.set i (.val d)) pl :=
  I.slot i (by unfold SlS; rw [if_neg (by intro z; cases z)]; exact ⟨v, rfl, h⟩) fun z => by cases z
/-- a new own object -/
theorem SR.newOwn (I : SR K C pp S H σ E pl) (i : Nat) {sl : Sl} {p : Addr} {o : HO} (ho : isOwn sl = true) (hp : H p = some o) (oc : OwnC K S sl o) (sp : S p = none) (h0 : C.H0 p = none) (np : ∀ sc, pp ≠ some (p, sc))
    (fr : ∀ (j : Nat) (b : Sl), E[j]? = some b → isOwn b = true → σ[j]? ≠ some (some (.ref p))) : SR K C pp S H (σ.set i (some (.ref p))) (E.set i sl) pl :=
  I.slot i (by unfold SlS; rw [if_pos ho]; exact ⟨p, o, rfl, hp, oc, sp, h0, np⟩) fun _ j b _ e ob => fr j b e ob
/-- a forgotten slot -/
theorem SR.forget (I : SR K C pp S H σ E pl) (i : Nat) : SR K C pp S H σ (E.set i .un) pl := by
  have get : ∀ {j : Nat} {b : Sl}, (E.set i .un)[j]? = some b → b = .un ∨ E[j]? = some b := fun {j b} e => by
    by_cases hj : i = j
    · subst hj
      by_cases hl : i < E.length
      · rw [List.getElem?_set_self hl] at e
        cases e
        exact .inl rfl
      · rw [List.getElem?_eq_none_iff.mpr (by rw [List.length_set]; omega)] at e; cases e
    · rw [List.getElem?_set_ne hj] at e
      exact .inr e
  refine ⟨I.sub, by rw [List.length_set]; exact I.len, fun j b e => ?_, I.pin, I.new', I.pool, I.s0, I.keep, I.kept, I.new, fun j k a b p hjk ha hb oa ob sa sb => ?_, I.ppk, I.npp⟩
  · rcases get e with e2 | e2
    · subst e2; exact SlS.un
    · exact I.env j b e2
  · rcases get ha with e2 | e2
    · subst e2; cases oa
    · rcases get hb with g2 | g2
      · subst g2; cases ob
      · exact I.dist j k a b p hjk e2 g2 oa ob sa sb
/-- an own object is changed -/
theorem SR.upd (I : SR K C pp S H σ E pl) {i : Nat} {sl sl' : Sl} {p : Addr} {o' : HO} (e : E[i]? = some sl) (ho : isOwn sl = true) (hv : σ[i]? = some (some (.ref p))) (ho' : isOwn sl' = true) (oc : OwnC K S sl' o') : SR K C pp S (L2.upd H p o') σ (E.set i sl') pl := by
  obtain ⟨p', o, h1, h2, h3, h4, h5, h6⟩ := I.own e ho
  rw [hv] at h1; cases h1
  have hl : i < E.length := (List.getElem?_eq_some_iff.mp e).1
  have get : ∀ {j : Nat} {b : Sl}, (E.set i sl')[j]? = some b → (j = i ∧ b = sl') ∨ (j ≠ i ∧ E[j]? = some b) := fun {j b} e => by
    by_cases hj : i = j
    · subst hj
      rw [List.getElem?_set_self hl] at e
      cases e
      exact .inl ⟨rfl, rfl⟩
    · rw [List.getElem?_set_ne hj] at e
      exact .inr ⟨Ne.symm hj, e⟩
  refine ⟨fun a u e => ?_, by rw [List.length_set]; exact I.len, fun j b e' => ?_, fun q sc eq => ?_, I.new', fun P eP => ?_, I.s0, fun a u e' n => ?_, fun a u e' => ?_, I.new, fun j k a b q hjk ha hb oa ob sa sb => ?_, I.ppk, I.npp⟩
  · have ne : a ≠ p := fun z => by rw [z, h4] at e; cases e
    rw [upd_ne ne]; exact I.sub a u e
  · rcases get e' with ⟨e1, e2⟩ | ⟨e1, e2⟩
    · subst e1 e2
      unfold SlS
      rw [if_pos ho']
      exact ⟨p, o', hv, upd_same, oc, h4, h5, h6⟩
    · unfold SlS
      cases ob : isOwn b with
      | false => rw [if_neg (by decide)]; exact I.slr e2 ob
      | true =>
        rw [if_pos rfl]
        obtain ⟨q, u, g1, g2, g3, g4⟩ := I.own e2 ob
        have ne : q ≠ p := fun z => by subst z; exact I.dist j i b sl q e1 e2 e ob ho g1 hv
        exact ⟨q, u, g1, by rw [upd_ne ne]; exact g2, g3, g4⟩
  · obtain ⟨⟨u, g1⟩, g2⟩ := I.pin q sc eq
    have ne : q ≠ p := fun z => by subst z; exact h6 sc eq
    exact ⟨⟨u, by rw [upd_ne ne]; exact g1⟩, g2⟩
  · obtain ⟨q, sc, g1, g2, g3⟩ := I.pool P eP
    have ne : q ≠ p := fun z => by subst z; exact h6 sc g1
    exact ⟨q, sc, g1, by rw [upd_ne ne]; exact g2, g3⟩
  · have ne : a ≠ p := fun z => by rw [z, h5] at e'; cases e'
    rw [upd_ne ne]; exact I.keep a u e' n
  · have ne : a ≠ p := fun z => by rw [z, h5] at e'; cases e'
    rw [upd_ne ne]; exact I.kept a u e'
  · rcases get ha with ⟨e1, e2⟩ | ⟨e1, e2⟩ <;> rcases get hb with ⟨g1, g2⟩ | ⟨g1, g2⟩
    · exact hjk (e1.trans g1.symm)
    · subst e1; exact I.dist j k sl b q hjk e g2 ho ob sa sb
    · subst g1; exact I.dist j k a sl q hjk e2 e oa ho sa sb
    · exact I.dist j k a b q hjk e2 g2 oa ob sa sb

/-! ### blocks -/
def sNil : SM := fun E pl => some (.nx E pl)
def sSeq (a b : SM) : SM := fun E pl => match a E pl with
  | some (.nx E' p) => b E' p
  | o => o
theorem bk_nil : BkF X [] sNil := ⟨_, pss_nil, fun C pp S H σ E pl D' out I e q => by
  cases e; exact q pp S H σ PpS.refl I⟩
theorem bk_one {st : Stmt} {m : SM} (h : SF X st m) : BkF X [st] m := let ⟨t, p, s⟩ := h; ⟨t, pss_one p, s⟩
theorem bk_cons {st : Stmt} {rest : List Stmt} {m n : SM} (h : SF X st m) (g : BkF X rest n) : BkF X (st :: rest) (sSeq m n) := by
  obtain ⟨t, p, s⟩ := h
  obtain ⟨u, p', s'⟩ := g
  refine ⟨_, pss_cons p p', fun C pp S H σ E pl D' out I e q => ?_⟩
  unfold sSeq at e
  show t { D' with nx := u D' } σ H
  cases h : m E pl with
  | none => rw [h] at e; cases e
  | some o =>
    rw [h] at e
    cases o with
    | nx E1 p1 =>
      refine s C pp S H σ E pl _ _ I h ?_
      intro pp' S1 H1 σ1 hp I1
      exact s' C pp' S1 H1 σ1 E1 p1 D' out I1 e (q.step hp)
    | rt d E1 p1 => cases e; exact s C pp S H σ E pl _ _ I h q
    | rtl d E1 p1 => cases e; exact s C pp S H σ E pl _ _ I h q
    | bk E1 p1 => cases e; exact s C pp S H σ E pl _ _ I h q
    | ct E1 p1 => cases e; exact s C pp S H σ E pl _ _ I h q
def sBrk : SM := fun E pl => some (.bk E pl)
def sCnt : SM := fun E pl => some (.ct E pl)
theorem sf_pass {pos : Pos} : SF X (.Pass pos) sNil := ⟨_, ps_pass, fun C pp S H σ E pl D' out I e q => by cases e; exact q pp S H σ PpS.refl I⟩
theorem sf_brk {pos : Pos} : SF X (.Break pos) sBrk := ⟨_, ps_break, fun C pp S H σ E pl D' out I e q => by cases e; exact q pp S H σ PpS.refl I⟩
theorem sf_cnt {pos : Pos} : SF X (.Continue pos) sCnt := ⟨_, ps_continue, fun C pp S H σ E pl D' out I e q => by cases e; exact q pp S H σ PpS.refl I⟩
def sIf (c : BM) (a b : SM) : SM := fun E pl => match c E pl with
  | some (true, p) => a E p
  | some (false, p) => b E p
  | none => none
theorem sf_if {c : Expr} {a b : List Stmt} {mc : BM} {ma mb : SM} {pos : Pos} (hc : BF X c mc) (ha : BkF X a ma) (hb : BkF X b mb) : SF X (.If c a b pos) (sIf mc ma mb) := by
  obtain ⟨t, p, s⟩ := hc
  obtain ⟨t1, p1, s1⟩ := ha
  obtain ⟨t2, p2, s2⟩ := hb
  refine ⟨_, ps_if p p1 p2, fun C pp S H σ E pl D' out I e q => ?_⟩
  unfold sIf at e
  cases h : mc E pl with
  | none => rw [h] at e; cases e
  | some r =>
    obtain ⟨b, p'⟩ := r
    rw [h] at e
    refine s pp _ H σ E pl b p' _ I.erA h fun S1 H1 J a1 => ?_
    obtain ⟨I1, _⟩ := I.back J a1
    cases b with
    | true => exact s1 C pp _ H1 σ E p' D' out I1 e q
    | false => exact s2 C pp _ H1 σ E p' D' out I1 e q

/-! ### stores -/
abbrev TM := D → Env → Option Env
def GS (K : PySem.W.Frag) (g : TG) (f : TM) : Prop := ∀ C pp S H σ E pl d v E' (Q : L2.St → Hp → Prop), SR K C pp S H σ E pl → Rp K S d v → f d E = some E' → (∀ σ', SR K C pp S H σ' E' pl → Q σ' H) → g v σ H Q
def GSs (K : PySem.W.Frag) (g : TGs) (f : List D → Env → Option Env) : Prop := ∀ C pp S H σ E pl ds vs E' (Q : L2.St → Hp → Prop), SR K C pp S H σ E pl → RpL K S ds vs → f ds E = some E' → (∀ σ', SR K C pp S H σ' E' pl → Q σ' H) → g vs σ H Q
def GF (X : Cx) (tg : Expr) (f : TM) : Prop := ∃ g, PG X tg g ∧ GS X.K g f
def GFs (X : Cx) (tgs : List Expr) (f : List D → Env → Option Env) : Prop := ∃ g, PGs X tgs g ∧ GSs X.K g f
def gN (i : Nat) : TM := fun d E => some (E.set i (.val d))
def gT (f : List D → Env → Option Env) : TM := fun d E => match d with
  | .tup ds => f ds E
  | _ => none
def gsN : List D → Env → Option Env := fun ds E => match ds with
  | [] => some E
  | _ => none
def gsC (f : TM) (fs : List D → Env → Option Env) : List D → Env → Option Env := fun ds E => match ds with
  | d :: r => (f d E).bind (fs r)
  | [] => none
theorem GS.name (i : Nat) : GS K (gName i) (gN i) := fun C pp S H σ E pl d v E' Q I r e q => by
  cases e; exact q _ (I.val i r)
theorem gf_name {i : Nat} {x : Str} {pos : Pos} (hN : X.N.Nodup) (hi : X.N[i]? = some x) (hx : Loc X.env.scope x) (hf : X.fn x = true ∨ X.env.scope.names.lookup x = some .local := by first | exact .inl rfl | exact .inr rfl | assumption) : GF X (.Name x pos) (gN i) :=
  ⟨_, pg_name hN hi hx hf, GS.name i⟩
theorem gfs_nil : GFs X [] gsN := ⟨_, pgs_nil, fun C pp S H σ E pl ds vs E' Q I r e q => by
  unfold gsN at e
  split at e <;> cases e
  exact ⟨r.nil_inv, q σ I⟩⟩
theorem gfs_cons {e : Expr} {es : List Expr} {f : TM} {fs : List D → Env → Option Env} (h1 : GF X e f) (h2 : GFs X es fs)
    (hs : (assignEach (e :: es) X.env).map (·.2) = assign e X.env :: (assignEach es X.env).map (·.2) := by rfl) : GFs X (e :: es) (gsC f fs) := by
  obtain ⟨g, p, s⟩ := h1
  obtain ⟨g', p', s'⟩ := h2
  refine ⟨_, pgs_cons p p' hs, fun C pp S H σ E pl ds vs E' Q I r e q => ?_⟩
  unfold gsC at e
  split at e
  · rename_i d rest
    obtain ⟨v, us, rfl, r1, r2⟩ := r.cons_inv
    cases h : f d E with
    | none => rw [h] at e; cases e
    | some E1 =>
      rw [h] at e
      exact ⟨v, us, rfl, s C pp S H σ E pl d v E1 _ I r1 h fun σ1 I1 => s' C pp S H σ1 E1 pl rest us E' Q I1 r2 e q⟩
  · cases e
theorem gfs_len {es : List Expr} {fs : List D → Env → Option Env} (n : Nat) (h : GFs X es fs) (hn : es.length = n) : ∀ {ds E E'}, fs ds E = some E' → True := fun _ => trivial
theorem gf_tup {es : List Expr} {k : Nat} {fs : List D → Env → Option Env} {pos : Pos} (n : Nat) (hc : X.calm = true) (h : GFs X es fs) (hn : (assignEach es X.env).length = n := by rfl) (hst : (assignEach es X.env).findIdx? (·.1) = none := by rfl) :
    GF X (.Tuple es k pos) (gT fun ds E => bM (ds.length == n) (fs ds E) none) := by
  obtain ⟨g, p, s⟩ := h
  refine ⟨_, pg_tup hc p hn hst, fun C pp S H σ E pl d v E' Q I r e q => ?_⟩
  unfold gT at e
  split at e
  · rename_i ds
    rw [rp_tup] at r
    obtain ⟨a, vs, rfl, h1, h2⟩ := r
    dsimp only at e
    cases hz : ds.length == n with
    | false => rw [hz] at e; cases e
    | true =>
      rw [hz] at e
      exact ⟨a, vs, rfl, sb_t I.sub h1, by rw [h2.len]; exact eq_of_beq hz, s C pp S H σ E pl ds vs E' Q I h2 e q⟩
  · cases e
/-- target = e, what came out knows no list; else the own slots in F stay from here on -/
def sAsgS (g : TM) (m : EM) : SM := fun E pl => match m E pl with
  | some (d, p) => bM (noL d) ((g d E).map fun E' => .nx E' p) none
  | none => none
def sAsgF (F : List Nat) (g : TM) (m : EM) : SM := fun E pl => match m (vw F E) pl with
  | some (d, p) => (g d (frz F E)).map fun E' => .nx E' p
  | none => none
theorem SS.asgS {te : TE} {g : TG} {f : TM} {m : EM} (s : ES K te m) (gs : GS K g f) : SS K (tAsg te g) (sAsgS f m) := fun C pp S H σ E pl D' out I e q => by
  unfold sAsgS at e
  cases h : m E pl with
  | none => rw [h] at e; cases e
  | some r =>
    obtain ⟨d, p⟩ := r
    rw [h] at e
    dsimp only at e
    cases hn : noL d with
    | false => rw [hn] at e; cases e
    | true =>
      rw [hn, bM_t] at e
      cases hg : f d E with
      | none => rw [hg] at e; cases e
      | some E1 =>
        rw [hg] at e; cases e
        refine s pp _ H σ E pl d p _ I.erA h fun v S1 H1 J a1 r1 => ?_
        obtain ⟨I1, low⟩ := I.back J a1
        exact gs C pp _ H1 σ E p d v E1 _ I1 (low d v hn r1) hg fun σ' I2 => q pp _ H1 σ' PpS.refl I2
theorem SS.asgF {te : TE} {g : TG} {f : TM} {m : EM} (F : List Nat) (s : ES K te m) (gs : GS K g f) : SS K (tAsg te g) (sAsgF F f m) := fun C pp S H σ E pl D' out I e q => by
  unfold sAsgF at e
  cases h : m (vw F E) pl with
  | none => rw [h] at e; cases e
  | some r =>
    obtain ⟨d, p⟩ := r
    rw [h] at e
    dsimp only at e
    cases hg : f d (frz F E) with
    | none => rw [hg] at e; cases e
    | some E1 =>
      rw [hg] at e; cases e
      refine s pp _ H σ _ pl d p _ (I.er F) h fun v S1 H1 J a1 r1 => ?_
      exact gs C pp _ H1 σ _ p d v E1 _ (I.fin J a1) r1 hg fun σ' I2 => q pp _ H1 σ' PpS.refl I2
/-- x = a new list, x to be changed -/
def sOwn (F : List Nat) (i : Nat) (m : AM) : SM := fun E pl => match m (vw F E) pl with
  | some (xs, p) => some (.nx ((frz F E).set i (.own xs)) p)
  | none => none
theorem h0_none (I : SR K C pp S H σ E pl) {p : Addr} (h : H p = none) : C.H0 p = none := by
  cases e : C.H0 p with
  | none => rfl
  | some o => obtain ⟨o', e'⟩ := I.kept p o e; rw [h] at e'; cases e'
theorem pp_none (I : SR K C pp S H σ E pl) {p : Addr} (h : H p = none) : ∀ sc, pp ≠ some (p, sc) := fun sc e => by
  obtain ⟨⟨o, h'⟩, _⟩ := I.pin p sc e
  rw [h] at h'; cases h'
theorem own_none (I : SR K C pp S H σ E pl) {p : Addr} (h : H p = none) (F : List Nat) : ∀ (j : Nat) (b : Sl), (frz F E)[j]? = some b → isOwn b = true → σ[j]? ≠ some (some (.ref p)) := fun j b e ob z => by
  rw [frz_get] at e
  by_cases hj : j ∈ F
  · rw [if_pos hj] at e
    cases h' : E[j]? with
    | none => rw [h'] at e; cases e
    | some s1 => rw [h'] at e; cases e; rw [frz1_own] at ob; cases ob
  · rw [if_neg hj] at e
    obtain ⟨p', o, g1, g2, _⟩ := I.own e ob
    rw [z] at g1; cases g1
    rw [h] at g2; cases g2
theorem SS.own {te : TE} {m : AM} (F : List Nat) (i : Nat) (s : LS K te m) : SS K (tAsg te (gName i)) (sOwn F i m) := fun C pp S H σ E pl D' out I e q => by
  unfold sOwn at e
  cases h : m (vw F E) pl with
  | none => rw [h] at e; cases e
  | some r =>
    obtain ⟨xs, p⟩ := r
    rw [h] at e; cases e
    refine s pp _ H σ _ pl xs p _ (I.er F) h fun a vs S1 H1 J a1 hp sp hq r1 => ?_
    exact q pp _ H1 _ PpS.refl ((I.fin J a1).newOwn i (sl := .own xs) rfl hq ⟨vs, rfl, r1⟩ sp (h0_none I hp) (pp_none I hp) (own_none I hp F))
/-- an assignment to a name -/
def AsF (X : Cx) (st : Stmt) (i : Nat) (m : EM) : Prop := ∃ te, PS X st (tAsg te (gName i)) ∧ ES X.K te m
def AsL (X : Cx) (st : Stmt) (i : Nat) (m : AM) : Prop := ∃ te, PS X st (tAsg te (gName i)) ∧ LS X.K te m
theorem as_set {i : Nat} {x : Str} {e : Expr} {m : EM} {pos pos' : Pos} (hN : X.N.Nodup) (hi : X.N[i]? = some x) (hx : Loc X.env.scope x) (he : EF X e m) (hs : swapsWith e (some (.Name x pos')) pos.line X.env = pure false := by rfl) (hf : X.fn x = true ∨ X.env.scope.names.lookup x = some .local := by first | exact .inl rfl | exact .inr rfl | assumption) :
    AsF X (.Assign [.Name x pos'] e pos) i m := let ⟨_, p, s⟩ := he; ⟨_, ps_set hN hi hx p hs hf, s⟩
theorem asl_set {i : Nat} {x : Str} {e : Expr} {m : AM} {pos pos' : Pos} (hN : X.N.Nodup) (hi : X.N[i]? = some x) (hx : Loc X.env.scope x) (he : LF X e m) (hs : swapsWith e (some (.Name x pos')) pos.line X.env = pure false := by rfl) (hf : X.fn x = true ∨ X.env.scope.names.lookup x = some .local := by first | exact .inl rfl | exact .inr rfl | assumption) :
    AsL X (.Assign [.Name x pos'] e pos) i m := let ⟨_, p, s⟩ := he; ⟨_, ps_set hN hi hx p hs hf, s⟩
theorem LS.es {t : TE} {m : AM} (s : LS K t m) : ES K t (mFrz m) := fun pp S H σ E pl d pl' Q I e q => by
  obtain ⟨xs, q1, e1, e⟩ := seqM_some e
  obtain ⟨rfl, rfl⟩ := oks_some e
  refine s pp S H σ E pl xs _ _ I e1 fun p vs S1 H1 I1 a1 hp sp hq r1 => ?_
  obtain ⟨I2, a2⟩ := I.frz I1 a1 hp sp hq
  exact q _ _ _ I2 a2 (rp_lst.mpr ⟨p, vs, rfl, upd_same, r1.mono (sb_upd sp)⟩)
theorem AsL.as {st : Stmt} {i : Nat} {m : AM} (h : AsL X st i m) : AsF X st i (mFrz m) := let ⟨_, p, s⟩ := h; ⟨_, p, s.es⟩
theorem AsF.s {st : Stmt} {i : Nat} {m : EM} (h : AsF X st i m) : SF X st (sAsgS (gN i) m) := let ⟨_, p, s⟩ := h; ⟨_, p, SS.asgS s (GS.name i)⟩
theorem AsF.f {st : Stmt} {i : Nat} {m : EM} (F : List Nat) (h : AsF X st i m) : SF X st (sAsgF F (gN i) m) := let ⟨_, p, s⟩ := h; ⟨_, p, SS.asgF F s (GS.name i)⟩
theorem AsL.o {st : Stmt} {i : Nat} {m : AM} (F : List Nat) (h : AsL X st i m) : SF X st (sOwn F i m) := let ⟨_, p, s⟩ := h; ⟨_, p, SS.own F i s⟩
theorem sf_asgS {tg e : Expr} {f : TM} {m : EM} {pos : Pos} (hg : GF X tg f) (he : EF X e m) (hs : swapsWithSole [tg] e pos.line X.env = pure false := by rfl) (hw : swappedStores [tg] e X.env = pure none := by rfl)
    (h1 : (assignEach [tg] X.env).map (·.2) = [assign tg X.env] := by rfl) : SF X (.Assign [tg] e pos) (sAsgS f m) := let ⟨_, p, s⟩ := he; let ⟨_, p', s'⟩ := hg; ⟨_, ps_asg p p' hs hw h1, SS.asgS s s'⟩
theorem sf_asgF {tg e : Expr} {f : TM} {m : EM} {pos : Pos} (F : List Nat) (hg : GF X tg f) (he : EF X e m) (hs : swapsWithSole [tg] e pos.line X.env = pure false := by rfl) (hw : swappedStores [tg] e X.env = pure none := by rfl)
    (h1 : (assignEach [tg] X.env).map (·.2) = [assign tg X.env] := by rfl) : SF X (.Assign [tg] e pos) (sAsgF F f m) := let ⟨_, p, s⟩ := he; let ⟨_, p', s'⟩ := hg; ⟨_, ps_asg p p' hs hw h1, SS.asgF F s s'⟩
/-- a, b = x, y -/
def sPar (F : List Nat) (i j : Nat) (m : AM) : SM := fun E pl => match m (vw F E) pl with
  | some ([a, b], p) => some (.nx (((frz F E).set i (.val a)).set j (.val b)) p)
  | _ => none
theorem sf_par {i j : Nat} {x y : Str} {a b : Expr} {m : AM} {px py pt pos : Pos} {kt k2 pt2} (F : List Nat) (hc : X.calm = true) (hN : X.N.Nodup) (hi : X.N[i]? = some x) (hj : X.N[j]? = some y) (hij : i ≠ j)
    (hx : X.env.scope.names.lookup x = some .local) (hy : X.env.scope.names.lookup y = some .local) (ha : AF X [a, b] m)
    (hw : swappedStores [.Tuple [.Name x px, .Name y py] kt pt] (.Tuple [a, b] k2 pt2) X.env = pure (some [x, y]))
    (hs : swapsWithSole [.Tuple [.Name x px, .Name y py] kt pt] (.Tuple [a, b] k2 pt2) pos.line X.env = pure false := by rfl) :
    SF X (.Assign [.Tuple [.Name x px, .Name y py] kt pt] (.Tuple [a, b] k2 pt2) pos) (sPar F i j m) := by
  obtain ⟨t, p, s⟩ := ha
  refine ⟨_, ps_par hc hN hi hj hij hx hy p hw hs, fun C pp S H σ E pl D' out I e q => ?_⟩
  unfold sPar at e
  split at e
  · rename_i d1 d2 p' h
    cases e
    refine s pp _ H σ _ pl _ p' _ (I.er F) h fun vs S1 H1 J a1 r1 => ?_
    obtain ⟨v, u, rfl, g1, g2⟩ := rpl_two r1
    exact ⟨v, u, rfl, q pp _ H1 _ PpS.refl (((I.fin J a1).val i g1).val j g2)⟩
  · cases e
/-- e; as a statement (its pool's work stays) -/
def sDrop (m : EM) : SM := fun E pl => match m E pl with
  | some (_, p) => some (.nx E p)
  | none => none
theorem sf_drop {e : Expr} {m : EM} {pos : Pos} (he : EF X e m) (hs : swapsWith e none pos.line X.env = pure false := by rfl) : SF X (.Expr e pos) (sDrop m) := by
  obtain ⟨t, p, s⟩ := he
  refine ⟨_, ps_expr p hs, fun C pp S H σ E pl D' out I e q => ?_⟩
  unfold sDrop at e
  cases h : m E pl with
  | none => rw [h] at e; cases e
  | some r =>
    obtain ⟨d, p⟩ := r
    rw [h] at e; cases e
    refine s pp _ H σ E pl d p _ I.erA h fun v S1 H1 J a1 r1 => ?_
    exact q pp _ H1 σ PpS.refl (I.back J a1).1
/-! returns -/
def sRetS (m : EM) : SM := fun E pl => match m E pl with
  | some (d, p) => bM (noL d) (some (.rt d E p)) none
  | none => none
def sRetF (F : List Nat) (m : EM) : SM := fun E pl => match m (vw F E) pl with
  | some (d, p) => some (.rt d (frz F E) p)
  | none => none
def sRetL (F : List Nat) (m : AM) : SM := fun E pl => match m (vw F E) pl with
  | some (xs, p) => some (.rtl xs (frz F E) p)
  | none => none
def sRetO (i : Nat) : SM := fun E pl => match E[i]? with
  | some (.own xs) => some (.rtl xs (E.set i .un) pl)
  | _ => none
def sRetN : SM := fun E pl => some (.rt .non E pl)
theorem sf_retS {e : Expr} {m : EM} {pos : Pos} (he : EF X e m) : SF X (.Return (some e) pos) (sRetS m) := by
  obtain ⟨t, p, s⟩ := he
  refine ⟨_, ps_ret p, fun C pp S H σ E pl D' out I e q => ?_⟩
  unfold sRetS at e
  cases h : m E pl with
  | none => rw [h] at e; cases e
  | some r =>
    obtain ⟨d, p⟩ := r
    rw [h] at e
    dsimp only at e
    cases hn : noL d with
    | false => rw [hn] at e; cases e
    | true =>
      rw [hn] at e; cases e
      refine s pp _ H σ E pl d p _ I.erA h fun v S1 H1 J a1 r1 => ?_
      obtain ⟨I1, low⟩ := I.back J a1
      exact q pp _ H1 σ v PpS.refl I1 (low d v hn r1)
theorem sf_retF {e : Expr} {m : EM} {pos : Pos} (F : List Nat) (he : EF X e m) : SF X (.Return (some e) pos) (sRetF F m) := by
  obtain ⟨t, p, s⟩ := he
  refine ⟨_, ps_ret p, fun C pp S H σ E pl D' out I e q => ?_⟩
  unfold sRetF at e
  cases h : m (vw F E) pl with
  | none => rw [h] at e; cases e
  | some r =>
    obtain ⟨d, p⟩ := r
    rw [h] at e; cases e
    refine s pp _ H σ _ pl d p _ (I.er F) h fun v S1 H1 J a1 r1 => ?_
    exact q pp _ H1 σ v PpS.refl (I.fin J a1) r1
theorem sf_retL {e : Expr} {m : AM} {pos : Pos} (F : List Nat) (he : LF X e m) : SF X (.Return (some e) pos) (sRetL F m) := by
  obtain ⟨t, p, s⟩ := he
  refine ⟨_, ps_ret p, fun C pp S H σ E pl D' out I e q => ?_⟩
  unfold sRetL at e
  cases h : m (vw F E) pl with
  | none => rw [h] at e; cases e
  | some r =>
    obtain ⟨d, p⟩ := r
    rw [h] at e; cases e
    refine s pp _ H σ _ pl d p _ (I.er F) h fun a vs S1 H1 J a1 hp sp hq r1 => ?_
    exact q pp _ H1 σ a vs PpS.refl (I.fin J a1) hq sp (h0_none I hp) (pp_none I hp) r1
theorem sf_retO {x : Str} {pos pos' : Pos} (i : Nat) (hN : X.N[i]? = some x := by rfl) (hv : Vis X.env.scope x := by first | exact Or.inl rfl | exact Or.inr (Or.inl rfl) | exact Or.inr (Or.inr rfl)) (hd : (x == ("__debug__" : Str)) = false := by decide)
    (hcd : (x == ("__classdict__" : Str)) = false := by decide) : SF X (.Return (some (.Name x pos')) pos) (sRetO i) := by
  refine ⟨_, ps_ret (pe_var hN hv hd hcd), fun C pp S H σ E pl D' out I e q => ?_⟩
  unfold sRetO at e
  split at e
  · rename_i xs h
    cases e
    obtain ⟨p, o, h1, h2, h3, h4, h5, h6⟩ := I.own h rfl
    obtain ⟨vs, rfl, r⟩ := h3
    exact ⟨_, h1, q pp _ H σ p vs PpS.refl (I.forget i) h2 h4 h5 h6 r⟩
  · cases e
theorem sf_retN {pos : Pos} : SF X (.Return none pos) sRetN := ⟨_, ps_retN, fun C pp S H σ E pl D' out I e q => by cases e; exact q pp S H σ _ PpS.refl I (rp_non.mpr rfl)⟩
/-! own lists are changed -/
def sAppS (i : Nat) (m : EM) : SM := fun E pl => match m E pl with
  | some (d, p) => match E[i]? with
    | some (.own xs) => bM (noL d && sized xs.length) (some (.nx (E.set i (.own (xs ++ [d]))) p)) none
    | _ => none
  | none => none
def sAppF (F : List Nat) (i : Nat) (m : EM) : SM := fun E pl => match m (vw F E) pl with
  | some (d, p) => match (frz F E)[i]? with
    | some (.own xs) => bM (sized xs.length) (some (.nx ((frz F E).set i (.own (xs ++ [d]))) p)) none
    | _ => none
  | none => none
/-- x.m(e) as a statement -/
def MtF (X : Cx) (st : Stmt) (r : V → List V → Hp → VK → Prop) (i : Nat) (m : EM) : Prop := ∃ te, PS X st (tDrop (tBM X.K "list" r (tVar i) (tCons te tNil))) ∧ ES X.K te m
theorem mt_of {st : Stmt} {e : Expr} {r : V → List V → Hp → VK → Prop} {i : Nat} {m : EM} (he : EF X e m) (mk : ∀ te, PE X e te → PS X st (tDrop (tBM X.K "list" r (tVar i) (tCons te tNil)))) : MtF X st r i m :=
  let ⟨t, p, s⟩ := he; ⟨t, mk t p, s⟩
/-- the list at an own slot -/
theorem SR.ownL (I : SR K C pp S H σ E pl) {i : Nat} {xs : List D} (h : E[i]? = some (.own xs)) : ∃ p vs, σ[i]? = some (some (.ref p)) ∧ H p = some (.lst vs) ∧ RpL K S xs vs := by
  obtain ⟨p, o, h1, h2, ⟨vs, rfl, r⟩, _⟩ := I.own h rfl
  exact ⟨p, vs, h1, h2, r⟩
theorem SS.appS {te : TE} {i : Nat} {m : EM} (s : ES K te m) : SS K (tDrop (tBM K "list" rAppend (tVar i) (tCons te tNil))) (sAppS i m) := fun C pp S H σ E pl D' out I e q => by
  unfold sAppS at e
  cases h : m E pl with
  | none => rw [h] at e; cases e
  | some r =>
    obtain ⟨d, p⟩ := r
    rw [h] at e
    dsimp only at e
    split at e
    · rename_i xs hx
      cases hn : (noL d && sized xs.length) with
      | false => rw [hn] at e; cases e
      | true =>
        rw [hn] at e; cases e
        rw [Bool.and_eq_true] at hn
        obtain ⟨a, vs, g1, g2, g3⟩ := I.ownL hx
        refine ⟨_, g1, .inl ⟨rfl, _, .inl (.inl g2)⟩, ?_⟩
        refine s pp _ H σ E pl d _ _ I.erA h fun v S1 H1 J a1 r1 => ?_
        obtain ⟨I1, low⟩ := I.back J a1
        obtain ⟨a', vs', k1, k2, k3⟩ := I1.ownL hx
        rw [g1] at k1; cases k1
        refine ⟨a, vs', v, rfl, rfl, k2, by rw [k3.len]; exact sized_lt hn.2, ?_⟩
        exact q pp _ _ σ PpS.refl (I1.upd hx rfl g1 (sl' := .own (xs ++ [d])) rfl ⟨_, rfl, k3.append (RpL.cons (low d v hn.1 r1) RpL.nil)⟩)
    · cases e
theorem SS.appF {te : TE} {i : Nat} {m : EM} (F : List Nat) (s : ES K te m) : SS K (tDrop (tBM K "list" rAppend (tVar i) (tCons te tNil))) (sAppF F i m) := fun C pp S H σ E pl D' out I e q => by
  unfold sAppF at e
  cases h : m (vw F E) pl with
  | none => rw [h] at e; cases e
  | some r =>
    obtain ⟨d, p⟩ := r
    rw [h] at e
    dsimp only at e
    split at e
    · rename_i xs hx
      cases hn : (sized xs.length) with
      | false => rw [hn] at e; cases e
      | true =>
        rw [hn] at e; cases e
        have hx0 : E[i]? = some (.own xs) := by
          rw [frz_get] at hx
          by_cases hi : i ∈ F
          · rw [if_pos hi] at hx
            cases z : E[i]? with
            | none => rw [z] at hx; cases hx
            | some s1 => rw [z] at hx; cases s1 <;> cases hx
          · rw [if_neg hi] at hx; exact hx
        obtain ⟨a, vs, g1, g2, g3⟩ := I.ownL hx0
        refine ⟨_, g1, .inl ⟨rfl, _, .inl (.inl g2)⟩, ?_⟩
        refine s pp _ H σ _ pl d _ _ (I.er F) h fun v S1 H1 J a1 r1 => ?_
        have I1 := I.fin J a1
        obtain ⟨a', vs', k1, k2, k3⟩ := I1.ownL hx
        rw [g1] at k1; cases k1
        refine ⟨a, vs', v, rfl, rfl, k2, by rw [k3.len]; exact sized_lt hn, ?_⟩
        exact q pp _ _ σ PpS.refl (I1.upd hx rfl g1 (sl' := .own (xs ++ [d])) rfl ⟨_, rfl, k3.append (RpL.cons r1 RpL.nil)⟩)
    · cases e
theorem sf_appS {st : Stmt} {i : Nat} {m : EM} (h : MtF X st rAppend i m) : SF X st (sAppS i m) := let ⟨_, p, s⟩ := h; ⟨_, p, SS.appS s⟩
theorem sf_appF {st : Stmt} {i : Nat} {m : EM} (F : List Nat) (h : MtF X st rAppend i m) : SF X st (sAppF F i m) := let ⟨_, p, s⟩ := h; ⟨_, p, SS.appF F s⟩
/-- x[k] = e, x own -/
def sSetS (i : Nat) (mi m : EM) : SM := fun E pl => match m E pl with
  | some (d, p) => match mi E p with
    | some (.int k, p2) => match E[i]? with
      | some (.own xs) => match ixN xs.length k with
        | some j => bM (noL d) (some (.nx (E.set i (.own (xs.set j d))) p2)) none
        | none => none
      | _ => none
    | _ => none
  | none => none
theorem SS.setS {te ti : TE} {i : Nat} {m mi : EM} (s : ES K te m) (si : ES K ti mi) : SS K (tAsg te (gSub (tVar i) ti rSetL)) (sSetS i mi m) := fun C pp S H σ E pl D' out I e q => by
  unfold sSetS at e
  cases h : m E pl with
  | none => rw [h] at e; cases e
  | some r =>
    obtain ⟨d, p⟩ := r
    rw [h] at e
    dsimp only at e
    split at e <;> try cases e
    rename_i k p2 hk
    split at e <;> try cases e
    rename_i xs hx
    split at e <;> try cases e
    rename_i j hj
    cases hn : noL d with
    | false => rw [hn] at e; cases e
    | true =>
      rw [hn] at e; cases e
      refine s pp _ H σ E pl d _ _ I.erA h fun v S1 H1 J a1 r1 => ?_
      obtain ⟨I1, low⟩ := I.back J a1
      have r1' := low d v hn r1
      obtain ⟨a, vs, g1, g2, g3⟩ := I1.ownL hx
      refine ⟨_, g1, ?_⟩
      refine si pp _ H1 σ E p _ _ _ I1.erA hk fun w S2 H2 J2 a2 r2 => ?_
      obtain ⟨I2, _⟩ := I1.back J2 a2
      rw [rp_int] at r2; subst r2
      obtain ⟨a', vs', k1, k2, k3⟩ := I2.ownL hx
      rw [g1] at k1; cases k1
      refine ⟨a, vs', k, j, rfl, rfl, k2, by rw [k3.len]; exact hj, ?_⟩
      have sm : Sb (Sminus S1 (allF E) E σ) (Sminus S2 (allF E) E σ) := fun b o e' => by
        have e2 := (I1.plus (F := allF E)).trans a2.s b o e'
        unfold Sminus
        split
        · rename_i z
          unfold Sminus at e'
          rw [if_pos z] at e'; cases e'
        · exact e2
      exact q pp _ _ σ PpS.refl (I2.upd hx rfl g1 (sl' := .own (xs.set j d)) rfl ⟨_, rfl, k3.set j (r1'.mono sm)⟩)
theorem sf_setS {st : Stmt} {e ei : Expr} {i : Nat} {m mi : EM} (he : EF X e m) (hi : EF X ei mi) (mk : ∀ te ti, PE X e te → PE X ei ti → PS X st (tAsg te (gSub (tVar i) ti rSetL))) : SF X st (sSetS i mi m) :=
  let ⟨_, p, s⟩ := he; let ⟨_, p', s'⟩ := hi; ⟨_, mk _ _ p p', SS.setS s s'⟩
end
end Dn
set_option Elab.async false
set_option linter.all false
set_option maxRecDepth 100000
set_option maxHeartbeats 2000000
namespace Dn
open PySem L2

/-! ### what a for walks -/
/-- J gives the data ds, one after another, whatever the heap, as long as S stays -/
structure JS (K : PySem.W.Frag) (S : Hp) (J : It) (ds : List D) : Prop where
  go : ∀ (i : Nat) (d : D) S' H, Sb S S' → Sb S' H → ds[i]? = some d → J.go i H ∧ ∀ x H', J.yld i H x H' → ∃ S'', Nw S' H S'' H' ∧ Rp K S'' d x
  stop : ∀ (i : Nat) S' H, Sb S S' → Sb S' H → ds.length ≤ i → J.stop i H
def IS (K : PySem.W.Frag) (w : TI) (m : AM) : Prop := ∀ pp S H σ E pl ds pl' (R : It → Hp → Prop), ER K pp S H σ E pl → m E pl = some (ds, pl') → (∀ J S' H', ER K pp S' H' σ E pl' → Ad pp S H S' H' → JS K S' J ds → R J H') → w σ H R
def IF (X : Cx) (tg e : Expr) (m : AM) : Prop := ∃ w, PI X tg e w ∧ IS X.K w m
theorem JS.mono {K : PySem.W.Frag} {S S1 : Hp} {J : It} {ds : List D} (e : Sb S S1) (h : JS K S J ds) : JS K S1 J ds :=
  ⟨fun i d S' H h1 h2 h3 => h.go i d S' H (e.trans h1) h2 h3, fun i S' H h1 h2 h3 => h.stop i S' H (e.trans h1) h2 h3⟩
/-- the items of a list or tuple -/
def itL : D → Option (List D)
  | .lst xs => some xs
  | .scr ns => some (ns.map D.int)
  | _ => none
def itT : D → Option (List D)
  | .tup xs => some xs
  | _ => none
def mIt (f : D → Option (List D)) (m : EM) : AM := seqM m fun x => lftM (f x)
section
variable {X : Cx} {K : PySem.W.Frag}
/-- a reading of SqL gives one list: all that is asked of JS of a list -/
theorem js_list {S : Hp} {a : Addr} {ds : List D} {vs : List V} (h : SqL K S a vs) (r : RpL K S ds vs) : JS K S (Itl K a) ds := by
  refine ⟨fun i d S' H h1 h2 h3 => ?_, fun i S' H h1 h2 h3 => ?_⟩
  · obtain ⟨v, g1, g2⟩ := r.get h3
    refine ⟨⟨vs, v, sb_l (h1.trans h2) h, g1⟩, fun x H' y => ?_⟩
    obtain ⟨rfl, y⟩ := y
    have := y vs (sb_l (h1.trans h2) h)
    rw [g1] at this; cases this
    exact ⟨S', Nw.refl h2, g2.mono h1⟩
  · exact ⟨vs, sb_l (h1.trans h2) h, by rw [r.len]; exact h3⟩
theorem js_tup {S : Hp} {a : Addr} {ds : List D} {vs : List V} (h : SqT K S a vs) (r : RpL K S ds vs) : JS K S (Itt K a) ds := by
  refine ⟨fun i d S' H h1 h2 h3 => ?_, fun i S' H h1 h2 h3 => ?_⟩
  · obtain ⟨v, g1, g2⟩ := r.get h3
    refine ⟨⟨vs, v, sb_t (h1.trans h2) h, g1⟩, fun x H' y => ?_⟩
    obtain ⟨rfl, y⟩ := y
    have := y vs (sb_t (h1.trans h2) h)
    rw [g1] at this; cases this
    exact ⟨S', Nw.refl h2, g2.mono h1⟩
  · exact ⟨vs, sb_t (h1.trans h2) h, by rw [r.len]; exact h3⟩
def rangeD (lo : Int) (n : Nat) : List D := (List.range n).map fun i => .int (lo + (i : Nat))
theorem js_range {S : Hp} {lo : Int} {n : Nat} : JS K S (Itr lo n) (rangeD lo n) := by
  refine ⟨fun i d S' H h1 h2 h3 => ?_, fun i S' H h1 h2 h3 => ?_⟩
  · unfold rangeD at h3
    rw [List.getElem?_map] at h3
    cases z : (List.range n)[i]? with
    | none => rw [z] at h3; cases h3
    | some k =>
      rw [z] at h3; cases h3
      obtain ⟨z1, z2⟩ := List.getElem?_eq_some_iff.mp z
      rw [List.length_range] at z1
      rw [List.getElem_range] at z2
      subst z2
      refine ⟨z1, fun x H' y => ?_⟩
      obtain ⟨rfl, rfl⟩ := y
      exact ⟨S', Nw.refl h2, rp_int.mpr rfl⟩
  · unfold rangeD at h3
    rw [List.length_map, List.length_range] at h3
    exact h3
theorem if_list {tg l : Expr} {m : EM} (h : EF X l m) : IF X tg l (mIt itL m) := by
  obtain ⟨t, p, s⟩ := h
  refine ⟨_, pi_list p, fun pp S H σ E pl ds pl' R I e q => ?_⟩
  obtain ⟨x, q1, e1, f1⟩ := seqM_some e
  obtain ⟨e2, rfl⟩ := lftM_some f1
  refine s pp S H σ E pl x _ _ I e1 fun v S1 H1 J a1 r1 => ?_
  unfold itL at e2
  split at e2 <;> cases e2
  · rw [rp_lst] at r1
    obtain ⟨a, vs, rfl, g1, g2⟩ := r1
    exact ⟨a, rfl, ⟨vs, .inl (.inl (J.sub _ _ g1))⟩, q _ S1 H1 J a1 (js_list (.inl (.inl g1)) g2)⟩
  · rw [rp_scr] at r1
    obtain ⟨a, rfl, g1⟩ := r1
    exact ⟨a, rfl, ⟨_, sb_l J.sub g1⟩, q _ S1 H1 J a1 (js_list g1 (RpL.ints _))⟩
theorem if_tup {tg l : Expr} {m : EM} (h : EF X l m) : IF X tg l (mIt itT m) := by
  obtain ⟨t, p, s⟩ := h
  refine ⟨_, pi_tup p, fun pp S H σ E pl ds pl' R I e q => ?_⟩
  obtain ⟨x, q1, e1, f1⟩ := seqM_some e
  obtain ⟨e2, rfl⟩ := lftM_some f1
  refine s pp S H σ E pl x _ _ I e1 fun v S1 H1 J a1 r1 => ?_
  unfold itT at e2
  split at e2 <;> cases e2
  rw [rp_tup] at r1
  obtain ⟨a, vs, rfl, g1, g2⟩ := r1
  exact ⟨a, rfl, ⟨vs, sb_t J.sub g1⟩, q _ S1 H1 J a1 (js_tup g1 g2)⟩
theorem if_or {tg e : Expr} {m1 m2 : AM} (h1 : IF X tg e m1) (h2 : IF X tg e m2) : IF X tg e (fun E pl => (m1 E pl).or (m2 E pl)) := by
  obtain ⟨t1, p1, s1⟩ := h1
  obtain ⟨t2, p2, s2⟩ := h2
  refine ⟨fun σ H Q => t1 σ H Q ∨ t2 σ H Q, ⟨fun pins s σ H R I h => h.elim (p1.run pins s σ H R I) (p2.run pins s σ H R I)⟩, fun pp S H σ E pl d pl' Q I e q => ?_⟩
  dsimp only at e
  cases z : m1 E pl with
  | some r => rw [z] at e; exact .inl (s1 pp S H σ E pl d pl' Q I (z.trans e) q)
  | none => rw [z] at e; exact .inr (s2 pp S H σ E pl d pl' Q I e q)
theorem IF.imp {tg e : Expr} {m1 m2 : AM} (h1 : IF X tg e m1) (h : ∀ E pl r, m2 E pl = some r → m1 E pl = some r) : IF X tg e m2 := by
  obtain ⟨t1, p1, s1⟩ := h1
  exact ⟨t1, p1, fun pp S H σ E pl d pl' Q I e q => s1 pp S H σ E pl d pl' Q I (h E pl _ e) q⟩
def itD : D → Option (List D)
  | .lst xs => some xs
  | .tup xs => some xs
  | .scr ns => some (ns.map D.int)
  | _ => none
theorem if_seq {tg l : Expr} {m : EM} (h : EF X l m) : IF X tg l (mIt itD m) := (if_or (if_list h) (if_tup h)).imp fun E pl r e => by
  unfold mIt seqM at e ⊢
  cases z : m E pl with
  | none => rw [z] at e; cases e
  | some x =>
    obtain ⟨d, p⟩ := x
    rw [z] at e
    dsimp only [lftM] at e ⊢
    unfold itD at e
    cases d <;> first | exact e | cases e
def rng1 : List D → Option (List D)
  | [.int n] => if decide (n.natAbs < 2 ^ 60) then some (rangeD 0 n.toNat) else none
  | _ => none
def rng2 : List D → Option (List D)
  | [.int a, .int b] => if decide (a.natAbs < 2 ^ 60) && decide (b.natAbs < 2 ^ 60) then some (rangeD a (b - a).toNat) else none
  | _ => none
def mRng (f : List D → Option (List D)) (m : AM) : AM := seqM m fun xs => lftM (f xs)
theorem if_rng1 {tg a : Expr} {m : AM} {p pos : Pos} (hg : Gl X "range") (hm : X.mg "range" = none) (ha : AF X [a] m) (hs : nst a = true := by rfl) : IF X tg (.Call (.Name "range" p) [a] [] pos) (mRng rng1 m) := by
  obtain ⟨t, pa, s⟩ := ha
  refine ⟨_, pi_range1 hg hm pa (star_nst hs), fun pp S H σ E pl ds pl' R I e q => ?_⟩
  obtain ⟨x, q1, e1, f1⟩ := seqM_some e
  obtain ⟨e2, rfl⟩ := lftM_some f1
  refine s pp S H σ E pl x _ _ I e1 fun vs S1 H1 J a1 r1 => ?_
  unfold rng1 at e2
  split at e2 <;> try cases e2
  split at e2 <;> cases e2
  rename_i n hn
  obtain ⟨v, rfl, g⟩ := rpl_one r1
  rw [rp_int] at g; subst g
  have hn := of_decide_eq_true hn
  exact ⟨n, rfl, by omega, by omega, q _ S1 H1 J a1 js_range⟩
theorem if_rng2 {tg a b : Expr} {m : AM} {p pos : Pos} (hg : Gl X "range") (hm : X.mg "range" = none) (ha : AF X [a, b] m) (hs : nst a = true := by rfl) (hs2 : nst b = true := by rfl) : IF X tg (.Call (.Name "range" p) [a, b] [] pos) (mRng rng2 m) := by
  obtain ⟨t, pa, s⟩ := ha
  refine ⟨_, pi_range2 hg hm pa (by rw [star_nst hs, star_nst hs2]; rfl) (star_nst hs2), fun pp S H σ E pl ds pl' R I e q => ?_⟩
  obtain ⟨x, q1, e1, f1⟩ := seqM_some e
  obtain ⟨e2, rfl⟩ := lftM_some f1
  refine s pp S H σ E pl x _ _ I e1 fun vs S1 H1 J a1 r1 => ?_
  unfold rng2 at e2
  split at e2 <;> try cases e2
  split at e2 <;> cases e2
  rename_i a b hn
  simp only [Bool.and_eq_true, decide_eq_true_eq] at hn
  obtain ⟨v, u, rfl, g1, g2⟩ := rpl_two r1
  rw [rp_int] at g1 g2; subst g1 g2
  exact ⟨a, b, rfl, ⟨by omega, by omega, by omega, by omega⟩, q _ S1 H1 J a1 js_range⟩
end
end Dn
set_option Elab.async false
set_option linter.all false
set_option maxRecDepth 100000
set_option maxHeartbeats 2000000
namespace Dn
open PySem PySem.Spec PyProof.Rows L2

/-! ### loops -/
def forL (g : TM) (b : SM) : List D → SM
  | [] => fun E pl => some (.nx E pl)
  | d :: ds => fun E pl => match g d E with
    | none => none
    | some E1 => match b E1 pl with
      | some (.nx E2 p2) => forL g b ds E2 p2
      | some (.ct E2 p2) => forL g b ds E2 p2
      | some (.bk E2 p2) => some (.nx E2 p2)
      | some (.rt d E2 p2) => some (.rt d E2 p2)
      | some (.rtl xs E2 p2) => some (.rtl xs E2 p2)
      | none => none
def sFor (F : List Nat) (g : TM) (m : AM) (b : SM) : SM := fun E pl => match m (vw F E) pl with
  | some (ds, p) => forL g b ds (frz F E) p
  | none => none
def whL (c : BM) (b : SM) : Nat → SM
  | 0 => fun _ _ => none
  | n + 1 => fun E pl => match c E pl with
    | none => none
    | some (false, p) => some (.nx E p)
    | some (true, p) => match b E p with
      | some (.nx E2 p2) => whL c b n E2 p2
      | some (.ct E2 p2) => whL c b n E2 p2
      | some (.bk E2 p2) => some (.nx E2 p2)
      | some (.rt d E2 p2) => some (.rt d E2 p2)
      | some (.rtl xs E2 p2) => some (.rtl xs E2 p2)
      | none => none
section
variable {K : PySem.W.Frag} {X : Cx}
theorem SR.nw {C : Cz} {pp : PP} {S H S' H' : Hp} {σ : L2.St} {E : Env} {pl : Option Pl} (I : SR K C pp S H σ E pl) (a : Nw S H S' H') : SR K C pp S' H' σ E pl := by
  refine ⟨a.sub, I.len, fun i sl e => ?_, fun p sc e => ?_, I.new', fun P e => ?_, I.s0.trans a.s, fun b o e n => a.h b o (I.keep b o e n), fun b o e => ?_, fun b o e => ?_, I.dist, I.ppk, I.npp⟩
  · unfold SlS
    cases ho : isOwn sl with
    | false => rw [if_neg (by decide)]; exact (I.slr e ho).mono a.s
    | true =>
      rw [if_pos rfl]
      obtain ⟨p, o, h1, h2, h3, h4, h5, h6⟩ := I.own e ho
      refine ⟨p, o, h1, a.h p o h2, h3.mono a.s, ?_, h5, h6⟩
      cases q : S' p with
      | none => rfl
      | some u =>
        rcases a.n p u q with z | z
        · rw [z] at h4; cases h4
        · rw [z] at h2; cases h2
  · obtain ⟨⟨o, h⟩, g, g'⟩ := I.pin p sc e
    refine ⟨⟨o, a.h p o h⟩, ?_, sb_l a.s g'⟩
    cases q : S' p with
    | none => rfl
    | some u =>
      rcases a.n p u q with z | z
      · rw [z] at g; cases g
      · rw [z] at h; cases h
  · obtain ⟨p, sc, e1, h1, h2⟩ := I.pool P e
    exact ⟨p, sc, e1, a.h _ _ h1, h2⟩
  · obtain ⟨o', e'⟩ := I.kept b o e; exact ⟨o', a.h _ _ e'⟩
  · rcases a.n b o e with z | z
    · exact I.new b o z
    · right
      cases q : C.H0 b with
      | none => rfl
      | some u => obtain ⟨o', e'⟩ := I.kept b u q; rw [z] at e'; cases e'
theorem SR.up {C : Cz} {pp : PP} {S1 S H : Hp} {σ : L2.St} {E : Env} {pl : Option Pl} (I : SR K C pp S H σ E pl) (m : Sb S1 S) (m0 : Sb C.S0 S1) : SR K ⟨S1, C.H0, C.pp0⟩ pp S H σ E pl :=
  ⟨I.sub, I.len, I.env, I.pin, I.new', I.pool, m, I.keep, I.kept, fun a o e => (I.new a o e).imp (m0 a o) id, I.dist, I.ppk, I.npp⟩
theorem SR.down {C : Cz} {pp : PP} {S1 S H : Hp} {σ : L2.St} {E : Env} {pl : Option Pl} (I : SR K ⟨S1, C.H0, C.pp0⟩ pp S H σ E pl) (m0 : Sb C.S0 S1) (n : ∀ a o, S1 a = some o → C.S0 a = some o ∨ C.H0 a = none) : SR K C pp S H σ E pl :=
  ⟨I.sub, I.len, I.env, I.pin, I.new', I.pool, m0.trans I.s0, I.keep, I.kept, fun a o e => (I.new a o e).elim (n a o) .inr, I.dist, I.ppk, I.npp⟩
theorem PO'.down {C : Cz} {pp : PP} {S1 : Hp} {D' : Ends} {o : Out} (g : PO' K C pp D' o) (m0 : Sb C.S0 S1) (n : ∀ a o, S1 a = some o → C.S0 a = some o ∨ C.H0 a = none) : PO' K ⟨S1, C.H0, C.pp0⟩ pp D' o := by
  cases o <;> simp only [PO'] at g ⊢
  · exact fun a S H σ e I => g a S H σ e (I.down m0 n)
  · exact fun a S H σ v e I => g a S H σ v e (I.down m0 n)
  · exact fun a S H σ p vs e I => g a S H σ p vs e (I.down m0 n)
  · exact fun a S H σ e I => g a S H σ e (I.down m0 n)
  · exact fun a S H σ e I => g a S H σ e (I.down m0 n)
theorem SS.for_ {w : TI} {g : TG} {tb : TS} {m : AM} {f : TM} {b : SM} (F : List Nat) (si : IS K w m) (sg : GS K g f) (sb : SS K tb b) : SS K (tFor w g tb) (sFor F f m b) := fun C pp S H σ E pl D' out I e q => by
  unfold sFor at e
  cases h : m (vw F E) pl with
  | none => rw [h] at e; cases e
  | some r =>
    obtain ⟨ds, p⟩ := r
    rw [h] at e
    dsimp only at e
    refine si pp _ H σ _ pl ds p _ (I.er F) h fun J S1 H1 I1 a1 j1 => ?_
    have I2 := I.fin I1 a1
    have m0 : Sb C.S0 S1 := I2.s0
    have q' : PO' K ⟨S1, C.H0, C.pp0⟩ pp D' out := q.down m0 I2.new
    refine ⟨fun i n σ' H' => ∃ pp' S' E' pl', n = ds.length - i ∧ i ≤ ds.length ∧ PpS pp pp' ∧ SR K ⟨S1, C.H0, C.pp0⟩ pp' S' H' σ' E' pl' ∧ forL f b (ds.drop i) E' pl' = some out, ⟨ds.length, pp, S1, _, p, by simp, Nat.zero_le _, PpS.refl, I2.up (Sb.refl _) m0, by simpa using e⟩, ?_⟩
    rintro i n σ' H' ⟨pp', S', E', pl', rfl, hi, hp, I3, e3⟩
    by_cases hlt : i < ds.length
    · have hd : ds.drop i = ds[i] :: ds.drop (i + 1) := List.drop_eq_getElem_cons hlt
      rw [hd] at e3
      unfold forL at e3
      obtain ⟨go, yld⟩ := j1.go i ds[i] S' H' I3.s0 I3.sub (List.getElem?_eq_getElem hlt)
      cases hg : f ds[i] E' with
      | none => rw [hg] at e3; cases e3
      | some E1 =>
        rw [hg] at e3
        dsimp only at e3
        -- what the next turn is to find
        refine .inr ⟨go, fun σ2 H2 => ∃ pp2 S2 E2 pl2, PpS pp pp2 ∧ SR K ⟨S1, C.H0, C.pp0⟩ pp2 S2 H2 σ2 E2 pl2 ∧ forL f b (ds.drop (i + 1)) E2 pl2 = some out, fun σ2 H2 ⟨pp2, S2, E2, pl2, k1, k2, k3⟩ => ⟨ds.length - (i + 1), by omega, pp2, S2, E2, pl2, rfl, hlt, k1, k2, k3⟩, fun x H2 y => ?_⟩
        obtain ⟨S2, nw, rx⟩ := yld x H2 y
        refine sg _ pp' S2 H2 σ' E' pl' ds[i] x E1 _ (I3.nw nw) rx hg fun σ3 I4 => ?_
        cases hb : b E1 pl' with
        | none => rw [hb] at e3; cases e3
        | some o =>
          rw [hb] at e3
          refine sb _ pp' S2 H2 σ3 E1 pl' _ o I4 hb ?_
          cases o with
          | nx E2 p2 => exact fun pp4 S4 H4 σ4 k I5 => ⟨pp4, S4, E2, p2, hp.trans k, I5, e3⟩
          | ct E2 p2 => exact fun pp4 S4 H4 σ4 k I5 => ⟨pp4, S4, E2, p2, hp.trans k, I5, e3⟩
          | bk E2 p2 => cases e3; exact fun pp4 S4 H4 σ4 k I5 => q' pp4 S4 H4 σ4 (hp.trans k) I5
          | rt d E2 p2 => cases e3; exact fun pp4 S4 H4 σ4 v k I5 r5 => q' pp4 S4 H4 σ4 v (hp.trans k) I5 r5
          | rtl d E2 p2 => cases e3; exact fun pp4 S4 H4 σ4 a vs k I5 => q' pp4 S4 H4 σ4 a vs (hp.trans k) I5
    · have ei : i = ds.length := by omega
      subst ei
      rw [List.drop_length] at e3
      unfold forL at e3
      cases e3
      exact .inl ⟨j1.stop _ S' H' I3.s0 I3.sub (Nat.le_refl _), q' pp' S' H' σ' hp I3⟩
theorem SS.while_ {tc : TT} {tb : TS} {c : BM} {b : SM} (n : Nat) (sc : BS K tc c) (sb : SS K tb b) : SS K (tWhile tc tb) (whL c b n) := fun C pp S H σ E pl D' out I e q => by
  refine ⟨fun n σ' H' => ∃ pp' S' E' pl', PpS pp pp' ∧ SR K C pp' S' H' σ' E' pl' ∧ whL c b n E' pl' = some out, ⟨n, pp, S, E, pl, PpS.refl, I, e⟩, ?_⟩
  rintro n σ' H' ⟨pp', S', E', pl', hp, I3, e3⟩
  cases n with
  | zero => unfold whL at e3; cases e3
  | succ n =>
    unfold whL at e3
    cases h : c E' pl' with
    | none => rw [h] at e3; cases e3
    | some r =>
      obtain ⟨t, p⟩ := r
      rw [h] at e3
      refine sc pp' _ H' σ' E' pl' t p _ I3.erA h fun S1 H1 J a1 => ?_
      obtain ⟨I4, _⟩ := I3.back J a1
      cases t with
      | false =>
        cases e3
        exact q pp' _ H1 σ' hp I4
      | true =>
        dsimp only at e3
        refine ⟨fun σ2 H2 => ∃ pp2 S2 E2 pl2, PpS pp pp2 ∧ SR K C pp2 S2 H2 σ2 E2 pl2 ∧ whL c b n E2 pl2 = some out, fun σ2 H2 k => ⟨n, Nat.lt_succ_self n, k⟩, ?_⟩
        cases hb : b E' p with
        | none => rw [hb] at e3; cases e3
        | some o =>
          rw [hb] at e3
          refine sb _ pp' _ H1 σ' E' p _ o I4 hb ?_
          cases o with
          | nx E2 p2 => exact fun pp4 S4 H4 σ4 k I5 => ⟨pp4, S4, E2, p2, hp.trans k, I5, e3⟩
          | ct E2 p2 => exact fun pp4 S4 H4 σ4 k I5 => ⟨pp4, S4, E2, p2, hp.trans k, I5, e3⟩
          | bk E2 p2 => cases e3; exact fun pp4 S4 H4 σ4 k I5 => q pp4 S4 H4 σ4 (hp.trans k) I5
          | rt d E2 p2 => cases e3; exact fun pp4 S4 H4 σ4 v k I5 r5 => q pp4 S4 H4 σ4 v (hp.trans k) I5 r5
          | rtl d E2 p2 => cases e3; exact fun pp4 S4 H4 σ4 a vs k I5 => q pp4 S4 H4 σ4 a vs (hp.trans k) I5
theorem sf_for {tg it : Expr} {body : List Stmt} {f : TM} {m : AM} {b : SM} {pos : Pos} (F : List Nat) (hp : PassesOwn (model X.prog X.w) X.A X.env X.xe) (hc : X.calm = true) (hi : IF X tg it m) (hg : GF X tg f) (hb : BkF X body b)
    (hs : ∀ x, foldedSetIterable it X.env x = pure x := by intro _; rfl) : SF X (.For tg it body [] pos) (sFor F f m b) :=
  let ⟨_, p1, s1⟩ := hi; let ⟨_, p2, s2⟩ := hg; let ⟨_, p3, s3⟩ := hb; ⟨_, ps_for hp hc p1 p2 p3 hs, SS.for_ F s1 s2 s3⟩
theorem sf_while {c : Expr} {body : List Stmt} {mc : BM} {b : SM} {pos : Pos} (n : Nat) (hp : PassesOwn (model X.prog X.w) X.A X.env X.xe) (hc : BF X c mc) (hb : BkF X body b) : SF X (.While c body [] pos) (whL mc b n) :=
  let ⟨_, p1, s1⟩ := hc; let ⟨_, p3, s3⟩ := hb; ⟨_, ps_while hp p1 p3, SS.while_ n s1 s3⟩
end

/-! ### defs -/
/-- f(..) gives m of the data; nothing that stood is changed -/
def spF (K : PySem.W.Frag) (n : Nat) (m : List D → Option D) : Sp := fun vs H Q _ => ∃ S ds d, Sb S H ∧ RpL K S ds vs ∧ ds.length = n ∧ m ds = some d ∧ ∀ v S' H', Nw S H S' H' → Rp K S' d v → Q v H'
/-- .. a new list -/
def spL (K : PySem.W.Frag) (n : Nat) (m : List D → Option (List D)) : Sp := fun vs H Q _ => ∃ S ds d, Sb S H ∧ RpL K S ds vs ∧ ds.length = n ∧ m ds = some d ∧ ∀ p us S' H', Nw S H S' H' → H p = none → S' p = none → H' p = some (.lst us) → RpL K S' d us → Q (.ref p) H'
/-- f(pool, ..) -/
def spP (K : PySem.W.Frag) (n : Nat) (m : Pl → List D → Option (D × Pl)) : Sp := fun vs H Q _ => ∃ S ds d p sc us P P', vs = .ref p :: us ∧ Sb S H ∧ H p = some (.lst [.ref sc, .int P.i, .int P.n, .int P.k]) ∧ S p = none ∧ SqL K S sc (P.scr.map V.int) ∧ RpL K S ds us ∧ ds.length + 1 = n ∧ m P ds = some (d, P') ∧
  ∀ v S' H', Sb S' H' → Ad (some (p, sc, P.scr)) S H S' H' → S' p = none → H' p = some (.lst [.ref sc, .int P'.i, .int P'.n, .int P'.k]) → P'.scr = P.scr → Rp K S' d v → Q v H'
def spPL (K : PySem.W.Frag) (n : Nat) (m : Pl → List D → Option (List D × Pl)) : Sp := fun vs H Q _ => ∃ S ds d p sc us P P', vs = .ref p :: us ∧ Sb S H ∧ H p = some (.lst [.ref sc, .int P.i, .int P.n, .int P.k]) ∧ S p = none ∧ SqL K S sc (P.scr.map V.int) ∧ RpL K S ds us ∧ ds.length + 1 = n ∧ m P ds = some (d, P') ∧
  ∀ a ws S' H', Sb S' H' → Ad (some (p, sc, P.scr)) S H S' H' → S' p = none → H' p = some (.lst [.ref sc, .int P'.i, .int P'.n, .int P'.k]) → P'.scr = P.scr → H a = none → S' a = none → H' a = some (.lst ws) → RpL K S' d ws → Q (.ref a) H'
def env0 (n : Nat) (ds : List D) : Env := ds.map Sl.val ++ List.replicate (n - ds.length) Sl.un
def runF (n : Nat) (m : SM) (ds : List D) : Option D := match m (env0 n ds) none with
  | some (.rt d _ _) => some d
  | some (.rtl xs _ _) => some (.lst xs)
  | some (.nx _ _) => some .non
  | _ => none
def runL (n : Nat) (m : SM) (ds : List D) : Option (List D) := match m (env0 n ds) none with
  | some (.rtl xs _ _) => some xs
  | _ => none
def runP (n : Nat) (m : SM) (P : Pl) (ds : List D) : Option (D × Pl) := match m (Sl.pool :: env0 (n - 1) ds) (some P) with
  | some (.rt d _ (some P')) => some (d, P')
  | some (.rtl xs _ (some P')) => some (.lst xs, P')
  | some (.nx _ (some P')) => some (.non, P')
  | _ => none
def runPL (n : Nat) (m : SM) (P : Pl) (ds : List D) : Option (List D × Pl) := match m (Sl.pool :: env0 (n - 1) ds) (some P) with
  | some (.rtl xs _ (some P')) => some (xs, P')
  | _ => none
section
variable {K : PySem.W.Frag}
theorem env0_rel {S : Hp} {ds : List D} {vs : List V} {pp : PP} {H : Hp} {H0 : Hp} (N : List Str) (r : RpL K S ds vs) : ∀ (i : Nat) (sl : Sl), (env0 N.length ds)[i]? = some sl → SlS K H0 pp S H sl (L2.start N vs)[i]? := fun i sl e => by
  unfold env0 at e
  unfold L2.start
  have hl := r.len
  by_cases hi : i < ds.length
  · rw [List.getElem?_append_left (by rw [List.length_map]; exact hi), List.getElem?_map] at e
    rw [List.getElem?_append_left (by rw [List.length_map, hl]; exact hi), List.getElem?_map]
    cases h : ds[i]? with
    | none => rw [h] at e; cases e
    | some d =>
      rw [h] at e; cases e
      obtain ⟨v, g1, g2⟩ := r.get h
      rw [g1]
      unfold SlS
      rw [if_neg (by intro z; cases z)]
      exact ⟨v, rfl, g2⟩
  · rw [List.getElem?_append_right (by rw [List.length_map]; omega)] at e
    have := List.mem_of_getElem? e
    rw [List.mem_replicate] at this
    rw [this.2]
    exact SlS.un
theorem env0_own {ds : List D} {n i : Nat} {sl : Sl} (e : (env0 n ds)[i]? = some sl) : isOwn sl = false := by
  unfold env0 at e
  have h := List.mem_of_getElem? e
  rcases List.mem_append.mp h with h | h
  · obtain ⟨d, _, rfl⟩ := List.mem_map.mp h; rfl
  · rw [(List.mem_replicate.mp h).2]; rfl
theorem start_len {ds : List D} {N : List Str} {vs : List V} (h : vs.length = ds.length) (hn : ds.length ≤ N.length) : (env0 N.length ds).length = (L2.start N vs).length := by
  unfold env0 L2.start
  rw [List.length_append, List.length_append, List.length_map, List.length_map, List.length_replicate, List.length_replicate, h]
theorem SR.start {S H : Hp} {ds : List D} {vs : List V} (N : List Str) (hs : Sb S H) (r : RpL K S ds vs) (hn : ds.length ≤ N.length) : SR K ⟨S, H, none⟩ none S H (L2.start N vs) (env0 N.length ds) none := by
  refine ⟨hs, start_len r.len hn, env0_rel N r, fun p sc z => ?_, fun p sc z => ?_, fun P z => ?_, Sb.refl _, fun _ _ h _ => h, fun _ o h => ⟨o, h⟩, fun _ _ h => .inl h, fun i j a b p _ ha _ oa _ _ _ => ?_, .inl rfl, fun _ => rfl⟩
  · cases z
  · cases z
  · cases z
  · rw [env0_own ha] at oa; cases oa
theorem SR.nwF {S H S' H' : Hp} {σ : L2.St} {E : Env} {pl : Option Pl} {pp : PP} (I : SR K ⟨S, H, none⟩ pp S' H' σ E pl) : Nw S H S' H' :=
  ⟨I.sub, I.s0, fun a o e => I.keep a o e (by intro _ z; cases z), I.new⟩
variable {P : Program} {w : World} {mg : Str → Option Value} {base : Heap}
theorem take_len {N ps : List Str} (h : N.take ps.length = ps) : ps.length ≤ N.length := by
  have := congrArg List.length h
  rw [List.length_take] at this
  omega
abbrev Body (P : Program) (w : World) (K : PySem.W.Frag) (mg : Str → Option Value) (base : Heap) (N : List Str) (qual : Str) (st : Stmt) (f : Addr) (k : Nat) (m : SM) : Prop :=
  ∀ (cdv : Value) (A : Around) (outer : List PySem.Env) (s : Shared) (H : Hp) (E : XK), Room k (A.deeper (envOfC qual (defScope st) s.heap.objs.size f cdv)) → BkF (cxOf CX0 P w K mg base N qual (defScope st) f cdv A outer s H E).nox (defBody st) m
theorem fn_F {x qual : Str} {st : Stmt} {f : Addr} {fd : FuncData} {N ps : List Str} {k : Nat} {m : SM} (F : Fun K x qual st f fd) (Sc : FnScope N ps (defScope st)) (hb : Body P w K mg base N qual st f k m) : FnOk P w K mg base CX0 (k + 1) f fd ps (spF K ps.length (runF N.length m)) := by
  refine F.ok Sc (fun vs H Q E h => ?_) (fun cdv A outer s H vs Q E hr h => ?_)
  · obtain ⟨S, ds, d, _, r, hl, _⟩ := h
    rw [r.len, hl]
  · obtain ⟨S, ds, d, hs, r, hl, hm, q⟩ := h
    obtain ⟨t, p, s'⟩ := hb cdv A outer s H E hr
    refine ⟨t, p, ?_⟩
    have I := SR.start N hs r (by rw [hl]; exact take_len Sc.pre)
    unfold runF at hm
    cases e : m (env0 N.length ds) none with
    | none => rw [e] at hm; cases hm
    | some o =>
      rw [e] at hm
      refine s' _ _ S H _ _ none _ o I e ?_
      cases o with
      | rt d' E' pl' => cases hm; exact fun pp' S' H' σ' v _ I' r' => q v S' H' I'.nwF r'
      | rtl xs E' pl' =>
        cases hm
        intro pp' S' H' σ' a vs' _ I' h1 h2 h3 h4 r'
        exact q _ _ H' (I'.nwF.freeze h3 h1 h2) (rp_lst.mpr ⟨a, vs', rfl, upd_same, r'.mono (sb_upd h2)⟩)
      | nx E' pl' => cases hm; exact fun pp' S' H' σ' _ I' => q _ S' H' I'.nwF (rp_non.mpr rfl)
      | bk E' pl' => cases hm
      | ct E' pl' => cases hm
theorem fn_L {x qual : Str} {st : Stmt} {f : Addr} {fd : FuncData} {N ps : List Str} {k : Nat} {m : SM} (F : Fun K x qual st f fd) (Sc : FnScope N ps (defScope st)) (hb : Body P w K mg base N qual st f k m) : FnOk P w K mg base CX0 (k + 1) f fd ps (spL K ps.length (runL N.length m)) := by
  refine F.ok Sc (fun vs H Q E h => ?_) (fun cdv A outer s H vs Q E hr h => ?_)
  · obtain ⟨S, ds, d, _, r, hl, _⟩ := h
    rw [r.len, hl]
  · obtain ⟨S, ds, d, hs, r, hl, hm, q⟩ := h
    obtain ⟨t, p, s'⟩ := hb cdv A outer s H E hr
    refine ⟨t, p, ?_⟩
    have I := SR.start N hs r (by rw [hl]; exact take_len Sc.pre)
    unfold runL at hm
    cases e : m (env0 N.length ds) none with
    | none => rw [e] at hm; cases hm
    | some o =>
      rw [e] at hm
      refine s' _ _ S H _ _ none _ o I e ?_
      cases o with
      | rtl xs E' pl' =>
        cases hm
        intro pp' S' H' σ' a vs' _ I' h1 h2 h3 h4 r'
        exact q a vs' S' H' I'.nwF h3 h2 h1 r'
      | rt d' E' pl' => cases hm
      | nx E' pl' => cases hm
      | bk E' pl' => cases hm
      | ct E' pl' => cases hm
/-! calls of such defs -/
def mCallL (g : List D → Option (List D)) (m : AM) : AM := seqM m fun xs => lftM (g xs)
end
/-- how many -/
def ALen (m : AM) (n : Nat) : Prop := ∀ E pl ds p, m E pl = some (ds, p) → ds.length = n
theorem al_nil : ALen aNil 0 := fun E pl ds p e => by obtain ⟨rfl, _⟩ := oks_some e; rfl
theorem al_cons {ma : EM} {mr : AM} {n : Nat} (h : ALen mr n) : ALen (aCons ma mr) (n + 1) := fun E pl ds p e => by
  obtain ⟨x, p1, e1, f1⟩ := seqM_some e
  obtain ⟨xs, p2, e2, f2⟩ := seqM_some f1
  obtain ⟨rfl, _⟩ := oks_some f2
  rw [List.length_cons, h _ _ _ _ e2]
end Dn
set_option Elab.async false
set_option linter.all false
set_option maxRecDepth 100000
set_option maxHeartbeats 2000000
namespace Dn
open PySem PySem.Spec PyProof.Rows L2

/-! ### the pool -/
section
variable {K : PySem.W.Frag} {X : Cx} {C : Cz} {pp : PP} {S H S' H' : Hp} {σ : L2.St} {E : Env} {pl pl' : Option Pl}
def plIx (P : Pl) : Int → Option D
  | 0 => some (.scr P.scr)
  | 1 => some (.int P.i)
  | 2 => some (.int P.n)
  | 3 => some (.int P.k)
  | _ => none
def mPix (i : Nat) (j : Int) : EM := fun E pl => match E[i]?, pl with
  | some .pool, some P => (plIx P j).map fun d => (d, some P)
  | _, _ => none
theorem at4 {α : Type} (a b c d : α) : atI [a, b, c, d] 0 = some a ∧ atI [a, b, c, d] 1 = some b ∧ atI [a, b, c, d] 2 = some c ∧ atI [a, b, c, d] 3 = some d := ⟨rfl, rfl, rfl, rfl⟩
theorem ef_pix {x : Str} {p1 p2 p3 : Pos} {kk : Nat} (i : Nat) (j : Int) (hN : X.N[i]? = some x := by rfl) (hv : Vis X.env.scope x := by first | exact Or.inl rfl | exact Or.inr (Or.inl rfl) | exact Or.inr (Or.inr rfl)) (hd : (x == ("__debug__" : Str)) = false := by decide)
    (hcd : (x == ("__classdict__" : Str)) = false := by decide) : EF X (.Subscript (.Name x p1) (.Constant (.int j) kk p2) p3) (mPix i j) := by
  refine ⟨_, pe_ix ix_list (pe_var hN hv hd hcd) pe_int (fun _ _ => rfl), fun pp S H σ E pl d pl' Q I e q => ?_⟩
  unfold mPix at e
  split at e
  · rename_i P hE
    cases hP : plIx P j with
    | none => rw [hP] at e; cases e
    | some d' =>
      rw [hP] at e; cases e
      obtain ⟨p, sc, e1, e2, e3⟩ := I.pool P rfl
      obtain ⟨p', sc', e4, e5⟩ := I.env i _ hE
      rw [e1] at e4; cases e4
      obtain ⟨z0, z1, z2, z3⟩ := at4 (V.ref sc.1) (.int P.i) (.int P.n) (.int P.k)
      have key : ∀ v, atI [V.ref sc.1, .int P.i, .int P.n, .int P.k] j = some v → Rp X.K S d v → tOp (rIxL X.K) (tVar i) (tC (.int j)) σ H Q := fun v h1 h2 =>
        ⟨_, e5, p, _, j, v, rfl, rfl, .inl (.inl e2), h1, q v S H I Ad.refl h2⟩
      unfold plIx at hP
      split at hP <;> cases hP
      · exact key _ z0 (rp_scr.mpr ⟨_, rfl, by rw [e3]; exact (I.pin p sc e1).2.2⟩)
      · exact key _ z1 (rp_int.mpr rfl)
      · exact key _ z2 (rp_int.mpr rfl)
      · exact key _ z3 (rp_int.mpr rfl)
  · cases e
def plSet (P : Pl) (j z : Int) : Option Pl := match j with
  | 1 => some { P with i := z }
  | 2 => some { P with n := z }
  | 3 => some { P with k := z }
  | _ => none
theorem SR.poolUpd (I : SR K C pp S H σ E pl) {p : Addr} {sc : Addr × List Int} (e : pp = some (p, sc)) {P : Pl} {vs : List V} (hv : vs = [.ref sc.1, .int P.i, .int P.n, .int P.k]) (hs : P.scr = sc.2) : SR K C pp S (L2.upd H p (.lst vs)) σ E (some P) := by
  have h2 := (I.pin p sc e).2.1
  refine ⟨fun a u e' => ?_, I.len, fun i sl e' => ?_, fun q sc' eq => ?_, I.new', fun P' eP => ?_, I.s0, fun a u e' n => ?_, fun a u e' => ?_, I.new, I.dist, I.ppk, fun z => by cases z⟩
  · have ne : a ≠ p := fun z => by rw [z, h2] at e'; cases e'
    rw [upd_ne ne]; exact I.sub a u e'
  · unfold SlS
    cases ho : isOwn sl with
    | false => rw [if_neg (by decide)]; exact I.slr e' ho
    | true =>
      rw [if_pos rfl]
      obtain ⟨q, o, g1, g2, g3, g4, g5, g6⟩ := I.own e' ho
      have ne : q ≠ p := fun z => by subst z; exact g6 sc e
      exact ⟨q, o, g1, by rw [upd_ne ne]; exact g2, g3, g4, g5, g6⟩
  · obtain ⟨⟨u, g1⟩, g2⟩ := I.pin q sc' eq
    refine ⟨?_, g2⟩
    by_cases ne : q = p
    · subst ne; exact ⟨_, upd_same⟩
    · exact ⟨u, by rw [upd_ne ne]; exact g1⟩
  · cases eP
    exact ⟨p, sc, e, by rw [upd_same, hv], hs⟩
  · by_cases ne : a = p
    · subst ne
      rcases I.new' a sc e with z | z
      · exact absurd (z.trans e) (n sc)
      · rw [z] at e'; cases e'
    · rw [upd_ne ne]; exact I.keep a u e' n
  · by_cases ne : a = p
    · subst ne; exact ⟨_, upd_same⟩
    · rw [upd_ne ne]; exact I.kept a u e'
def sPset (i : Nat) (j : Int) (m : EM) : SM := fun E pl => match m E pl with
  | some (.int z, some P) => match E[i]? with
    | some .pool => (plSet P j z).map fun P' => .nx E (some P')
    | _ => none
  | _ => none
theorem SS.pset {te : TE} {i : Nat} {j : Int} {m : EM} (s : ES K te m) : SS K (tAsg te (gSub (tVar i) (tC (.int j)) rSetL)) (sPset i j m) := fun C pp S H σ E pl D' out I e q => by
  unfold sPset at e
  split at e <;> try cases e
  rename_i z P h
  split at e <;> try cases e
  rename_i hE
  cases hP : plSet P j z with
  | none => rw [hP] at e; cases e
  | some P' =>
    rw [hP] at e; cases e
    refine s pp _ H σ E pl _ _ _ I.erA h fun v S1 H1 J a1 r1 => ?_
    obtain ⟨I1, _⟩ := I.back J a1
    rw [rp_int] at r1; subst r1
    obtain ⟨p, sc, e1, e2, e3⟩ := I1.pool P rfl
    obtain ⟨p', sc', e4, e5⟩ := I1.slr hE rfl
    rw [e1] at e4; cases e4
    unfold plSet at hP
    refine ⟨_, e5, p, _, j, j.toNat, rfl, rfl, e2, ?_, ?_⟩
    · split at hP <;> cases hP <;> rfl
    · have key : ∀ vs, vs = [V.ref sc.1, .int P'.i, .int P'.n, .int P'.k] → P'.scr = sc.2 → D'.nx σ (L2.upd H1 p (.lst vs)) := fun vs h1 h2 => q pp _ _ σ PpS.refl (I1.poolUpd e1 h1 h2)
      split at hP <;> cases hP
      · exact key _ rfl e3
      · exact key _ rfl e3
      · exact key _ rfl e3
theorem sf_pset {st : Stmt} {e : Expr} {i : Nat} {j : Int} {m : EM} (he : EF X e m) (mk : ∀ te, PE X e te → PS X st (tAsg te (gSub (tVar i) (tC (.int j)) rSetL))) : SF X st (sPset i j m) :=
  let ⟨_, p, s⟩ := he; ⟨_, mk _ p, SS.pset s⟩
/-- pool = f(script): a new list of the script and three ints -/
def sPnew (i : Nat) (m : AM) : SM := fun E pl => match m (vw [] E) pl with
  | some ([.scr ns, .int a, .int b, .int c], none) => some (.nx ((frz [] E).set i .pool) (some ⟨ns, a, b, c⟩))
  | _ => none
theorem SS.pnew {te : TE} {i : Nat} {m : AM} (s : LS K te m) : SS K (tAsg te (gName i)) (sPnew i m) := fun C pp S H σ E pl D' out I e q => by
  unfold sPnew at e
  split at e <;> try cases e
  rename_i ns a b c h
  refine s pp _ H σ _ pl _ _ _ (I.er []) h fun p vs S1 H1 J a1 hp sp hq r1 => ?_
  have I1 := I.fin J a1
  have h0 : pp = none := I1.npp rfl
  subst h0
  obtain ⟨v0, r, rfl, g0, r1⟩ := r1.cons_inv
  obtain ⟨v1, r, rfl, g1, r1⟩ := r1.cons_inv
  obtain ⟨v2, v3, rfl, g2, g3⟩ := rpl_two r1
  rw [rp_int] at g1 g2 g3
  rw [rp_scr] at g0
  obtain ⟨sc, rfl, g0⟩ := g0
  subst g1 g2 g3
  have np : C.H0 p = none := h0_none I hp
  have c0 : C.pp0 = none := by
    rcases I1.ppk with z | z
    · exact z
    · exact z.symm
  have fr := own_none I hp []
  have nr : ∀ (j : Nat) (sl : Sl), (frz [] E)[j]? = some sl → isOwn sl = true → ∃ q o, σ[j]? = some (some (.ref q)) ∧ H1 q = some o ∧ OwnC K S1 sl o ∧ S1 q = none ∧ C.H0 q = none ∧ q ≠ p := fun j sl e ho => by
    obtain ⟨q, o, k1, k2, k3, k4, k5, _⟩ := I1.own e ho
    exact ⟨q, o, k1, k2, k3, k4, k5, fun z => fr j sl e ho (z ▸ k1)⟩
  refine q (some (p, sc, ns)) S1 H1 _ (.inl rfl) ?_
  have get : ∀ {j : Nat} {b : Sl}, ((frz [] E).set i .pool)[j]? = some b → (j = i ∧ b = .pool ∧ (σ.set i (some (.ref p)))[j]? = some (some (.ref p))) ∨ (j ≠ i ∧ (frz [] E)[j]? = some b ∧ (σ.set i (some (.ref p)))[j]? = σ[j]?) := fun {j b} e => by
    by_cases hj : i = j
    · subst hj
      by_cases hl : i < (frz [] E).length
      · rw [List.getElem?_set_self hl] at e
        cases e
        exact .inl ⟨rfl, rfl, List.getElem?_set_self (by rw [← I1.len]; exact hl)⟩
      · rw [List.getElem?_eq_none_iff.mpr (by rw [List.length_set]; omega)] at e; cases e
    · rw [List.getElem?_set_ne hj] at e
      exact .inr ⟨Ne.symm hj, e, List.getElem?_set_ne hj⟩
  refine ⟨I1.sub, by rw [List.length_set, List.length_set]; exact I1.len, fun j sl e => ?_, fun p' sc' e => ?_, fun p' sc' e => ?_, fun P e => ?_, I1.s0, I1.keep, I1.kept, I1.new, fun j k a b q hjk ha hb oa ob sa sb => ?_, .inl c0, fun z => by cases z⟩
  · rcases get e with ⟨_, e2, e3⟩ | ⟨_, e2, e3⟩
    · rw [e3]; subst e2
      unfold SlS
      rw [if_neg (by intro z; cases z)]
      exact ⟨p, _, rfl, rfl⟩
    · rw [e3]
      unfold SlS
      cases ho : isOwn sl with
      | true =>
        rw [if_pos rfl]
        obtain ⟨q, o, k1, k2, k3, k4, k5, k6⟩ := nr j sl e2 ho
        exact ⟨q, o, k1, k2, k3, k4, k5, fun sc' z => by cases z; exact k6 rfl⟩
      | false =>
        rw [if_neg (by decide)]
        have z := I1.slr e2 ho
        cases sl with
        | pool => obtain ⟨_, _, z, _⟩ := z; cases z
        | un => exact trivial
        | val d => exact z
        | own xs => cases ho
        | owd ks vs => cases ho
  · cases e; exact ⟨⟨_, hq⟩, sp, g0⟩
  · cases e; exact .inr np
  · cases e; exact ⟨p, _, rfl, hq, rfl⟩
  · rcases get ha with ⟨e1, e2, e3⟩ | ⟨e1, e2, e3⟩
    · subst e2; cases oa
    · rcases get hb with ⟨g1, g2, g3⟩ | ⟨g1, g2, g3⟩
      · subst g2; cases ob
      · rw [e3] at sa; rw [g3] at sb
        exact I1.dist j k a b q hjk e2 g2 oa ob sa sb
theorem AsL.pnew {st : Stmt} {i : Nat} {m : AM} (h : AsL X st i m) : SF X st (sPnew i m) := let ⟨_, p, s⟩ := h; ⟨_, p, SS.pnew s⟩

/-! defs that draw -/
theorem SR.startP {ds : List D} {vs : List V} {p sc : Addr} {P : Pl} {n : Nat} (N : List Str) (hs : Sb S H) (hp : H p = some (.lst [.ref sc, .int P.i, .int P.n, .int P.k])) (sp : S p = none) (hsc : SqL K S sc (P.scr.map V.int)) (r : RpL K S ds vs) (hn : ds.length + 1 ≤ N.length) :
    SR K ⟨S, H, some (p, sc, P.scr)⟩ (some (p, sc, P.scr)) S H (L2.start N (.ref p :: vs)) (Sl.pool :: env0 (N.length - 1) ds) (some P) := by
  have hst : L2.start N (.ref p :: vs) = some (.ref p) :: (vs.map some ++ List.replicate (N.length - 1 - vs.length) none) := by
    unfold L2.start
    rw [List.map_cons, List.length_cons, List.cons_append]
    have : N.length - (vs.length + 1) = N.length - 1 - vs.length := by omega
    rw [this]
  rw [hst]
  have hl := r.len
  obtain ⟨N', hN⟩ : ∃ N' : List Str, N'.length = N.length - 1 := ⟨N.tail, by rw [List.length_tail]⟩
  have er := env0_rel (pp := some (p, sc, P.scr)) (H := H) (H0 := H) N' r
  rw [hN] at er
  have st' : (vs.map some ++ List.replicate (N.length - 1 - vs.length) none) = L2.start N' vs := by unfold L2.start; rw [hN]
  rw [st']
  refine ⟨hs, ?_, fun i sl e => ?_, fun p' sc' z => ?_, fun p' sc' z => ?_, fun P' z => ?_, Sb.refl _, fun _ _ h _ => h, fun _ o h => ⟨o, h⟩, fun _ _ h => .inl h, fun i j a b p' _ ha _ oa _ _ _ => ?_, .inr rfl, fun z => by cases z⟩
  · rw [List.length_cons, List.length_cons, ← hN, start_len hl (by omega)]
  · cases i with
    | zero =>
      cases e
      unfold SlS
      rw [if_neg (by intro z; cases z)]
      exact ⟨p, _, rfl, rfl⟩
    | succ i => exact er i sl (by simpa using e)
  · cases z; exact ⟨⟨_, hp⟩, sp, hsc⟩
  · cases z; exact .inl rfl
  · cases z; exact ⟨p, _, rfl, hp, rfl⟩
  · cases i with
    | zero => cases ha; cases oa
    | succ i =>
      rw [env0_own (ds := ds) (n := N.length - 1) (i := i) (by simpa using ha)] at oa; cases oa
theorem SR.adP {p sc : Addr} {ns : List Int} {P' : Pl} (I : SR K ⟨S, H, some (p, sc, ns)⟩ pp S' H' σ E (some P')) : Ad (some (p, sc, ns)) S H S' H' ∧ S' p = none ∧ H' p = some (.lst [.ref sc, .int P'.i, .int P'.n, .int P'.k]) ∧ P'.scr = ns := by
  rcases I.ppk with z | z
  · cases z
  · have z' : pp = some (p, sc, ns) := z
    subst z'
    refine ⟨⟨I.s0, fun a o e n => I.keep a o e n, I.kept, I.new⟩, (I.pin p _ rfl).2.1, ?_⟩
    obtain ⟨p', sc', e1, e2, e3⟩ := I.pool P' rfl
    cases e1
    exact ⟨e2, e3⟩
variable {P : Program} {w : World} {mg : Str → Option Value} {base : Heap}
theorem fn_P {x qual : Str} {st : Stmt} {f : Addr} {fd : FuncData} {N ps : List Str} {k : Nat} {m : SM} (F : Fun K x qual st f fd) (Sc : FnScope N ps (defScope st)) (hb : Body P w K mg base N qual st f k m) : FnOk P w K mg base CX0 (k + 1) f fd ps (spP K ps.length (runP N.length m)) := by
  refine F.ok Sc (fun vs H Q E h => ?_) (fun cdv A outer s H vs Q E hr h => ?_)
  · obtain ⟨S, ds, d, p, sc, us, P, P', rfl, _, _, _, _, r, hl, _⟩ := h
    rw [List.length_cons, r.len, hl]
  · obtain ⟨S, ds, d, p, sc, us, P, P', rfl, hs, hp, sp, hsc, r, hl, hm, q⟩ := h
    obtain ⟨t, pb, s'⟩ := hb cdv A outer s H E hr
    refine ⟨t, pb, ?_⟩
    have I := SR.startP (n := 0) N hs hp sp hsc r (by rw [hl]; exact take_len Sc.pre)
    unfold runP at hm
    cases e : m (Sl.pool :: env0 (N.length - 1) ds) (some P) with
    | none => rw [e] at hm; cases hm
    | some o =>
      rw [e] at hm
      refine s' _ _ S H _ _ _ _ o I e ?_
      cases o with
      | rt d' E' pl' =>
        cases pl' with
        | none => cases hm
        | some P2 =>
          cases hm
          intro pp' S' H' σ' v _ I' r'
          obtain ⟨k1, k2, k3, k4⟩ := I'.adP
          exact q v S' H' I'.sub k1 k2 k3 k4 r'
      | rtl xs E' pl' =>
        cases pl' with
        | none => cases hm
        | some P2 =>
          cases hm
          intro pp' S' H' σ' a vs' hpp I' h1 h2 h3 h4 r'
          obtain ⟨k1, k2, k3, k4⟩ := I'.adP
          have ne : p ≠ a := fun z => by
            subst z
            have h3' : H p = none := h3
            rw [hp] at h3'; cases h3'
          refine q _ (upd S' a (.lst vs')) H' (fun b u e' => ?_) ⟨k1.s.trans (sb_upd h2), k1.h, k1.t, fun b u e' => ?_⟩ (by rw [upd_ne ne]; exact k2) k3 k4 (rp_lst.mpr ⟨a, vs', rfl, upd_same, r'.mono (sb_upd h2)⟩)
          · by_cases hb : b = a
            · subst hb; rw [upd_same] at e'; cases e'; exact h1
            · rw [upd_ne hb] at e'; exact I'.sub b u e'
          · by_cases hb : b = a
            · subst hb; exact .inr h3
            · rw [upd_ne hb] at e'; exact k1.n b u e'
      | nx E' pl' =>
        cases pl' with
        | none => cases hm
        | some P2 =>
          cases hm
          intro pp' S' H' σ' _ I'
          obtain ⟨k1, k2, k3, k4⟩ := I'.adP
          exact q _ S' H' I'.sub k1 k2 k3 k4 (rp_non.mpr rfl)
      | bk E' pl' => cases hm
      | ct E' pl' => cases hm
theorem fn_PL {x qual : Str} {st : Stmt} {f : Addr} {fd : FuncData} {N ps : List Str} {k : Nat} {m : SM} (F : Fun K x qual st f fd) (Sc : FnScope N ps (defScope st)) (hb : Body P w K mg base N qual st f k m) : FnOk P w K mg base CX0 (k + 1) f fd ps (spPL K ps.length (runPL N.length m)) := by
  refine F.ok Sc (fun vs H Q E h => ?_) (fun cdv A outer s H vs Q E hr h => ?_)
  · obtain ⟨S, ds, d, p, sc, us, P, P', rfl, _, _, _, _, r, hl, _⟩ := h
    rw [List.length_cons, r.len, hl]
  · obtain ⟨S, ds, d, p, sc, us, P, P', rfl, hs, hp, sp, hsc, r, hl, hm, q⟩ := h
    obtain ⟨t, pb, s'⟩ := hb cdv A outer s H E hr
    refine ⟨t, pb, ?_⟩
    have I := SR.startP (n := 0) N hs hp sp hsc r (by rw [hl]; exact take_len Sc.pre)
    unfold runPL at hm
    cases e : m (Sl.pool :: env0 (N.length - 1) ds) (some P) with
    | none => rw [e] at hm; cases hm
    | some o =>
      rw [e] at hm
      refine s' _ _ S H _ _ _ _ o I e ?_
      cases o with
      | rtl xs E' pl' =>
        cases pl' with
        | none => cases hm
        | some P2 =>
          cases hm
          intro pp' S' H' σ' a vs' hpp I' h1 h2 h3 h4 r'
          obtain ⟨k1, k2, k3, k4⟩ := I'.adP
          exact q a vs' S' H' I'.sub k1 k2 k3 k4 h3 h2 h1 r'
      | rt d' E' pl' => cases pl' <;> cases hm
      | nx E' pl' => cases pl' <;> cases hm
      | bk E' pl' => cases pl' <;> cases hm
      | ct E' pl' => cases pl' <;> cases hm
def mCallP (i : Nat) (g : Pl → List D → Option (D × Pl)) (m : AM) : EM := fun E pl => match E[i]? with
  | some .pool => match m E pl with
    | some (xs, some P) => (g P xs).map fun r => (r.1, some r.2)
    | _ => none
  | _ => none
def mCallPL (i : Nat) (g : Pl → List D → Option (List D × Pl)) (m : AM) : AM := fun E pl => match E[i]? with
  | some .pool => match m E pl with
    | some (xs, some P) => (g P xs).map fun r => (r.1, some r.2)
    | _ => none
  | _ => none
theorem ER.pool2 {P P' : Pl} {p sc : Addr} (I : ER K pp S H σ E (some P)) (e : pp = some (p, sc, P.scr)) (hs : Sb S' H') (a : Ad pp S H S' H') (sp : S' p = none) (hp : H' p = some (.lst [.ref sc, .int P'.i, .int P'.n, .int P'.k])) (h : P'.scr = P.scr) : ER K pp S' H' σ E (some P') := by
  subst e
  refine ⟨hs, I.len, fun i sl e => (I.env i sl e).mono a.s, fun q sc' e => ?_, fun Q e => ?_, fun z => by cases z⟩
  · cases e; exact ⟨⟨_, hp⟩, sp, sb_l a.s (I.pin p _ rfl).2.2⟩
  · cases e; exact ⟨p, _, rfl, hp, h⟩
variable {k : Nat} {f : Addr} {fd : FuncData} {ps : List Str} {x y : Str} {p p0 pos : Pos} {es : List Expr}
theorem ef_callP {m : Pl → List D → Option (D × Pl)} {ma : AM} (n i : Nat) (F : FnOk X.prog X.w X.K X.mg X.base CX0 k f fd ps (spP X.K (n + 1) m)) (hr : Room k X.A) (hg : Gl X x) (hm : X.mg x = some (.ref f)) (hk : PySem.W.keepIn X.K (.ref f) = true) (hb : Binds X.K fd ps [])
    (hN : X.N[i]? = some y) (hv : Vis X.env.scope y) (ha : AF X es ma) (hlen : ALen ma n) (hd : (y == ("__debug__" : Str)) = false := by decide) (hcd : (y == ("__classdict__" : Str)) = false := by decide) (hdb : (x == ("__debug__" : Str)) = false := by decide)
    (hpl : nsts es = true := by rfl) : EF X (.Call (.Name x p) (.Name y p0 :: es) [] pos) (mCallP i m ma) := by
  obtain ⟨t, pa, s⟩ := ha
  refine ⟨_, pe_call F hr hg hm hk hb .nil pass0 (pa_cons (pe_var hN hv hd hcd) pa (star_nst rfl)) hdb (star_nst rfl) (back_nst hpl), fun pp S H σ E pl d pl' Q I e q => ?_⟩
  unfold mCallP at e
  split at e <;> try cases e
  rename_i hE
  split at e <;> try cases e
  rename_i xs P h
  cases hP : m P xs with
  | none => rw [hP] at e; cases e
  | some r =>
    rw [hP] at e; cases e
    obtain ⟨a, sc, e1, e2⟩ := I.env i _ hE
    refine ⟨_, e2, ?_⟩
    refine s pp S H σ E pl xs _ _ I h fun vs S1 H1 I1 a1 r1 => ?_
    obtain ⟨a', sc', g1, g2, g3⟩ := I1.pool P rfl
    rw [e1] at g1; cases g1
    show spP X.K (n + 1) m (V.ref a :: vs ++ []) H1 Q E0
    rw [List.append_nil]
    obtain ⟨sc1, sc2⟩ := sc
    dsimp only at g3
    subst g3
    refine ⟨S1, xs, r.1, a, sc1, vs, P, r.2, rfl, I1.sub, g2, (I1.pin a _ e1).2.1, (I1.pin a _ e1).2.2, r1, by rw [hlen _ _ _ _ h], hP, fun v S2 H2 hs ad sp hp hsc r2 => ?_⟩
    subst e1
    exact q v S2 H2 (I1.pool2 rfl hs ad sp hp hsc) (a1.trans ad) r2
theorem lf_callPL {m : Pl → List D → Option (List D × Pl)} {ma : AM} (n i : Nat) (F : FnOk X.prog X.w X.K X.mg X.base CX0 k f fd ps (spPL X.K (n + 1) m)) (hr : Room k X.A) (hg : Gl X x) (hm : X.mg x = some (.ref f)) (hk : PySem.W.keepIn X.K (.ref f) = true) (hb : Binds X.K fd ps [])
    (hN : X.N[i]? = some y) (hv : Vis X.env.scope y) (ha : AF X es ma) (hlen : ALen ma n) (hd : (y == ("__debug__" : Str)) = false := by decide) (hcd : (y == ("__classdict__" : Str)) = false := by decide) (hdb : (x == ("__debug__" : Str)) = false := by decide)
    (hpl : nsts es = true := by rfl) : LF X (.Call (.Name x p) (.Name y p0 :: es) [] pos) (mCallPL i m ma) := by
  obtain ⟨t, pa, s⟩ := ha
  refine ⟨_, pe_call F hr hg hm hk hb .nil pass0 (pa_cons (pe_var hN hv hd hcd) pa (star_nst rfl)) hdb (star_nst rfl) (back_nst hpl), fun pp S H σ E pl d pl' Q I e q => ?_⟩
  unfold mCallPL at e
  split at e <;> try cases e
  rename_i hE
  split at e <;> try cases e
  rename_i xs P h
  cases hP : m P xs with
  | none => rw [hP] at e; cases e
  | some r =>
    rw [hP] at e; cases e
    obtain ⟨a, sc, e1, e2⟩ := I.env i _ hE
    refine ⟨_, e2, ?_⟩
    refine s pp S H σ E pl xs _ _ I h fun vs S1 H1 I1 a1 r1 => ?_
    obtain ⟨a', sc', g1, g2, g3⟩ := I1.pool P rfl
    rw [e1] at g1; cases g1
    show spPL X.K (n + 1) m (V.ref a :: vs ++ []) H1 Q E0
    rw [List.append_nil]
    obtain ⟨sc1, sc2⟩ := sc
    dsimp only at g3
    subst g3
    refine ⟨S1, xs, r.1, a, sc1, vs, P, r.2, rfl, I1.sub, g2, (I1.pin a _ e1).2.1, (I1.pin a _ e1).2.2, r1, by rw [hlen _ _ _ _ h], hP, fun b ws S2 H2 hs ad sp hp hsc hn sn hw r2 => ?_⟩
    subst e1
    exact q b ws S2 H2 (I1.pool2 rfl hs ad sp hp hsc) (a1.trans ad) (none_ad a1 hn) sn hw r2
end
end Dn
set_option Elab.async false
set_option linter.all false
set_option maxRecDepth 100000
set_option maxHeartbeats 2000000
namespace Dn
open PySem PySem.Spec PyProof.Rows L2

/-! ### a def under its name -/
structure Fn (P : Program) (w : World) (K : PySem.W.Frag) (mg : Str → Option Value) (base : Heap) (x : Str) (k : Nat) (ps : List Str) (sp : Sp) : Prop where
  ex : ∃ f fd, FnOk P w K mg base CX0 k f fd ps sp ∧ mg x = some (.ref f) ∧ PySem.W.keepIn K (.ref f) = true ∧ Binds K fd ps []
section
variable {X : Cx} {k j : Nat} {ps : List Str} {x y : Str} {p p0 pos : Pos} {e : Expr} {es : List Expr}
theorem ef_f {m : List D → Option D} {ma : AM} (n : Nat) (F : Fn X.prog X.w X.K X.mg X.base x k ps (spF X.K n m)) (hr : Room j X.A) (hk : k ≤ j) (hg : Gl X x) (ha : AF X (e :: es) ma) (hl : ALen ma n)
    (hdb : (x == ("__debug__" : Str)) = false := by decide) (he : nst e = true := by rfl) (hpl : nsts es = true := by rfl) : EF X (.Call (.Name x p) (e :: es) [] pos) (mCall m ma) := by
  obtain ⟨f, fd, F1, h1, h2, h3⟩ := F.ex
  obtain ⟨t, pa, s⟩ := ha
  refine ⟨_, pe_call F1 (hr.mono hk) hg h1 h2 h3 .nil pass0 pa hdb (star_nst he) (back_nst hpl), fun pp S H σ E pl d pl' Q I e' q => ?_⟩
  obtain ⟨xs, p1, e1, f1⟩ := seqM_some e'
  obtain ⟨e3, rfl⟩ := lftM_some f1
  refine s pp S H σ E pl xs _ _ I e1 fun vs S1 H1 I1 a1 r1 => ?_
  show spF X.K n m (vs ++ []) H1 Q E0
  rw [List.append_nil]
  exact ⟨S1, xs, d, I1.sub, r1, hl _ _ _ _ e1, e3, fun v S2 H2 nw r2 => q v S2 H2 (I1.nw nw) (a1.trans nw.ad) r2⟩
theorem lf_f {m : List D → Option (List D)} {ma : AM} (n : Nat) (F : Fn X.prog X.w X.K X.mg X.base x k ps (spL X.K n m)) (hr : Room j X.A) (hk : k ≤ j) (hg : Gl X x) (ha : AF X (e :: es) ma) (hl : ALen ma n)
    (hdb : (x == ("__debug__" : Str)) = false := by decide) (he : nst e = true := by rfl) (hpl : nsts es = true := by rfl) : LF X (.Call (.Name x p) (e :: es) [] pos) (mCallL m ma) := by
  obtain ⟨f, fd, F1, h1, h2, h3⟩ := F.ex
  obtain ⟨t, pa, s⟩ := ha
  refine ⟨_, pe_call F1 (hr.mono hk) hg h1 h2 h3 .nil pass0 pa hdb (star_nst he) (back_nst hpl), fun pp S H σ E pl d pl' Q I e' q => ?_⟩
  obtain ⟨xs, p1, e1, f1⟩ := seqM_some e'
  obtain ⟨e3, rfl⟩ := lftM_some f1
  refine s pp S H σ E pl xs _ _ I e1 fun vs S1 H1 I1 a1 r1 => ?_
  show spL X.K n m (vs ++ []) H1 Q E0
  rw [List.append_nil]
  exact ⟨S1, xs, d, I1.sub, r1, hl _ _ _ _ e1, e3, fun a us S2 H2 nw h1 h2 h3 r2 => q a us S2 H2 (I1.nw nw) (a1.trans nw.ad) (none_ad a1 h1) h2 h3 r2⟩
theorem ef_p {m : Pl → List D → Option (D × Pl)} {ma : AM} (n i : Nat) (F : Fn X.prog X.w X.K X.mg X.base x k ps (spP X.K (n + 1) m)) (hr : Room j X.A) (hk : k ≤ j) (hg : Gl X x) (ha : AF X es ma) (hl : ALen ma n)
    (hN : X.N[i]? = some y := by rfl) (hv : Vis X.env.scope y := by first | exact Or.inl rfl | exact Or.inr (Or.inl rfl) | exact Or.inr (Or.inr rfl)) (hd : (y == ("__debug__" : Str)) = false := by decide) (hcd : (y == ("__classdict__" : Str)) = false := by decide) (hdb : (x == ("__debug__" : Str)) = false := by decide)
    (hpl : nsts es = true := by rfl) : EF X (.Call (.Name x p) (.Name y p0 :: es) [] pos) (mCallP i m ma) :=
  let ⟨f, fd, F1, h1, h2, h3⟩ := F.ex
  ef_callP n i F1 (hr.mono hk) hg h1 h2 h3 hN hv ha hl hd hcd hdb hpl
theorem lf_p {m : Pl → List D → Option (List D × Pl)} {ma : AM} (n i : Nat) (F : Fn X.prog X.w X.K X.mg X.base x k ps (spPL X.K (n + 1) m)) (hr : Room j X.A) (hk : k ≤ j) (hg : Gl X x) (ha : AF X es ma) (hl : ALen ma n)
    (hN : X.N[i]? = some y := by rfl) (hv : Vis X.env.scope y := by first | exact Or.inl rfl | exact Or.inr (Or.inl rfl) | exact Or.inr (Or.inr rfl)) (hd : (y == ("__debug__" : Str)) = false := by decide) (hcd : (y == ("__classdict__" : Str)) = false := by decide) (hdb : (x == ("__debug__" : Str)) = false := by decide)
    (hpl : nsts es = true := by rfl) : LF X (.Call (.Name x p) (.Name y p0 :: es) [] pos) (mCallPL i m ma) :=
  let ⟨f, fd, F1, h1, h2, h3⟩ := F.ex
  lf_callPL n i F1 (hr.mono hk) hg h1 h2 h3 hN hv ha hl hd hcd hdb hpl
end
section
variable {P : Program} {w : World} {K : PySem.W.Frag} {mg : Str → Option Value} {base : Heap}
/-- a def that is never called -/
theorem fn_no {k : Nat} {f : Addr} {fd : FuncData} {ps : List Str} {n : Nat} : FnOk P w K mg base CX0 k f fd ps (spF K n fun _ => none) :=
  ⟨(fun vs H Q E h => by obtain ⟨_, _, _, _, _, _, h, _⟩ := h; cases h), (fun A outer s H args us vs Q E _ _ _ _ h => by obtain ⟨_, _, _, _, _, _, h, _⟩ := h; cases h)⟩
/-- a def that calls itself: by how deep it goes -/
theorem fn_rec {k : Nat} {x : Str} {f : Addr} {fd : FuncData} {ps : List Str} {n : Nat} (m : Nat → List D → Option D) (hm : mg x = some (.ref f)) (hk : PySem.W.keepIn K (.ref f) = true) (hb : Binds K fd ps []) (h0 : m 0 = fun _ => none)
    (hs : ∀ i, Fn P w K mg base x (k + i) ps (spF K n (m i)) → FnOk P w K mg base CX0 (k + i + 1) f fd ps (spF K n (m (i + 1)))) : ∀ i, Fn P w K mg base x (k + i) ps (spF K n (m i))
  | 0 => ⟨f, fd, by rw [h0]; exact fn_no, hm, hk, hb⟩
  | i + 1 => ⟨f, fd, hs i (fn_rec m hm hk hb h0 hs i), hm, hk, hb⟩
theorem Fn.mono {i k : Nat} {x : Str} {ps : List Str} {sp : Sp} (h : Fn P w K mg base x i ps sp) (hk : i ≤ k) : Fn P w K mg base x k ps sp :=
  let ⟨f, fd, F1, h1, h2, h3⟩ := h.ex; ⟨f, fd, F1.mono hk, h1, h2, h3⟩
/-- what a law promises: of its script the answer True -/
def spLaw (K : PySem.W.Frag) : Sp := fun vs H Q _ => ∃ (a : Addr) (ns : List Int), vs = [.ref a] ∧ SqL K H a (ns.map V.int) ∧ ns.length ≤ 63 ∧ ∀ H', Q (.bl true) H'
theorem law_of {k : Nat} {f : Addr} {fd : FuncData} {m : List D → Option D} (F : FnOk P w K mg base CX0 k f fd ["script"] (spF K 1 m)) (h : ∀ ns : List Int, ns.length ≤ 63 → m [.scr ns] = some (.bl true)) : FnOk P w K mg base CX0 k f fd ["script"] (spLaw K) :=
  F.imp fun vs H Q E hs => by
    obtain ⟨a, ns, rfl, hS, hl, q⟩ := hs
    exact ⟨H, [.scr ns], .bl true, Sb.refl _, RpL.cons (rp_scr.mpr ⟨a, rfl, hS⟩) RpL.nil, rfl, h ns hl, fun v S' H' _ r => by rw [rp_bl] at r; subst r; exact q H'⟩
theorem u65 {k : Nat} {A : Around} (r : Room k A) : A.units + 65 < cLine := by have := r.un; omega
/-- a module's constant -/
structure Gc (K : PySem.W.Frag) (mg : Str → Option Value) (x : Str) (d : D) : Prop where
  ex : ∃ u v, mg x = some u ∧ RelV v u ∧ ∀ S, Rp K S d v
theorem ef_glob {X : Cx} {x : Str} {pos : Pos} {d : D} (h : Gc X.K X.mg x d) (hg : Gl X x) (hd : (x == ("__debug__" : Str)) = false := by decide) : EF X (.Name x pos) (mC d) :=
  let ⟨_, _, h1, h2, h3⟩ := h.ex; ⟨_, pe_glob hg h1 h2 hd, ES.c h3⟩
end
end Dn
set_option Elab.async false
set_option linter.all false
set_option maxRecDepth 100000
set_option maxHeartbeats 2000000
namespace Dn
open PySem PySem.Spec PyProof.Rows L2

/-! ### operators of several kinds -/
section
variable {X : Cx}
def dCatL : D → D → Option D | .lst a, .lst b => if sized (a.length + b.length) then some (.lst (a ++ b)) else none | _, _ => none
def dCatT : D → D → Option D | .tup a, .tup b => if sized (a.length + b.length) then some (.tup (a ++ b)) else none | _, _ => none
def dCatS : D → D → Option D | .str a, .str b => if sized (a.length + b.length) then some (.str (a ++ b)) else none | _, _ => none
theorem od_catL : OpD X (binaryOp .Add) dCatL := ⟨_, op_cat, fun S H a b d v u Q hs ra rb e q => by
  unfold dCatL at e; split at e <;> try cases e
  split at e <;> cases e
  rename_i hz
  rw [rp_lst] at ra rb
  obtain ⟨p, vs, rfl, h1, h2⟩ := ra
  obtain ⟨p', us, rfl, g1, g2⟩ := rb
  refine ⟨p, p', vs, us, rfl, rfl, hs _ _ h1, hs _ _ g1, by rw [h2.len, g2.len]; exact sized_le hz, fun r hr => ?_⟩
  have nw := Nw.new (o := .lst (vs ++ us)) hs hr
  exact q _ _ _ nw (rp_lst.mpr ⟨r, _, rfl, upd_same, (h2.append g2).mono nw.s⟩)⟩
theorem od_catT : OpD X (binaryOp .Add) dCatT := ⟨_, op_catA, fun S H a b d v u Q hs ra rb e q => by
  unfold dCatT at e; split at e <;> try cases e
  split at e <;> cases e
  rename_i hz
  rw [rp_tup] at ra rb
  obtain ⟨p, vs, rfl, h1, h2⟩ := ra
  obtain ⟨p', us, rfl, g1, g2⟩ := rb
  refine ⟨p, p', vs, us, rfl, rfl, sb_t hs h1, sb_t hs g1, by rw [h2.len, g2.len]; exact sized_le hz, fun z => ?_, fun _ z => ?_, fun _ _ r hr => ?_⟩
  · have hl := h2.len
    rw [z] at hl
    rename_i xs ys
    have hx : xs = [] := List.eq_nil_of_length_eq_zero hl.symm
    subst hx
    exact q _ S H (Nw.refl hs) (rp_tup.mpr ⟨p', us, rfl, g1, g2⟩)
  · have hl := g2.len
    rw [z] at hl
    rename_i xs ys _
    have hx : ys = [] := List.eq_nil_of_length_eq_zero hl.symm
    subst hx
    exact q _ S H (Nw.refl hs) (rp_tup.mpr ⟨p, vs, rfl, h1, by rw [List.append_nil]; exact h2⟩)
  · have nw := Nw.new (o := .tup (vs ++ us)) hs hr
    exact q _ _ _ nw (rp_tup.mpr ⟨r, _, rfl, SqT.of upd_same, (h2.append g2).mono nw.s⟩)⟩
theorem od_catS : OpD X (binaryOp .Add) dCatS := ⟨_, op_add_str, fun S H a b d v u Q hs ra rb e q => by
  unfold dCatS at e; split at e <;> try cases e
  split at e <;> cases e
  rename_i hz
  rw [rp_str] at ra rb
  subst ra rb
  exact ⟨_, _, rfl, rfl, sized_le hz, q _ S H (Nw.refl hs) (rp_str.mpr rfl)⟩⟩
def dAdd : D → D → Option D
  | .int a, .int b => some (.int (a + b))
  | .lst a, .lst b => dCatL (.lst a) (.lst b)
  | .tup a, .tup b => dCatT (.tup a) (.tup b)
  | .str a, .str b => dCatS (.str a) (.str b)
  | _, _ => none
theorem od_add : OpD X (binaryOp .Add) dAdd := (((od_addI.or od_catL).or od_catT).or od_catS).imp fun a b d e => by
  unfold dAdd at e
  split at e
  · exact e
  · rename_i a b; dsimp only [dAddI, dCatT, dCatS]; rw [show dCatL (.lst a) (.lst b) = some d from e]; rfl
  · rename_i a b; dsimp only [dAddI, dCatL, dCatS]; rw [show dCatT (.tup a) (.tup b) = some d from e]; rfl
  · rename_i a b; dsimp only [dAddI, dCatL, dCatT]; rw [show dCatS (.str a) (.str b) = some d from e]; rfl
  · cases e
def dRepL : D → D → Option D
  | .lst a, .int k => if decide (k.natAbs < 2 ^ 60) && sized (a.length * k.toNat) then some (.lst (List.replicate k.toNat a).flatten) else none
  | _, _ => none
theorem RpL.rep {K : PySem.W.Frag} {S : Hp} {ds : List D} {vs : List V} (r : RpL K S ds vs) : ∀ k : Nat, RpL K S (List.replicate k ds).flatten (List.replicate k vs).flatten
  | 0 => RpL.nil
  | k + 1 => by
    rw [List.replicate_succ, List.replicate_succ, List.flatten_cons, List.flatten_cons]
    exact r.append (r.rep k)
theorem od_repL : OpD X (binaryOp .Mult) dRepL := ⟨_, op_rep, fun S H a b d v u Q hs ra rb e q => by
  unfold dRepL at e; split at e <;> try cases e
  split at e <;> cases e
  rename_i a k hz
  simp only [Bool.and_eq_true, decide_eq_true_eq] at hz
  rw [rp_lst] at ra
  rw [rp_int] at rb
  subst rb
  obtain ⟨p, vs, rfl, h1, h2⟩ := ra
  refine ⟨p, _, vs, rfl, rfl, hs _ _ h1, by omega, by omega, by rw [h2.len]; exact sized_le hz.2, fun r hr => ?_⟩
  have nw := Nw.new (o := .lst (List.replicate k.toNat vs).flatten) hs hr
  exact q _ _ _ nw (rp_lst.mpr ⟨r, _, rfl, upd_same, (h2.rep _).mono nw.s⟩)⟩
def dMul : D → D → Option D
  | .int a, .int b => dMulI (.int a) (.int b)
  | .lst a, .int b => dRepL (.lst a) (.int b)
  | _, _ => none
theorem od_mul : OpD X (binaryOp .Mult) dMul := (od_mulI.or od_repL).imp fun a b d e => by
  unfold dMul at e
  split at e
  · rename_i a b; dsimp only [dRepL]; rw [show dMulI (.int a) (.int b) = some d from e]; rfl
  · rename_i a b; dsimp only [dMulI]; rw [show dRepL (.lst a) (.int b) = some d from e]; rfl
  · cases e
abbrev dLt := dLtI
abbrev dLe := dLeI
abbrev dGt := dGtI
abbrev dGe := dGeI
end
end Dn
set_option Elab.async false
set_option linter.all false
set_option maxRecDepth 100000
set_option maxHeartbeats 2000000
namespace Dn
open PySem PySem.Spec PyProof.Rows L2

/-! ### comprehensions -/
section
variable {K : PySem.W.Frag}
def teOf (K : PySem.W.Frag) (m : EM) : TE := fun σ H Q => ∃ pp S E pl d pl', ER K pp S H σ E pl ∧ m E pl = some (d, pl') ∧ ∀ v S' H', ER K pp S' H' σ E pl' → Ad pp S H S' H' → Rp K S' d v → Q v H'
def ttOf (K : PySem.W.Frag) (m : BM) : TT := fun σ H Q => ∃ pp S E pl d pl', ER K pp S H σ E pl ∧ m E pl = some (d, pl') ∧ ∀ S' H', ER K pp S' H' σ E pl' → Ad pp S H S' H' → Q d H'
theorem EF.can {X : Cx} {e : Expr} {m : EM} (h : EF X e m) : PE X e (teOf X.K m) := by
  obtain ⟨t, p, s⟩ := h
  refine ⟨fun pins s' σ H Q I hq => ?_⟩
  obtain ⟨pp, S, E, pl, d, pl', I1, e1, q⟩ := hq
  exact p.run pins s' σ H Q I (s pp S H σ E pl d pl' Q I1 e1 q)
theorem ES.can (m : EM) : ES K (teOf K m) m := fun pp S H σ E pl d pl' Q I e q => ⟨pp, S, E, pl, d, pl', I, e, q⟩
/-- the tests of a comprehension -/
def TsF (X : Cx) (ifs : List Expr) (m : BM) : Prop := ∃ t, PTs X ifs t ∧ BS X.K t m
theorem TsF.can {X : Cx} {ifs : List Expr} {m : BM} (h : TsF X ifs m) : PTs X ifs (ttOf X.K m) := by
  obtain ⟨t, p, s⟩ := h
  refine ⟨fun pins s' σ H Q I hq => ?_⟩
  obtain ⟨pp, S, E, pl, d, pl', I1, e1, q⟩ := hq
  exact p.run pins s' σ H Q I (s pp S H σ E pl d pl' Q I1 e1 q)
theorem BS.can (m : BM) : BS K (ttOf K m) m := fun pp S H σ E pl d pl' Q I e q => ⟨pp, S, E, pl, d, pl', I, e, q⟩
def tYesM : BM := oks true
theorem ts_nil {X : Cx} : TsF X [] tYesM := ⟨_, pts_nil, fun pp S H σ E pl d pl' Q I e q => by
  obtain ⟨rfl, rfl⟩ := oks_some e
  exact q S H I Ad.refl⟩
theorem ts_one {X : Cx} {c : Expr} {m : BM} (h : BF X c m) : TsF X [c] m := let ⟨_, p, s⟩ := h; ⟨_, pts_one p, s⟩
/-! targets within -/
theorem wipe_get (σ : L2.St) : ∀ (vs : List Nat) (j : Nat), (wipe σ vs)[j]? = if j ∈ vs then (σ[j]?).map fun _ => none else σ[j]?
  | [], j => by simp [wipe]
  | v :: vs, j => by
    unfold wipe
    by_cases h : v = j
    · subst h
      rw [if_pos List.mem_cons_self]
      by_cases hl : v < σ.length
      · rw [List.getElem?_set_self (by rw [wipe_length]; exact hl), List.getElem?_eq_getElem hl]; rfl
      · rw [List.getElem?_eq_none_iff.mpr (by rw [List.length_set, wipe_length]; omega), List.getElem?_eq_none_iff.mpr (by omega)]; rfl
    · rw [List.getElem?_set_ne h, wipe_get σ vs j]
      by_cases g : j ∈ vs
      · rw [if_pos g, if_pos (List.mem_cons_of_mem _ g)]
      · rw [if_neg g, if_neg (by simp [g, Ne.symm h])]
theorem wipe_set (σ : L2.St) (vs : List Nat) {i : Nat} (h : i ∈ vs) (x : Option V) : wipe (σ.set i x) vs = wipe σ vs := by
  apply List.ext_getElem?
  intro j
  rw [wipe_get, wipe_get]
  by_cases g : j ∈ vs
  · rw [if_pos g, if_pos g]
    by_cases hij : i = j
    · subst hij
      by_cases hl : i < σ.length
      · rw [List.getElem?_set_self hl, List.getElem?_eq_getElem hl]; rfl
      · rw [List.getElem?_eq_none_iff.mpr (by rw [List.length_set]; omega), List.getElem?_eq_none_iff.mpr (by omega)]
    · rw [List.getElem?_set_ne hij]
  · rw [if_neg g, if_neg g]
    have : i ≠ j := fun e => g (e ▸ h)
    rw [List.getElem?_set_ne this]
def GE (K : PySem.W.Frag) (g : TG) (f : TM) (sl : List Nat) : Prop := ∀ pp S H σ E pl d v E' (Q : L2.St → Hp → Prop), ER K pp S H σ E pl → Rp K S d v → f d E = some E' → (∀ σ', ER K pp S H σ' E' pl → (∀ vs : List Nat, (∀ i ∈ sl, i ∈ vs) → wipe σ' vs = wipe σ vs) → Q σ' H) → g v σ H Q
def GEs (K : PySem.W.Frag) (g : TGs) (f : List D → Env → Option Env) (sl : List Nat) : Prop := ∀ pp S H σ E pl ds us E' (Q : L2.St → Hp → Prop), ER K pp S H σ E pl → RpL K S ds us → f ds E = some E' → (∀ σ', ER K pp S H σ' E' pl → (∀ vs : List Nat, (∀ i ∈ sl, i ∈ vs) → wipe σ' vs = wipe σ vs) → Q σ' H) → g us σ H Q
def GEF (X : Cx) (tg : Expr) (f : TM) (sl : List Nat) : Prop := ∃ g, PG X tg g ∧ GE X.K g f sl
def GEFs (X : Cx) (tgs : List Expr) (f : List D → Env → Option Env) (sl : List Nat) : Prop := ∃ g, PGs X tgs g ∧ GEs X.K g f sl
def tgOf (K : PySem.W.Frag) (f : TM) (sl : List Nat) : TG := fun v σ H Q => ∃ pp S E pl d E', ER K pp S H σ E pl ∧ Rp K S d v ∧ f d E = some E' ∧ ∀ σ', ER K pp S H σ' E' pl → (∀ vs : List Nat, (∀ i ∈ sl, i ∈ vs) → wipe σ' vs = wipe σ vs) → Q σ' H
theorem GEF.can {X : Cx} {tg : Expr} {f : TM} {sl : List Nat} (h : GEF X tg f sl) : PG X tg (tgOf X.K f sl) := by
  obtain ⟨g, p, s⟩ := h
  refine ⟨fun pins s' σ H v u Q I r hq => ?_⟩
  obtain ⟨pp, S, E, pl, d, E', I1, r1, e1, q⟩ := hq
  exact p.run pins s' σ H v u Q I r (s pp S H σ E pl d v E' Q I1 r1 e1 q)
theorem GE.can (f : TM) (sl : List Nat) : GE K (tgOf K f sl) f sl := fun pp S H σ E pl d v E' Q I r e q => ⟨pp, S, E, pl, d, E', I, r, e, q⟩
theorem ER.val {pp : PP} {S H : Hp} {σ : L2.St} {E : Env} {pl : Option Pl} (I : ER K pp S H σ E pl) (i : Nat) {d : D} {v : V} (h : Rp K S d v) : ER K pp S H (σ.set i (some v)) (E.set i (.val d)) pl := by
  refine ⟨I.sub, by rw [List.length_set, List.length_set]; exact I.len, fun j sl e => ?_, I.pin, I.pool, I.npp⟩
  by_cases hj : i = j
  · subst hj
    by_cases hl : i < E.length
    · rw [List.getElem?_set_self hl] at e
      cases e
      exact ⟨v, List.getElem?_set_self (by rw [← I.len]; exact hl), h⟩
    · rw [List.getElem?_eq_none_iff.mpr (by rw [List.length_set]; omega)] at e; cases e
  · rw [List.getElem?_set_ne hj] at e
    rw [List.getElem?_set_ne hj]
    exact I.env j sl e
theorem ge_name {X : Cx} {i : Nat} {x : Str} {pos : Pos} (hN : X.N.Nodup) (hi : X.N[i]? = some x) (hx : Loc X.env.scope x) (hf : X.fn x = true ∨ X.env.scope.names.lookup x = some .local := by first | exact .inl rfl | exact .inr rfl | assumption) : GEF X (.Name x pos) (gN i) [i] :=
  ⟨_, pg_name hN hi hx hf, fun pp S H σ E pl d v E' Q I r e q => by
    cases e
    exact q _ (I.val i r) fun vs h => wipe_set σ vs (h i List.mem_cons_self) _⟩
theorem ges_nil {X : Cx} : GEFs X [] gsN [] := ⟨_, pgs_nil, fun pp S H σ E pl ds us E' Q I r e q => by
  unfold gsN at e
  split at e <;> cases e
  exact ⟨r.nil_inv, q σ I fun _ _ => rfl⟩⟩
theorem ges_cons {X : Cx} {e : Expr} {es : List Expr} {f : TM} {fs : List D → Env → Option Env} {s1 s2 : List Nat} (h1 : GEF X e f s1) (h2 : GEFs X es fs s2)
    (hs : (assignEach (e :: es) X.env).map (·.2) = assign e X.env :: (assignEach es X.env).map (·.2) := by rfl) : GEFs X (e :: es) (gsC f fs) (s1 ++ s2) := by
  obtain ⟨g, p, s⟩ := h1
  obtain ⟨g', p', s'⟩ := h2
  refine ⟨_, pgs_cons p p' hs, fun pp S H σ E pl ds us E' Q I r e q => ?_⟩
  unfold gsC at e
  split at e
  · rename_i d rest
    obtain ⟨v, ws, rfl, r1, r2⟩ := r.cons_inv
    cases h : f d E with
    | none => rw [h] at e; cases e
    | some E1 =>
      rw [h] at e
      refine ⟨v, ws, rfl, s pp S H σ E pl d v E1 _ I r1 h fun σ1 I1 w1 => s' pp S H σ1 E1 pl rest ws E' Q I1 r2 e fun σ2 I2 w2 => q σ2 I2 fun vs hv => ?_⟩
      rw [w2 vs fun i hi => hv i (List.mem_append_right _ hi), w1 vs fun i hi => hv i (List.mem_append_left _ hi)]
  · cases e
theorem ge_tup {X : Cx} {es : List Expr} {k : Nat} {fs : List D → Env → Option Env} {pos : Pos} {sl : List Nat} (n : Nat) (hc : X.calm = true) (h : GEFs X es fs sl) (hn : (assignEach es X.env).length = n := by rfl) (hst : (assignEach es X.env).findIdx? (·.1) = none := by rfl) :
    GEF X (.Tuple es k pos) (gT fun ds E => bM (ds.length == n) (fs ds E) none) sl := by
  obtain ⟨g, p, s⟩ := h
  refine ⟨_, pg_tup hc p hn hst, fun pp S H σ E pl d v E' Q I r e q => ?_⟩
  unfold gT at e
  split at e
  · rename_i ds
    rw [rp_tup] at r
    obtain ⟨a, vs, rfl, h1, h2⟩ := r
    dsimp only at e
    cases hz : ds.length == n with
    | false => rw [hz] at e; cases e
    | true =>
      rw [hz] at e
      exact ⟨a, vs, rfl, sb_t I.sub h1, by rw [h2.len]; exact eq_of_beq hz, s pp S H σ E pl ds vs E' Q I h2 e q⟩
  · cases e
/-! the comprehension -/
def wipeE (E : Env) : List Nat → Env
  | [] => E
  | v :: vs => (wipeE E vs).set v .un
theorem wipeE_len (E : Env) : ∀ vs : List Nat, (wipeE E vs).length = E.length
  | [] => rfl
  | v :: vs => by unfold wipeE; rw [List.length_set, wipeE_len E vs]
theorem wipeE_get (E : Env) : ∀ (vs : List Nat) (j : Nat), (wipeE E vs)[j]? = if j ∈ vs then (E[j]?).map fun _ => Sl.un else E[j]?
  | [], j => by simp [wipeE]
  | v :: vs, j => by
    unfold wipeE
    by_cases h : v = j
    · subst h
      rw [if_pos List.mem_cons_self]
      by_cases hl : v < E.length
      · rw [List.getElem?_set_self (by rw [wipeE_len]; exact hl), List.getElem?_eq_getElem hl]; rfl
      · rw [List.getElem?_eq_none_iff.mpr (by rw [List.length_set, wipeE_len]; omega), List.getElem?_eq_none_iff.mpr (by omega)]; rfl
    · rw [List.getElem?_set_ne h, wipeE_get E vs j]
      by_cases g : j ∈ vs
      · rw [if_pos g, if_pos (List.mem_cons_of_mem _ g)]
      · rw [if_neg g, if_neg (by simp [g, Ne.symm h])]
theorem ER.wiped {pp : PP} {S H : Hp} {σ : L2.St} {E : Env} {pl : Option Pl} (I : ER K pp S H σ E pl) (vs : List Nat) : ER K pp S H (wipe σ vs) (wipeE E vs) pl := by
  refine ⟨I.sub, by rw [wipeE_len, wipe_length]; exact I.len, fun j sl e => ?_, I.pin, I.pool, I.npp⟩
  rw [wipeE_get] at e
  rw [wipe_get]
  by_cases h : j ∈ vs
  · rw [if_pos h] at e
    cases z : E[j]? with
    | none => rw [z] at e; cases e
    | some s1 => rw [z] at e; cases e; exact trivial
  · rw [if_neg h] at e ⊢
    exact I.env j sl e
/-- what the items give -/
def lcL (f : TM) (mt : BM) (me : EM) (Ew : Env) : List D → Option Pl → Option (List D × Option Pl)
  | [], pl => some ([], pl)
  | d :: ds, pl => match f d Ew with
    | none => none
    | some E1 => match mt E1 pl with
      | none => none
      | some (false, p) => lcL f mt me Ew ds p
      | some (true, p) => match me E1 p with
        | none => none
        | some (y, p2) => match lcL f mt me Ew ds p2 with
          | none => none
          | some (ys, p3) => some (y :: ys, p3)
def mLc (vs : List Nat) (src : AM) (f : TM) (mt : BM) (me : EM) : AM := fun E pl => match src E pl with
  | none => none
  | some (ds, p) => bM (sized ds.length) (lcL f mt me (wipeE E vs) ds p) none
theorem LS.lc {wi : TI} {g : TG} {tt : TT} {te : TE} {src : AM} {f : TM} {mt : BM} {me : EM} {vs sl : List Nat} (si : IS K wi src) (sg : GE K g f sl) (st : BS K tt mt) (se : ES K te me) (hv : ∀ i ∈ sl, i ∈ vs) : LS K (tLc wi g tt te vs) (mLc vs src f mt me) := fun pp S H σ E pl xs pl' Q I e q => by
  unfold mLc at e
  cases hsrc : src E pl with
  | none => rw [hsrc] at e; cases e
  | some r =>
    obtain ⟨ds, p⟩ := r
    rw [hsrc] at e
    dsimp only at e
    cases hz : sized ds.length with
    | false => rw [hz] at e; cases e
    | true =>
      rw [hz, bM_t] at e
      refine si pp S H σ E pl ds p _ I hsrc fun J S1 H1 I1 a1 j1 => ?_
      intro Dl hD
      have sD : S1 Dl = none := by
        cases z : S1 Dl with
        | none => rfl
        | some o => rw [I1.sub _ _ z] at hD; cases hD
      have nD : ∀ sc, pp ≠ some (Dl, sc) := fun sc z => by
        obtain ⟨⟨o, h⟩, _⟩ := I1.pin Dl sc z
        rw [hD] at h; cases h
      refine ⟨fun i n H' => ∃ S' pl2 acc accV, n = ds.length - i ∧ i ≤ ds.length ∧ ER K pp S' H' (wipe σ vs) (wipeE E vs) pl2 ∧ Ad pp S1 H1 S' H' ∧ S' Dl = none ∧ H' Dl = some (.lst accV) ∧ RpL K S' acc accV ∧ acc.length ≤ i ∧ ∃ rest, lcL f mt me (wipeE E vs) (ds.drop i) pl2 = some (rest, pl') ∧ xs = acc ++ rest, ⟨ds.length, S1, p, [], [], by simp, Nat.zero_le _, ?_, ?_, sD, upd_same, RpL.nil, Nat.le_refl _, xs, by simpa using e, rfl⟩, ?_⟩
      · obtain ⟨nw, _⟩ := nw_lst (vs := []) I1 hD
        exact (I1.nw nw).wiped vs
      · obtain ⟨nw, _⟩ := nw_lst (vs := []) I1 hD
        exact nw.ad
      · rintro i n H' ⟨S', pl2, acc, accV, rfl, hi, I2, a2, sD', hD', rA, hl, rest, e3, ex⟩
        by_cases hlt : i < ds.length
        · right
          have hd : ds.drop i = ds[i] :: ds.drop (i + 1) := List.drop_eq_getElem_cons hlt
          rw [hd] at e3
          unfold lcL at e3
          obtain ⟨go, yld⟩ := j1.go i ds[i] S' H' a2.s I2.sub (List.getElem?_eq_getElem hlt)
          refine ⟨go, fun H2 => ∃ S2 pl3 acc accV, ER K pp S2 H2 (wipe σ vs) (wipeE E vs) pl3 ∧ Ad pp S1 H1 S2 H2 ∧ S2 Dl = none ∧ H2 Dl = some (.lst accV) ∧ RpL K S2 acc accV ∧ acc.length ≤ i + 1 ∧ ∃ rest, lcL f mt me (wipeE E vs) (ds.drop (i + 1)) pl3 = some (rest, pl') ∧ xs = acc ++ rest, fun H2 ⟨S2, pl3, acc, accV, k⟩ => ⟨ds.length - (i + 1), by omega, S2, pl3, acc, accV, rfl, hlt, k⟩, fun x H2 y => ?_⟩
          obtain ⟨S2, nw, rx⟩ := yld x H2 y
          have sD2 : S2 Dl = none := by
            cases z : S2 Dl with
            | none => rfl
            | some o =>
              rcases nw.n Dl o z with w | w
              · rw [w] at sD'; cases sD'
              · rw [w] at hD'; cases hD'
          cases hg : f ds[i] (wipeE E vs) with
          | none => rw [hg] at e3; cases e3
          | some E1 =>
            rw [hg] at e3
            dsimp only at e3
            refine sg pp S2 H2 (wipe σ vs) (wipeE E vs) pl2 ds[i] x E1 _ (I2.nw nw) rx hg fun σ3 I3 w3 => ⟨?_, ?_⟩
            · rw [w3 vs hv]
              apply List.ext_getElem?
              intro j
              rw [wipe_get, wipe_get]
              by_cases z : j ∈ vs
              · rw [if_pos z, if_pos z]; cases σ[j]? <;> rfl
              · rw [if_neg z]
            · cases ht : mt E1 pl2 with
              | none => rw [ht] at e3; cases e3
              | some r =>
                obtain ⟨b, p3⟩ := r
                rw [ht] at e3
                refine st pp S2 H2 σ3 E1 pl2 b p3 _ I3 ht fun S3 H3 I4 a4 => ?_
                have hD3 : H3 Dl = some (.lst accV) := a4.h Dl _ (nw.h _ _ hD') nD
                have sD3 : S3 Dl = none := by
                  cases z : S3 Dl with
                  | none => rfl
                  | some o =>
                    rcases a4.n Dl o z with w | w
                    · rw [w] at sD2; cases sD2
                    · rw [nw.h _ _ hD'] at w; cases w
                have back : ∀ {S5 H5 : Hp} {p5 : Option Pl}, ER K pp S5 H5 σ3 E1 p5 → Sb S2 S5 → ER K pp S5 H5 (wipe σ vs) (wipeE E vs) p5 := fun {S5 H5 p5} I5 s5 =>
                  ⟨I5.sub, by rw [wipeE_len, wipe_length]; exact I.len, fun j sl' e' => ((I2.nw nw).env j sl' e').mono s5, I5.pin, I5.pool, I5.npp⟩
                cases b with
                | false =>
                  rw [if_neg (by decide)]
                  dsimp only at e3
                  exact ⟨S3, p3, acc, accV, back I4 a4.s, (a2.trans nw.ad).trans a4, sD3, hD3, rA.mono (nw.s.trans a4.s), by omega, rest, e3, ex⟩
                | true =>
                  rw [if_pos rfl]
                  dsimp only at e3
                  cases hm : me E1 p3 with
                  | none => rw [hm] at e3; cases e3
                  | some r =>
                    obtain ⟨y, p4⟩ := r
                    rw [hm] at e3
                    dsimp only at e3
                    cases hr : lcL f mt me (wipeE E vs) (ds.drop (i + 1)) p4 with
                    | none => rw [hr] at e3; cases e3
                    | some r =>
                      obtain ⟨ys, p5⟩ := r
                      rw [hr] at e3
                      cases e3
                      refine se pp S3 H3 σ3 E1 p3 y p4 _ I4 hm fun v S4 H4 I5 a5 r5 => ?_
                      have hD4 : H4 Dl = some (.lst accV) := a5.h Dl _ hD3 nD
                      have sD4 : S4 Dl = none := by
                        cases z : S4 Dl with
                        | none => rfl
                        | some o =>
                          rcases a5.n Dl o z with w | w
                          · rw [w] at sD3; cases sD3
                          · rw [hD3] at w; cases w
                      have hsz : accV.length < sizeLine := by
                        rw [rA.len]
                        have := of_decide_eq_true (show decide (ds.length ≤ 1000000) = true from hz)
                        exact sized_lt (n := acc.length) (decide_eq_true (by omega))
                      refine ⟨accV, hD4, hsz, S4, p4, acc ++ [y], accV ++ [v], ?_, ?_, sD4, upd_same, (rA.mono (nw.s.trans (a4.s.trans a5.s))).append (RpL.cons r5 RpL.nil), by rw [List.length_append, List.length_singleton]; omega, ys, hr, by rw [ex, List.append_assoc]; rfl⟩
                      · have I6 := back I5 (a4.s.trans a5.s)
                        refine ⟨fun a o e' => ?_, I6.len, I6.env, fun b sc e' => ?_, fun P e' => ?_, I6.npp⟩
                        · have ne : a ≠ Dl := fun z => by rw [z, sD4] at e'; cases e'
                          rw [upd_ne ne]; exact I6.sub a o e'
                        · obtain ⟨⟨o, h1⟩, h2⟩ := I6.pin b sc e'
                          have ne : b ≠ Dl := fun z => nD sc (z ▸ e')
                          exact ⟨⟨o, by rw [upd_ne ne]; exact h1⟩, h2⟩
                        · obtain ⟨b, sc, k1, k2, k3⟩ := I6.pool P e'
                          have ne : b ≠ Dl := fun z => nD sc (z ▸ k1)
                          exact ⟨b, sc, k1, by rw [upd_ne ne]; exact k2, k3⟩
                      · have a6 := ((a2.trans nw.ad).trans a4).trans a5
                        refine ⟨a6.s, fun a o e' n' => ?_, fun a o e' => ?_, a6.n⟩
                        · have ne : a ≠ Dl := fun z => by rw [z, hD] at e'; cases e'
                          rw [upd_ne ne]; exact a6.h a o e' n'
                        · have ne : a ≠ Dl := fun z => by rw [z, hD] at e'; cases e'
                          rw [upd_ne ne]; exact a6.t a o e'
        · left
          have ei : i = ds.length := by omega
          subst ei
          rw [List.drop_length] at e3
          unfold lcL at e3
          cases e3
          rw [List.append_nil] at ex
          subst ex
          refine ⟨j1.stop _ S' H' a2.s I2.sub (Nat.le_refl _), ?_⟩
          refine q Dl accV S' H' ⟨I2.sub, I.len, fun j sl' e' => (I1.env j sl' e').mono a2.s, I2.pin, I2.pool, I2.npp⟩ (a1.trans a2) (none_ad a1 hD) sD' hD' rA
theorem lf_lc {X : Cx} {elt tg iter : Expr} {ifs : List Expr} {scope : Scope} {own : List (Str × Nat)} {pos : Pos} {src : AM} {f : TM} {mt : BM} {me : EM} {sl : List Nat} (hc : X.calm = true) (hN : X.N.Nodup) (ok : BlkOk X.N X.env.scope scope own) (hi : IF X tg iter src)
    (hg : ∀ (s : Shared) (H : Hp) (C : Addr) (cl : List (Str × Addr)) (fp : List Addr), GEF (X.blk s H scope (compEnvC scope cl C X.env) fp) tg f sl)
    (ht : ∀ (s : Shared) (H : Hp) (C : Addr) (cl : List (Str × Addr)) (fp : List Addr), TsF (X.blk s H scope (compEnvC scope cl C X.env) fp) ifs mt)
    (he : ∀ (s : Shared) (H : Hp) (C : Addr) (cl : List (Str × Addr)) (fp : List Addr), EF (X.blk s H scope (compEnvC scope cl C X.env) fp) elt me)
    (hv : ∀ i ∈ sl, i ∈ own.map (·.2)) (hs : ∀ x, foldedSetIterable iter X.env x = pure x := by intro _; rfl) : LF X (.ListComp elt [⟨tg, iter, ifs, 0⟩] scope pos) (mLc (own.map (·.2)) src f mt me) := by
  obtain ⟨w, p, s⟩ := hi
  exact ⟨_, pe_lc hc hN p ok (fun s H C cl fp => (hg s H C cl fp).can) (fun s H C cl fp => (ht s H C cl fp).can) (fun s H C cl fp => (he s H C cl fp).can) hs, LS.lc s (GE.can f sl) (BS.can mt) (ES.can me) hv⟩
/-- x = [..] on one line, x a local -/
theorem asl_lc {X : Cx} {i : Nat} {y : Str} {py : Pos} {elt tg iter : Expr} {ifs : List Expr} {scope : Scope} {own : List (Str × Nat)} {pos spos : Pos} {src : AM} {f : TM} {mt : BM} {me : EM} {sl : List Nat} (hc : X.calm = true) (hN : X.N.Nodup) (hy : X.N[i]? = some y) (hyl : X.env.scope.names.lookup y = some .local)
    (hsw : swapsWith (.ListComp elt [⟨tg, iter, ifs, 0⟩] scope pos) (some (.Name y py)) spos.line X.env = pure true) (ok : BlkOk X.N X.env.scope scope own) (hi : IF X tg iter src)
    (hg : ∀ (s : Shared) (H : Hp) (C : Addr) (cl : List (Str × Addr)) (fp : List Addr), GEF (X.blk s H scope (compEnvC scope cl C X.env) fp) tg f sl)
    (ht : ∀ (s : Shared) (H : Hp) (C : Addr) (cl : List (Str × Addr)) (fp : List Addr), TsF (X.blk s H scope (compEnvC scope cl C X.env) fp) ifs mt)
    (he : ∀ (s : Shared) (H : Hp) (C : Addr) (cl : List (Str × Addr)) (fp : List Addr), EF (X.blk s H scope (compEnvC scope cl C X.env) fp) elt me)
    (hv : ∀ i ∈ sl, i ∈ own.map (·.2)) (hs : ∀ x, foldedSetIterable iter X.env x = pure x := by intro _; rfl) : AsL X (.Assign [.Name y py] (.ListComp elt [⟨tg, iter, ifs, 0⟩] scope pos) spos) i (mLc (own.map (·.2)) src f mt me) := by
  obtain ⟨w, p, s⟩ := hi
  exact ⟨_, ps_setLc hc hN hy hyl hsw p ok (fun s H C cl fp => (hg s H C cl fp).can) (fun s H C cl fp => (ht s H C cl fp).can) (fun s H C cl fp => (he s H C cl fp).can) hs, LS.lc s (GE.can f sl) (BS.can mt) (ES.can me) hv⟩
end
end Dn
set_option Elab.async false
set_option linter.all false
set_option maxRecDepth 100000
set_option maxHeartbeats 2000000
namespace Dn
open PySem PySem.Spec PyProof.Rows L2

/-! ### more built-ins -/
section
variable {X : Cx} {K : PySem.W.Frag}
def CallL (X : Cx) (f : Value) (g : List D → Option (List D)) : Prop := ∃ r, CallR X f r ∧ RDL X.K r g
theorem LS.call {r : List V → Hp → VK → Prop} {g : List D → Option (List D)} {t : TA} {m : AM} (hr : RDL K r g) (ha : AS K t m) : LS K (tCB r t) (mCallL g m) := fun pp S H σ E pl d pl' Q I e q => by
  obtain ⟨x, p1, e1, e⟩ := seqM_some e
  obtain ⟨e3, rfl⟩ := lftM_some e
  refine ha pp S H σ E pl x _ _ I e1 fun v S1 H1 I1 a1 r1 => ?_
  exact hr S1 H1 x d v Q I1.sub r1 e3 fun p vs S3 H3 a3 h1 h2 h3 r3 => q p vs S3 H3 (I1.nw a3) (a1.trans a3.ad) (none_ad a1 h1) h2 h3 r3
theorem lf_callB {x : Str} {id : String} {g : List D → Option (List D)} {p pos : Pos} {e : Expr} {es : List Expr} {m : AM} (hc : CallL X (.builtin id) g) (hg : Gl X x) (hm : X.mg x = none) (hv : bootBuiltins x = some (.builtin id)) (ha : AF X (e :: es) m) (hn : x ≠ "__name__" := by decide) (hdb : (x == ("__debug__" : Str)) = false := by decide)
    (he : nst e = true := by rfl) (hpl : nsts es = true := by rfl) : LF X (.Call (.Name x p) (e :: es) [] pos) (mCallL g m) := by
  obtain ⟨r, q, s⟩ := hc
  obtain ⟨t, p1, s1⟩ := ha
  exact ⟨_, pe_callB q hg hm hv p1 hn hdb (star_nst he) (back_nst hpl), LS.call s s1⟩
theorem lf_callTy {x : Str} {T : String} {g : List D → Option (List D)} {p pos : Pos} {e : Expr} {es : List Expr} {m : AM} (hc : CallL X (.type T) g) (hg : Gl X x) (hm : X.mg x = none) (hv : bootBuiltins x = some (.type T)) (ha : AF X (e :: es) m) (hn : x ≠ "__name__" := by decide) (hdb : (x == ("__debug__" : Str)) = false := by decide)
    (he : nst e = true := by rfl) (hpl : nsts es = true := by rfl) : LF X (.Call (.Name x p) (e :: es) [] pos) (mCallL g m) := by
  obtain ⟨r, q, s⟩ := hc
  obtain ⟨t, p1, s1⟩ := ha
  exact ⟨_, pe_callTy q hg hm hv p1 hn hdb (star_nst he) (back_nst hpl), LS.call s s1⟩
/-- list(x) -/
def gList : List D → Option (List D)
  | [.lst xs] => some xs
  | [.tup xs] => some xs
  | [.scr ns] => some (ns.map D.int)
  | _ => none
theorem sb_none {S H : Hp} (e : Sb S H) {p : Addr} (h : H p = none) : S p = none := by
  cases z : S p with
  | none => rfl
  | some o => rw [e _ _ z] at h; cases h
theorem nw_new {S H : Hp} (hs : Sb S H) {p : Addr} (hp : H p = none) {o : HO} : Nw S H S (upd H p o) := ⟨hs.trans (sb_upd hp), Sb.refl _, sb_upd hp, fun _ _ h => .inl h⟩
theorem cl_list : CallL X (.type "list") gList := ⟨_, call_list_of, fun S H a d v Q hs ra e q => by
  unfold gList at e
  split at e <;> cases e
  · obtain ⟨v, rfl, h1⟩ := rpl_one ra
    rw [rp_lst] at h1
    obtain ⟨p, vs, rfl, h1, h2⟩ := h1
    exact ⟨p, vs, rfl, .inl (.inl (.inl (hs _ _ h1))), fun l hl => q l vs S _ (nw_new hs hl) hl (sb_none hs hl) upd_same h2⟩
  · obtain ⟨v, rfl, h1⟩ := rpl_one ra
    rw [rp_tup] at h1
    obtain ⟨p, vs, rfl, h1, h2⟩ := h1
    exact ⟨p, vs, rfl, .inr (sb_t hs h1), fun l hl => q l vs S _ (nw_new hs hl) hl (sb_none hs hl) upd_same h2⟩
  · obtain ⟨v, rfl, h1⟩ := rpl_one ra
    rw [rp_scr] at h1
    obtain ⟨p, rfl, h1⟩ := h1
    exact ⟨p, _, rfl, .inl (sb_l hs h1), fun l hl => q l _ S _ (nw_new hs hl) hl (sb_none hs hl) upd_same (RpL.ints _)⟩⟩
/-- tuple(x) -/
def gTuple : List D → Option D
  | [.lst xs] => some (.tup xs)
  | [.tup xs] => some (.tup xs)
  | _ => none
theorem cd_tuple : CallD X (.type "tuple") gTuple := ⟨_, call_tuple_of, fun S H a d v Q hs ra e q => by
  unfold gTuple at e
  split at e <;> cases e
  · obtain ⟨v, rfl, h1⟩ := rpl_one ra
    rw [rp_lst] at h1
    obtain ⟨p, vs, rfl, h1, h2⟩ := h1
    refine ⟨p, vs, rfl, .inl ⟨.inl (.inl (hs _ _ h1)), fun l hl => ?_⟩⟩
    have nw := Nw.new (o := .tup vs) hs hl
    exact q _ _ _ nw (rp_tup.mpr ⟨l, vs, rfl, SqT.of upd_same, h2.mono nw.s⟩)
  · obtain ⟨v, rfl, h1⟩ := rpl_one ra
    have h0 := h1
    rw [rp_tup] at h1
    obtain ⟨p, vs, rfl, h1, h2⟩ := h1
    exact ⟨p, vs, rfl, .inr ⟨sb_t hs h1, q _ _ _ (Nw.refl hs) h0⟩⟩⟩
/-- the data that are all ints, all bools -/
def intsOf : List D → Option (List Int)
  | [] => some []
  | .int i :: r => (intsOf r).map (i :: ·)
  | _ => none
def blsOf : List D → Option (List Bool)
  | [] => some []
  | .bl i :: r => (blsOf r).map (i :: ·)
  | _ => none
theorem intsOf_eq : ∀ {ds : List D} {is : List Int}, intsOf ds = some is → ds = is.map D.int
  | [], is, h => by cases h; rfl
  | d :: ds, is, h => by
    unfold intsOf at h
    split at h <;> try cases h
    · rename_i z; cases z
    · rename_i i r z
      cases z
      cases w : intsOf ds with
      | none => rw [w] at h; cases h
      | some x => rw [w] at h; cases h; rw [List.map_cons, ← intsOf_eq w]
theorem blsOf_eq : ∀ {ds : List D} {is : List Bool}, blsOf ds = some is → ds = is.map D.bl
  | [], is, h => by cases h; rfl
  | d :: ds, is, h => by
    unfold blsOf at h
    split at h <;> try cases h
    · rename_i z; cases z
    · rename_i i r z
      cases z
      cases w : blsOf ds with
      | none => rw [w] at h; cases h
      | some x => rw [w] at h; cases h; rw [List.map_cons, ← blsOf_eq w]
@[simp] theorem intsOf_map : ∀ is : List Int, intsOf (is.map D.int) = some is
  | [] => rfl
  | i :: is => by rw [List.map_cons]; unfold intsOf; rw [intsOf_map is]; rfl
@[simp] theorem blsOf_map : ∀ is : List Bool, blsOf (is.map D.bl) = some is
  | [] => rfl
  | i :: is => by rw [List.map_cons]; unfold blsOf; rw [blsOf_map is]; rfl
theorem rpl_ints {S : Hp} : ∀ {is : List Int} {vs : List V}, RpL K S (is.map D.int) vs → vs = is.map V.int
  | [], vs, h => h.nil_inv
  | i :: is, vs, h => by
    obtain ⟨v, r, rfl, h1, h2⟩ := h.cons_inv
    rw [rp_int] at h1; subst h1
    rw [rpl_ints h2]; rfl
theorem rpl_bls {S : Hp} : ∀ {is : List Bool} {vs : List V}, RpL K S (is.map D.bl) vs → vs = is.map V.bl
  | [], vs, h => h.nil_inv
  | i :: is, vs, h => by
    obtain ⟨v, r, rfl, h1, h2⟩ := h.cons_inv
    rw [rp_bl] at h1; subst h1
    rw [rpl_bls h2]; rfl
theorem RpL.bls {S : Hp} : ∀ (is : List Bool), RpL K S (is.map D.bl) (is.map V.bl)
  | [] => RpL.nil
  | i :: is => RpL.cons (rp_bl.mpr rfl) (RpL.bls is)
def gAny : List D → Option D | [.lst xs] => (blsOf xs).map fun b => .bl (b.any id) | _ => none
def gAll : List D → Option D | [.lst xs] => (blsOf xs).map fun b => .bl (b.all id) | _ => none
def gSum : List D → Option D | [.lst xs] => (intsOf xs).map fun b => .int b.sum | _ => none
theorem omap {α β : Type} {o : Option α} {f : α → β} {b : β} (h : o.map f = some b) : ∃ a, o = some a ∧ f a = b := by
  cases o with
  | none => cases h
  | some a => cases h; exact ⟨a, rfl, rfl⟩
theorem cd_any (hc : X.calm = true) : CallD X (.builtin "any") gAny := ⟨_, cr_any hc, fun S H a d v Q hs ra e q => by
  unfold gAny at e
  split at e <;> try cases e
  obtain ⟨bs, e1, rfl⟩ := omap e
  obtain ⟨v, rfl, h1⟩ := rpl_one ra
  rw [rp_lst] at h1
  obtain ⟨p, vs, rfl, h1, h2⟩ := h1
  rw [blsOf_eq e1] at h2
  rw [rpl_bls h2] at h1
  exact ⟨p, bs, rfl, .inl (.inl (hs _ _ h1)), q _ S H (Nw.refl hs) (rp_bl.mpr rfl)⟩⟩
theorem cd_all (hc : X.calm = true) : CallD X (.builtin "all") gAll := ⟨_, cr_all hc, fun S H a d v Q hs ra e q => by
  unfold gAll at e
  split at e <;> try cases e
  obtain ⟨bs, e1, rfl⟩ := omap e
  obtain ⟨v, rfl, h1⟩ := rpl_one ra
  rw [rp_lst] at h1
  obtain ⟨p, vs, rfl, h1, h2⟩ := h1
  rw [blsOf_eq e1] at h2
  rw [rpl_bls h2] at h1
  exact ⟨p, bs, rfl, .inl (.inl (hs _ _ h1)), q _ S H (Nw.refl hs) (rp_bl.mpr rfl)⟩⟩
theorem cd_sum (hc : X.calm = true) : CallD X (.builtin "sum") gSum := ⟨_, cr_sum hc, fun S H a d v Q hs ra e q => by
  unfold gSum at e
  split at e <;> try cases e
  obtain ⟨bs, e1, rfl⟩ := omap e
  obtain ⟨v, rfl, h1⟩ := rpl_one ra
  rw [rp_lst] at h1
  obtain ⟨p, vs, rfl, h1, h2⟩ := h1
  rw [intsOf_eq e1] at h2
  rw [rpl_ints h2] at h1
  exact ⟨p, bs, rfl, .inl (.inl (hs _ _ h1)), q _ S H (Nw.refl hs) (rp_int.mpr rfl)⟩⟩
/-- the greatest, the least of ints -/
def maxI : List Int → Option Int
  | [] => none
  | x :: xs => some (xs.foldl (fun a b => if b > a then b else a) x)
def minI : List Int → Option Int
  | [] => none
  | x :: xs => some (xs.foldl (fun a b => if b < a then b else a) x)
theorem foldmax : ∀ (xs : List Int) (x : Int), x ≤ xs.foldl (fun a b => if b > a then b else a) x ∧ (∀ y ∈ xs, y ≤ xs.foldl (fun a b => if b > a then b else a) x) ∧ xs.foldl (fun a b => if b > a then b else a) x ∈ x :: xs
  | [], x => ⟨Int.le_refl _, by simp, by simp⟩
  | y :: xs, x => by
    obtain ⟨h1, h2, h3⟩ := foldmax xs (if y > x then y else x)
    rw [List.foldl_cons]
    generalize List.foldl (fun a b => if b > a then b else a) (if y > x then y else x) xs = m at *
    refine ⟨?_, fun z hz => ?_, ?_⟩
    · split at h1 <;> omega
    · rcases List.mem_cons.mp hz with e | e
      · subst e; split at h1 <;> omega
      · exact h2 z e
    · rcases List.mem_cons.mp h3 with e | e
      · split at e <;> simp [e]
      · simp [e]
theorem foldmin : ∀ (xs : List Int) (x : Int), xs.foldl (fun a b => if b < a then b else a) x ≤ x ∧ (∀ y ∈ xs, xs.foldl (fun a b => if b < a then b else a) x ≤ y) ∧ xs.foldl (fun a b => if b < a then b else a) x ∈ x :: xs
  | [], x => ⟨Int.le_refl _, by simp, by simp⟩
  | y :: xs, x => by
    obtain ⟨h1, h2, h3⟩ := foldmin xs (if y < x then y else x)
    rw [List.foldl_cons]
    generalize List.foldl (fun a b => if b < a then b else a) (if y < x then y else x) xs = m at *
    refine ⟨?_, fun z hz => ?_, ?_⟩
    · split at h1 <;> omega
    · rcases List.mem_cons.mp hz with e | e
      · subst e; split at h1 <;> omega
      · exact h2 z e
    · rcases List.mem_cons.mp h3 with e | e
      · split at e <;> simp [e]
      · simp [e]
def gMaxL : List D → Option D | [.lst xs] => (intsOf xs).bind fun b => (maxI b).map D.int | _ => none
def gMinL : List D → Option D | [.lst xs] => (intsOf xs).bind fun b => (minI b).map D.int | _ => none
theorem cd_maxL (hc : X.calm = true) : CallD X (.builtin "max") gMaxL := ⟨_, cr_max hc, fun S H a d v Q hs ra e q => by
  unfold gMaxL at e
  split at e <;> try cases e
  obtain ⟨bs, e1, e⟩ := Option.bind_eq_some_iff.mp e
  obtain ⟨v, rfl, h1⟩ := rpl_one ra
  rw [rp_lst] at h1
  obtain ⟨p, vs, rfl, h1, h2⟩ := h1
  rw [intsOf_eq e1] at h2
  rw [rpl_ints h2] at h1
  cases bs with
  | nil => cases e
  | cons x xs =>
    obtain ⟨m, e2, rfl⟩ := omap e
    cases e2
    refine ⟨p, x :: xs, rfl, .inl (.inl (hs _ _ h1)), by simp, fun m hm hy => ?_⟩
    obtain ⟨k1, k2, k3⟩ := foldmax xs x
    have : m = xs.foldl (fun a b => if b > a then b else a) x := by
      apply Int.le_antisymm
      · rcases List.mem_cons.mp hm with e | e
        · rw [e]; exact k1
        · exact k2 m e
      · exact hy _ k3
    rw [this]
    exact q _ S H (Nw.refl hs) (rp_int.mpr rfl)⟩
theorem cd_minL (hc : X.calm = true) : CallD X (.builtin "min") gMinL := ⟨_, cr_min hc, fun S H a d v Q hs ra e q => by
  unfold gMinL at e
  split at e <;> try cases e
  obtain ⟨bs, e1, e⟩ := Option.bind_eq_some_iff.mp e
  obtain ⟨v, rfl, h1⟩ := rpl_one ra
  rw [rp_lst] at h1
  obtain ⟨p, vs, rfl, h1, h2⟩ := h1
  rw [intsOf_eq e1] at h2
  rw [rpl_ints h2] at h1
  cases bs with
  | nil => cases e
  | cons x xs =>
    obtain ⟨m, e2, rfl⟩ := omap e
    cases e2
    refine ⟨p, x :: xs, rfl, .inl (.inl (hs _ _ h1)), by simp, fun m hm hy => ?_⟩
    obtain ⟨k1, k2, k3⟩ := foldmin xs x
    have : m = xs.foldl (fun a b => if b < a then b else a) x := by
      apply Int.le_antisymm
      · exact hy _ k3
      · rcases List.mem_cons.mp hm with e | e
        · rw [e]; exact k1
        · exact k2 m e
    rw [this]
    exact q _ S H (Nw.refl hs) (rp_int.mpr rfl)⟩
/-! slices -/
abbrev OM := Env → Option Pl → Option (Option Int × Option Pl)
def OS (K : PySem.W.Frag) (t : TO) (m : OM) : Prop := ∀ pp S H σ E pl d pl' (Q : Option Int → Hp → Prop), ER K pp S H σ E pl → m E pl = some (d, pl') → (∀ S' H', ER K pp S' H' σ E pl' → Ad pp S H S' H' → Q d H') → t σ H Q
def OF (X : Cx) (e : Option Expr) (m : OM) : Prop := ∃ t, PO X e t ∧ OS X.K t m
def oNo : OM := oks none
def intD : D → Option Int | .int i => some i | _ => none
def oSome (m : EM) : OM := seqM m fun x => lftM ((intD x).map some)
theorem of_none : OF X none oNo := ⟨_, po_none, fun pp S H σ E pl d pl' Q I e q => by
  obtain ⟨rfl, rfl⟩ := oks_some e
  exact q S H I Ad.refl⟩
theorem of_some {e : Expr} {m : EM} (h : EF X e m) : OF X (some e) (oSome m) := by
  obtain ⟨t, p, s⟩ := h
  refine ⟨_, po_some p, fun pp S H σ E pl d pl' Q I e q => ?_⟩
  obtain ⟨x, p1, e1, e⟩ := seqM_some e
  obtain ⟨e3, rfl⟩ := lftM_some e
  obtain ⟨i, e4, rfl⟩ := omap e3
  refine s pp S H σ E pl x _ _ I e1 fun v S1 H1 I1 a1 r1 => ?_
  unfold intD at e4
  split at e4 <;> cases e4
  rw [rp_int] at r1
  exact ⟨_, r1, q S1 H1 I1 a1⟩
/-- xs[lo:hi] of a list of anything -/
def cutD {α : Type} (xs : List α) (lo hi : Option Int) : List α := (xs.drop (HT.sIx xs.length 0 lo)).take (HT.sIx xs.length xs.length hi - HT.sIx xs.length 0 lo)
def dSl : D → Option Int → Option Int → Option D
  | .lst xs, lo, hi => some (.lst (cutD xs lo hi))
  | .tup xs, lo, hi => some (.tup (cutD xs lo hi))
  | .str z, lo, hi => if sized z.length then some (.str (cutS z lo hi)) else none
  | .scr ns, lo, hi => some (.lst ((cutD ns lo hi).map D.int))
  | _, _, _ => none
def mSl (m : EM) (lo hi : OM) : EM := seqM m fun x => seqM lo fun l => seqM hi fun h => lftM (dSl x l h)
theorem RpL.cut {S : Hp} {ds : List D} {vs : List V} (r : RpL K S ds vs) (lo hi : Option Int) : RpL K S (cutD ds lo hi) (cutV vs lo hi) := by
  unfold cutD cutV
  rw [r.len]
  exact (r.drop _).take _
theorem cut_map {α β : Type} (f : α → β) (xs : List α) (lo hi : Option Int) : cutD (xs.map f) lo hi = (cutD xs lo hi).map f := by
  unfold cutD
  rw [List.length_map, ← List.map_drop, ← List.map_take]
theorem ef_sl {e : Expr} {lo hi : Option Expr} {m : EM} {l h : OM} {pos p2 : Pos} (he : EF X e m) (hl : OF X lo l) (hh : OF X hi h) : EF X (.Subscript e (.Slice lo hi none p2) pos) (mSl m l h) := by
  obtain ⟨t, p, s⟩ := he
  obtain ⟨tl, pl, sl⟩ := hl
  obtain ⟨th, ph, sh⟩ := hh
  refine ⟨_, pe_slice ((sl_list.or sl_tupA).or sl_str) p pl ph, fun pp S H σ E pl d pl' Q I e q => ?_⟩
  obtain ⟨x, p1, e1, e⟩ := seqM_some e
  obtain ⟨y, p2, e2, e⟩ := seqM_some e
  obtain ⟨z, p3, e3, e⟩ := seqM_some e
  obtain ⟨e4, rfl⟩ := lftM_some e
  refine s pp S H σ E pl x _ _ I e1 fun v S1 H1 I1 a1 r1 => ?_
  refine sl pp S1 H1 σ E p1 y _ _ I1 e2 fun S2 H2 I2 a2 => ?_
  refine sh pp S2 H2 σ E p2 z _ _ I2 e3 fun S3 H3 I3 a3 => ?_
  have r3 := r1.mono (a2.s.trans a3.s)
  have a := (a1.trans a2).trans a3
  unfold dSl at e4
  split at e4
  · cases e4
    rw [rp_lst] at r3
    obtain ⟨b, vs, rfl, g1, g2⟩ := r3
    refine .inl (.inl ⟨b, vs, rfl, .inl (.inl (I3.sub _ _ g1)), fun p hp => ?_⟩)
    have nw := Nw.new (o := .lst (cutV vs y z)) I3.sub hp
    exact q _ _ _ (I3.nw nw) (a.trans nw.ad) (rp_lst.mpr ⟨p, _, rfl, upd_same, (g2.cut y z).mono nw.s⟩)
  · cases e4
    have r0 := r3
    rw [rp_tup] at r3
    obtain ⟨b, vs, rfl, g1, g2⟩ := r3
    refine .inl (.inr ⟨b, vs, rfl, sb_t I3.sub g1, fun w => ?_, fun _ p hp => ?_⟩)
    · have : ∀ xs : List D, RpL X.K S3 xs vs → cutD xs y z = xs := fun xs g => by
        unfold cutD
        rw [← g.len]
        rw [w.1, w.2, g.len]; simp
      refine q _ _ _ I3 a ?_
      rw [this _ g2]
      exact r0
    · have nw := Nw.new (o := .tup (cutV vs y z)) I3.sub hp
      exact q _ _ _ (I3.nw nw) (a.trans nw.ad) (rp_tup.mpr ⟨p, _, rfl, SqT.of upd_same, (g2.cut y z).mono nw.s⟩)
  · split at e4 <;> cases e4
    rw [rp_str] at r3; subst r3
    exact .inr ⟨_, rfl, sized_le (by assumption), q _ S3 H3 I3 a (rp_str.mpr rfl)⟩
  · cases e4
    rw [rp_scr] at r3
    obtain ⟨b, rfl, g1⟩ := r3
    refine .inl (.inl ⟨b, _, rfl, sb_l I3.sub g1, fun p hp => ?_⟩)
    have nw := Nw.new (o := .lst (cutV (List.map V.int ‹List Int›) y z)) I3.sub hp
    refine q _ _ _ (I3.nw nw) (a.trans nw.ad) (rp_lst.mpr ⟨p, _, rfl, upd_same, ?_⟩)
    rw [← cut_map]
    exact (RpL.ints _).cut y z
  · cases e4
/-- .. a new list -/
def dSlL : D → Option Int → Option Int → Option (List D)
  | .lst xs, lo, hi => some (cutD xs lo hi)
  | .scr ns, lo, hi => some ((cutD ns lo hi).map D.int)
  | _, _, _ => none
def mSlL (m : EM) (lo hi : OM) : AM := seqM m fun x => seqM lo fun l => seqM hi fun h => lftM (dSlL x l h)
theorem lf_sl {e : Expr} {lo hi : Option Expr} {m : EM} {l h : OM} {pos p2 : Pos} (he : EF X e m) (hl : OF X lo l) (hh : OF X hi h) : LF X (.Subscript e (.Slice lo hi none p2) pos) (mSlL m l h) := by
  obtain ⟨t, p, s⟩ := he
  obtain ⟨tl, pl, sl⟩ := hl
  obtain ⟨th, ph, sh⟩ := hh
  refine ⟨_, pe_slice sl_list p pl ph, fun pp S H σ E pl d pl' Q I e q => ?_⟩
  obtain ⟨x, p1, e1, e⟩ := seqM_some e
  obtain ⟨y, p2, e2, e⟩ := seqM_some e
  obtain ⟨z, p3, e3, e⟩ := seqM_some e
  obtain ⟨e4, rfl⟩ := lftM_some e
  refine s pp S H σ E pl x _ _ I e1 fun v S1 H1 I1 a1 r1 => ?_
  refine sl pp S1 H1 σ E p1 y _ _ I1 e2 fun S2 H2 I2 a2 => ?_
  refine sh pp S2 H2 σ E p2 z _ _ I2 e3 fun S3 H3 I3 a3 => ?_
  have r3 := r1.mono (a2.s.trans a3.s)
  have a := (a1.trans a2).trans a3
  unfold dSlL at e4
  split at e4
  · cases e4
    rw [rp_lst] at r3
    obtain ⟨b, vs, rfl, g1, g2⟩ := r3
    exact ⟨b, vs, rfl, .inl (.inl (I3.sub _ _ g1)), fun p hp => q p _ S3 _ (I3.nw (nw_new I3.sub hp)) (a.trans (nw_new I3.sub hp).ad) (none_ad a hp) (sb_none I3.sub hp) upd_same (g2.cut y z)⟩
  · cases e4
    rw [rp_scr] at r3
    obtain ⟨b, rfl, g1⟩ := r3
    refine ⟨b, _, rfl, sb_l I3.sub g1, fun p hp => q p _ S3 _ (I3.nw (nw_new I3.sub hp)) (a.trans (nw_new I3.sub hp).ad) (none_ad a hp) (sb_none I3.sub hp) upd_same ?_⟩
    rw [← cut_map]
    exact (RpL.ints _).cut y z
  · cases e4
/-! enumerate -/
def enumD (i : Nat) : List D → List D
  | [] => []
  | x :: xs => .tup [.int i, x] :: enumD (i + 1) xs
theorem enumD_get : ∀ (xs : List D) (i j : Nat), (enumD i xs)[j]? = (xs[j]?).map fun x => D.tup [.int ((i + j : Nat) : Int), x]
  | [], i, j => by simp [enumD]
  | x :: xs, i, 0 => by simp [enumD]
  | x :: xs, i, j + 1 => by
    unfold enumD
    rw [List.getElem?_cons_succ, List.getElem?_cons_succ, enumD_get xs (i + 1) j, show i + 1 + j = i + (j + 1) by omega]
theorem enumD_len : ∀ (xs : List D) (i : Nat), (enumD i xs).length = xs.length
  | [], i => rfl
  | x :: xs, i => by unfold enumD; rw [List.length_cons, List.length_cons, enumD_len xs]
def enumI : List D → Option (List D)
  | [.lst xs] => some (enumD 0 xs)
  | _ => none
theorem js_enum {S : Hp} {a : Addr} {ds : List D} {vs : List V} (h : SqL K S a vs) (r : RpL K S ds vs) : JS K S (Ite K a) (enumD 0 ds) := by
  refine ⟨fun i d S' H h1 h2 h3 => ?_, fun i S' H h1 h2 h3 => ?_⟩
  · rw [enumD_get] at h3
    obtain ⟨x, e1, rfl⟩ := omap h3
    obtain ⟨v, g1, g2⟩ := r.get e1
    refine ⟨⟨vs, v, sb_l (h1.trans h2) h, g1⟩, fun y H' hy => ?_⟩
    obtain ⟨T, z, rfl, hT, rfl, hz⟩ := hy
    have := hz vs (sb_l (h1.trans h2) h)
    rw [g1] at this; cases this
    have nw := Nw.new (o := .tup [.int (i : Nat), v]) h2 hT
    refine ⟨_, nw, rp_tup.mpr ⟨T, _, rfl, SqT.of upd_same, RpL.cons (rp_int.mpr (by simp)) (RpL.cons (g2.mono (h1.trans nw.s)) RpL.nil)⟩⟩
  · rw [enumD_len] at h3
    exact ⟨vs, sb_l (h1.trans h2) h, by rw [r.len]; exact h3⟩
theorem if_enum {e : Expr} {m : AM} {p pos tpos : Pos} {elts : List Expr} {kk : Nat} (hg : Gl X "enumerate") (hm : X.mg "enumerate" = none) (ha : AF X [e] m) (hs : nst e = true := by rfl) : IF X (.Tuple elts kk tpos) (.Call (.Name "enumerate" p) [e] [] pos) (mRng enumI m) := by
  obtain ⟨t, pa, s⟩ := ha
  refine ⟨_, pi_enum hg hm pa (star_nst hs), fun pp S H σ E pl ds pl' R I e q => ?_⟩
  obtain ⟨x, q1, e1, f1⟩ := seqM_some e
  obtain ⟨e2, rfl⟩ := lftM_some f1
  refine s pp S H σ E pl x _ _ I e1 fun v S1 H1 J a1 r1 => ?_
  unfold enumI at e2
  split at e2 <;> cases e2
  obtain ⟨v, rfl, h1⟩ := rpl_one r1
  rw [rp_lst] at h1
  obtain ⟨a, vs, rfl, g1, g2⟩ := h1
  exact ⟨a, vs, rfl, .inl (.inl (J.sub _ _ g1)), q _ S1 H1 J a1 (js_enum (.inl (.inl g1)) g2)⟩
/-- sorted(ints) -/
def isort (xs : List Int) : List Int := xs.mergeSort (fun a b => decide (a ≤ b))
theorem isort_uniq {xs ys : List Int} (h : ys.Perm xs) (g : ys.Pairwise (· ≤ ·)) : ys = isort xs := by
  have h2 : (isort xs).Pairwise (· ≤ ·) := by
    have := List.pairwise_mergeSort (le := fun a b : Int => decide (a ≤ b)) (by intro a b c; simp; omega) (by intro a b; simp; omega) xs
    exact this.imp (by simp)
  exact List.Perm.eq_of_pairwise (le := fun a b : Int => a ≤ b) (by intro a b _ _ h1 h2; omega) g h2 (h.trans (List.mergeSort_perm xs _).symm)
def gSortI : List D → Option (List D) | [.lst xs] => (intsOf xs).map fun is => (isort is).map D.int | _ => none
theorem cl_sortI : CallL X (.builtin "sorted") gSortI := ⟨_, cr_sortedI, fun S H a d v Q hs ra e q => by
  unfold gSortI at e
  split at e <;> try cases e
  obtain ⟨bs, e1, rfl⟩ := omap e
  obtain ⟨v, rfl, h1⟩ := rpl_one ra
  rw [rp_lst] at h1
  obtain ⟨p, vs, rfl, h1, h2⟩ := h1
  rw [intsOf_eq e1] at h2
  rw [rpl_ints h2] at h1
  refine ⟨p, bs, rfl, .inl (.inl (hs _ _ h1)), fun ns' p1 k1 k2 k3 => ?_⟩
  rw [isort_uniq k1 k2]
  exact q p1 _ S _ (nw_new hs k3) k3 (sb_none hs k3) upd_same (RpL.ints _)⟩
end
end Dn
set_option Elab.async false
set_option linter.all false
set_option maxRecDepth 100000
set_option maxHeartbeats 2000000
namespace Dn
open PySem PySem.Spec PyProof.Rows L2

/-! ### operators that give a new list -/
section
variable {X : Cx} {K : PySem.W.Frag}
def RL2 (K : PySem.W.Frag) (r : R2) (g : D → D → Option (List D)) : Prop := ∀ S H a b d v u (Q : VK), Sb S H → Rp K S a v → Rp K S b u → g a b = some d → (∀ p vs S' H', Nw S H S' H' → H p = none → S' p = none → H' p = some (.lst vs) → RpL K S' d vs → Q (.ref p) H') → r v u H Q
def OpL (X : Cx) (f : Value → Value → Sem Value) (g : D → D → Option (List D)) : Prop := ∃ r, OpR X f r ∧ RL2 X.K r g
def mOpL (g : D → D → Option (List D)) (ma mb : EM) : AM := seqM ma fun x => seqM mb fun y => lftM (g x y)
theorem LS.op {r : R2} {g : D → D → Option (List D)} {ta tb : TE} {ma mb : EM} (hr : RL2 K r g) (ha : ES K ta ma) (hb : ES K tb mb) : LS K (tOp r ta tb) (mOpL g ma mb) := fun pp S H σ E pl d pl' Q I e q => by
  obtain ⟨x, p1, e1, e⟩ := seqM_some e
  obtain ⟨y, p2, e2, e⟩ := seqM_some e
  obtain ⟨e3, rfl⟩ := lftM_some e
  refine ha pp S H σ E pl x p1 _ I e1 fun v S1 H1 I1 a1 r1 => ?_
  refine hb pp S1 H1 σ E p1 y _ _ I1 e2 fun u S2 H2 I2 a2 r2 => ?_
  exact hr S2 H2 x y d v u Q I2.sub (r1.mono a2.s) r2 e3 fun p vs S3 H3 a3 h1 h2 h3 r3 => q p vs S3 H3 (I2.nw a3) ((a1.trans a2).trans a3.ad) (none_ad (a1.trans a2) h1) h2 h3 r3
theorem lf_op {op : Operator} {g : D → D → Option (List D)} {a b : Expr} {ma mb : EM} {pos : Pos} (ho : OpL X (binaryOp op) g) (ha : EF X a ma) (hb : EF X b mb) : LF X (.BinOp a op b pos) (mOpL g ma mb) := by
  obtain ⟨r, q, s⟩ := ho
  obtain ⟨t1, p1, s1⟩ := ha
  obtain ⟨t2, p2, s2⟩ := hb
  exact ⟨_, pe_op q p1 p2, LS.op s s1 s2⟩
def catL : D → D → Option (List D) | .lst a, .lst b => if sized (a.length + b.length) then some (a ++ b) else none | _, _ => none
theorem ol_cat : OpL X (binaryOp .Add) catL := ⟨_, op_cat, fun S H a b d v u Q hs ra rb e q => by
  unfold catL at e; split at e <;> try cases e
  split at e <;> cases e
  rename_i hz
  rw [rp_lst] at ra rb
  obtain ⟨p, vs, rfl, h1, h2⟩ := ra
  obtain ⟨p', us, rfl, g1, g2⟩ := rb
  exact ⟨p, p', vs, us, rfl, rfl, hs _ _ h1, hs _ _ g1, by rw [h2.len, g2.len]; exact sized_le hz, fun r hr => q r _ S _ (nw_new hs hr) hr (sb_none hs hr) upd_same (h2.append g2)⟩⟩
def repL : D → D → Option (List D)
  | .lst a, .int k => if decide (k.natAbs < 2 ^ 60) && sized (a.length * k.toNat) then some (List.replicate k.toNat a).flatten else none
  | _, _ => none
theorem ol_rep : OpL X (binaryOp .Mult) repL := ⟨_, op_rep, fun S H a b d v u Q hs ra rb e q => by
  unfold repL at e; split at e <;> try cases e
  split at e <;> cases e
  rename_i a k hz
  simp only [Bool.and_eq_true, decide_eq_true_eq] at hz
  rw [rp_lst] at ra
  rw [rp_int] at rb
  subst rb
  obtain ⟨p, vs, rfl, h1, h2⟩ := ra
  exact ⟨p, _, vs, rfl, rfl, hs _ _ h1, by omega, by omega, by rw [h2.len]; exact sized_le hz.2, fun r hr => q r _ S _ (nw_new hs hr) hr (sb_none hs hr) upd_same (h2.rep _)⟩⟩
/-! zip -/
def zipD : List D → List D → List D
  | x :: xs, y :: ys => .tup [x, y] :: zipD xs ys
  | _, _ => []
theorem zipD_get : ∀ (xs ys : List D) (j : Nat) (d : D), (zipD xs ys)[j]? = some d → ∃ x y, xs[j]? = some x ∧ ys[j]? = some y ∧ d = .tup [x, y]
  | [], ys, j, d, h => by simp [zipD] at h
  | x :: xs, [], j, d, h => by simp [zipD] at h
  | x :: xs, y :: ys, 0, d, h => by simp [zipD] at h; exact ⟨x, y, rfl, rfl, h.symm⟩
  | x :: xs, y :: ys, j + 1, d, h => by
    unfold zipD at h
    rw [List.getElem?_cons_succ] at h
    obtain ⟨a, b, h1, h2, h3⟩ := zipD_get xs ys j d h
    exact ⟨a, b, by rw [List.getElem?_cons_succ]; exact h1, by rw [List.getElem?_cons_succ]; exact h2, h3⟩
theorem zipD_len : ∀ (xs ys : List D), (zipD xs ys).length = min xs.length ys.length
  | [], ys => by simp [zipD]
  | x :: xs, [] => by simp [zipD]
  | x :: xs, y :: ys => by unfold zipD; rw [List.length_cons, zipD_len xs ys, List.length_cons, List.length_cons]; omega
end
end Dn
set_option Elab.async false
set_option linter.all false
set_option maxRecDepth 100000
set_option maxHeartbeats 2000000
/-! zip(a, b, strict=True) of lists and tuples of one length -/
namespace Zs
open PySem PySem.Spec PyProof.Rows L2 Builtin

/-- an iterator over a list (true) or a tuple (false) -/
def SqIt (h : Heap) (i a : Addr) (k : Nat) (its : Array Value) : Bool → Prop
  | true => h.IsListIter i a k ∧ h.IsList a its
  | false => h.IsTupleIter i a k ∧ h.IsTuple a its
theorem SqIt.at {h h' : Heap} {i a : Addr} {k : Nat} {its : Array Value} : ∀ {d : Bool}, SqIt h i a k its d → (∀ o, h.get? i = some o → h'.get? i = some o) → (∀ o, h.get? a = some o → h'.get? a = some o) → SqIt h' i a k its d
  | true, x, e1, e2 => ⟨x.1.at e1, x.2.at e2⟩
  | false, x, e1, e2 => ⟨x.1.at e1, x.2.at e2⟩
section
variable {prog : Program} {w : World} {A : Around} {E : Value → Shared → Prop} {s : Shared}
theorem nx_item {dd : Bool} {i a : Addr} {k : Nat} {its : Array Value} {x : Value} {Q : Option Value → Shared → Prop} (st : SqIt s.heap i a k its dd) (hne : a ≠ i) (hx : its[k]? = some x)
    (hQ : ∀ h', SqIt h' i a (k + 1) its dd → Heap.SameBut i s.heap h' → Q (some x) { s with heap := h' }) : wpAny (model prog w) A (SmallTypes.nextOrEnd (.ref i)) Q E s := by
  unfold SmallTypes.nextOrEnd
  refine wpAny_bind (wpAny_attempt ?_)
  cases dd
  · exact wpAny_nextOf_tuple_item st.1 st.2 hx fun h' h1' hs => wpAny_pure (hQ h' ⟨h1', st.2.extBut hs.extBut hne⟩ hs)
  · exact wpAny_nextOf_list_item st.1 st.2 hx fun h' h1' hs => wpAny_pure (hQ h' ⟨h1', st.2.extBut hs.extBut hne⟩ hs)
theorem nx_end {dd : Bool} {i a : Addr} {k : Nat} {its : Array Value} {Q : Option Value → Shared → Prop} (hh : A.handled = none) (st : SqIt s.heap i a k its dd) (hx : its[k]? = none)
    (hQ : ∀ h', Heap.ExtBut i s.heap h' → Q none { s with heap := h' }) : wpAny (model prog w) A (SmallTypes.nextOrEnd (.ref i)) Q E s := by
  unfold SmallTypes.nextOrEnd
  refine wpAny_bind (wpAny_attempt ?_)
  have fin : ∀ h' e, Heap.ExtBut i s.heap h' → (∃ o, h'.get? e = some o ∧ o.cls = .type "StopIteration") → wpAny (model prog w) A (do if ← isInstance (.ref e) (.type "StopIteration") then pure none else throw (.ref e)) Q E { s with heap := h' } := by
    intro h' e hk ⟨o, ho, hc⟩
    refine wpAny_bind (wpAny_isInstance (T := "StopIteration") (b := true) ⟨o, ho, hc⟩ isSubtype_stop ?_)
    exact wpAny_pure (hQ _ hk)
  cases dd
  · exact wpAny_nextOf_tuple_end hh st.1 st.2 hx fun h' e hk he => fin h' e hk he
  · exact wpAny_nextOf_list_end hh st.1 st.2 hx fun h' e hk he => fin h' e hk he
end
abbrev IsZs (h : Heap) (z TI TO : Addr) (f0 : Value) : Prop :=
  h.get? z = some { cls := .type "zip", dict := none, data := .fields #[f0, .bool false, .bool true, .ref TI, .ref TO], slots := #[] }
section
variable {prog : Program} {w : World} {A : Around} {E : Value → Shared → Prop} {s : Shared}
theorem next_item {d1 d2 : Bool} {z TI TO i1 i2 l1 l2 : Addr} {k : Nat} {xs ys : Array Value} {x y a b : Value} {Q : Value → Shared → Prop} (D : ZipApart z TI TO i1 i2 l1 l2)
    (hz : IsZs s.heap z TI TO .none) (hTI : IsPair s.heap TI (.ref i1) (.ref i2)) (hTO : IsPair s.heap TO a b)
    (h1 : SqIt s.heap i1 l1 k xs d1) (h2 : SqIt s.heap i2 l2 k ys d2) (hx : xs[k]? = some x) (hy : ys[k]? = some y)
    (hQ : ∀ h', IsZs h' z TI TO (rawInt s.heap.objs.size) → IsPair h' TO x y → SqIt h' i1 l1 (k + 1) xs d1 → SqIt h' i2 l2 (k + 1) ys d2 → IsPair h' s.heap.objs.size x y → h'.objs.size = s.heap.objs.size + 1 →
      (∀ c o, c ≠ z → c ≠ TO → c ≠ i1 → c ≠ i2 → s.heap.get? c = some o → h'.get? c = some o) → Q (.ref s.heap.objs.size) { s with heap := h' }) :
    wpAny (model prog w) A (Builtin.«zip.__next__» ⟨[.ref z], []⟩) (fun fin s' => ∃ v, fin = .done (.ret v) ∧ Q v s') E s := by
  show wpAny _ _ (field (.ref z) 2 >>= _) _ _ _
  refine wpAny_bind (wpAny_field hz rfl (x := .bool true) rfl ?_)
  show wpAny _ _ (field (.ref z) 3 >>= _) _ _ _
  refine wpAny_bind (wpAny_field hz rfl (x := .ref TI) rfl ?_)
  refine wpAny_bind (wpAny_seqItems hTI rfl ?_)
  show wpAny _ _ (SmallTypes.ownedTupleIsFree (.ref z) >>= _) _ _ _
  refine wpAny_bind ?_
  unfold SmallTypes.ownedTupleIsFree
  refine wpAny_bind (wpAny_field hz rfl (x := .none) rfl (wpAny_pure ?_))
  simp only [if_true]
  refine wpAny_bind (wpAny_rule ?_)
  refine wpAny_bind (wpAny_field hz rfl (x := .ref TO) rfl ?_)
  refine wpAny_bind (wpAny_setField_rec hz (by simp) fun h₁ hz₁ hs₁ => ?_)
  replace hz₁ : IsZs h₁ z TI TO .ellipsis := hz₁
  refine wpAny_bind ?_
  simp only [List.zipIdx_cons, List.zipIdx_nil, List.forIn_cons, List.forIn_nil]
  refine wpAny_bind (wpAny_bind (wpAny_onRaise ?_))
  show wpAny _ _ (SmallTypes.nextOrEnd (.ref i1)) _ _ _
  refine nx_item (s := { s with heap := h₁ }) (h1.at (fun o e => hs₁.extBut _ _ D.i1z e) (fun o e => hs₁.extBut _ _ D.l1z e)) D.l1i1 hx fun h₂ h1₂ hs₂ => ?_
  have hTO₂ : IsPair h₂ TO a b := hs₂.extBut _ _ D.TOi1 (hs₁.extBut _ _ D.TOz hTO)
  refine wpAny_bind (wpAny_seqItems hTO₂ rfl ?_)
  refine wpAny_bind (wpAny_updateSeq_pair hTO₂ fun h₃ hTO₃ hs₃ => ?_)
  replace hTO₃ : IsPair h₃ TO x b := hTO₃
  refine wpAny_bind (wpAny_letGo (wpAny_pure ?_))
  refine wpAny_bind (wpAny_bind (wpAny_onRaise ?_))
  show wpAny _ _ (SmallTypes.nextOrEnd (.ref i2)) _ _ _
  refine nx_item (s := { s with heap := h₃ }) (h2.at (fun o e => hs₃.extBut _ _ D.TOi2.symm (hs₂.extBut _ _ D.i12.symm (hs₁.extBut _ _ D.i2z e))) (fun o e => hs₃.extBut _ _ D.l2TO (hs₂.extBut _ _ D.l2i1 (hs₁.extBut _ _ D.l2z e)))) D.l2i2 hy fun h₄ h2₄ hs₄ => ?_
  have hTO₄ : IsPair h₄ TO x b := hs₄.extBut _ _ D.TOi2 hTO₃
  refine wpAny_bind (wpAny_seqItems hTO₄ rfl ?_)
  refine wpAny_bind (wpAny_updateSeq_pair hTO₄ fun h₅ hTO₅ hs₅ => ?_)
  replace hTO₅ : IsPair h₅ TO x y := hTO₅
  refine wpAny_bind (wpAny_letGo (wpAny_pure (wpAny_pure ?_)))
  refine wpAny_bind (wpAny_seqItems hTO₅ rfl ?_)
  refine wpAny_bind (wpAny_newTuple ?_)
  have hsz : h₅.objs.size = s.heap.objs.size := by rw [hs₅.1, hs₄.1, hs₃.1, hs₂.1, hs₁.1]
  have hz₅ : IsZs h₅ z TI TO .ellipsis := hs₅.extBut _ _ D.TOz.symm (hs₄.extBut _ _ D.i2z.symm (hs₃.extBut _ _ D.TOz.symm (hs₂.extBut _ _ D.i1z.symm hz₁)))
  have hk₅ : ∀ c o, c ≠ z → c ≠ TO → c ≠ i1 → c ≠ i2 → s.heap.get? c = some o → h₅.get? c = some o := fun c o c1 c2 c3 c4 e =>
    hs₅.extBut _ _ c2 (hs₄.extBut _ _ c4 (hs₃.extBut _ _ c2 (hs₂.extBut _ _ c3 (hs₁.extBut _ _ c1 e))))
  have h1₅ : SqIt h₅ i1 l1 (k + 1) xs d1 := h1₂.at (fun o e => hs₅.extBut _ _ D.TOi1.symm (hs₄.extBut _ _ D.i12 (hs₃.extBut _ _ D.TOi1.symm e))) (fun o e => hs₅.extBut _ _ D.l1TO (hs₄.extBut _ _ D.l1i2 (hs₃.extBut _ _ D.l1TO e)))
  have h2₅ : SqIt h₅ i2 l2 (k + 1) ys d2 := h2₄.at (fun o e => hs₅.extBut _ _ D.TOi2.symm e) (fun o e => hs₅.extBut _ _ D.l2TO e)
  have hzlt : z < h₅.objs.size := Heap.lt_size hz₅
  show wpAny _ _ (SmallTypes.ownedTupleHandOut (.ref z) (.ref h₅.objs.size) >>= _) _ _ _
  refine wpAny_bind ?_
  unfold SmallTypes.ownedTupleHandOut
  have hz₆ : IsZs (h₅.push { cls := .type "tuple", data := .seq #[x, y] }) z TI TO .ellipsis := Heap.get?_push_of_some _ hz₅
  refine wpAny_bind (wpAny_setField_rec hz₆ (by simp) fun h₇ hz₇ hs₇ => ?_)
  replace hz₇ : IsZs h₇ z TI TO (rawInt h₅.objs.size) := hz₇
  refine wpAny_setField_rec hz₇ (by simp) fun h₈ hz₈ hs₈ => ?_
  replace hz₈ : IsZs h₈ z TI TO (rawInt h₅.objs.size) := hz₈
  have up : ∀ c o, c ≠ z → h₅.get? c = some o → h₈.get? c = some o := fun c o c1 e => hs₈.extBut _ _ c1 (hs₇.extBut _ _ c1 (Heap.get?_push_of_some _ e))
  have hT₈ : IsPair h₈ h₅.objs.size x y := hs₈.extBut _ _ (Nat.ne_of_gt hzlt) (hs₇.extBut _ _ (Nat.ne_of_gt hzlt) (Heap.get?_push_size _ rfl))
  have hz8 : h₈.objs.size = h₅.objs.size + 1 := by rw [hs₈.1, hs₇.1, Heap.size_push]
  rw [hsz] at hz₈ hT₈ hz8
  refine wpAny_pure ⟨_, rfl, ?_⟩
  show Q (.ref h₅.objs.size) _
  rw [hsz]
  exact hQ h₈ hz₈ (up _ _ D.TOz hTO₅) (h1₅.at (fun o e => up _ o D.i1z e) (fun o e => up _ o D.l1z e)) (h2₅.at (fun o e => up _ o D.i2z e) (fun o e => up _ o D.l2z e)) hT₈ hz8 fun c o c1 c2 c3 c4 e => up c o c1 (hk₅ c o c1 c2 c3 c4 e)
end
end Zs
set_option Elab.async false
set_option linter.all false
set_option maxRecDepth 100000
set_option maxHeartbeats 4000000
namespace Zs
open PySem PySem.Spec PyProof.Rows L2 Builtin
section
variable {prog : Program} {w : World} {A : Around} {E : Value → Shared → Prop} {s : Shared}
theorem next_end {d1 d2 : Bool} {z TI TO i1 i2 l1 l2 : Addr} {k : Nat} {xs ys : Array Value} {a b : Value} {Q : Fin → Shared → Prop} (hh : A.handled = none) (D : ZipApart z TI TO i1 i2 l1 l2)
    (hz : IsZs s.heap z TI TO .none) (hTI : IsPair s.heap TI (.ref i1) (.ref i2)) (hTO : IsPair s.heap TO a b)
    (h1 : SqIt s.heap i1 l1 k xs d1) (h2 : SqIt s.heap i2 l2 k ys d2) (hx : xs[k]? = none) (hy : ys[k]? = none)
    (hE : ∀ h' e, (∀ c o, c ≠ z → c ≠ TO → c ≠ i1 → c ≠ i2 → s.heap.get? c = some o → h'.get? c = some o) → (∃ o, h'.get? e = some o ∧ o.cls = .type "StopIteration") → E (.ref e) { s with heap := h' }) :
    wpAny (model prog w) A (Builtin.«zip.__next__» ⟨[.ref z], []⟩) Q E s := by
  show wpAny _ _ (field (.ref z) 2 >>= _) _ _ _
  refine wpAny_bind (wpAny_field hz rfl (x := .bool true) rfl ?_)
  show wpAny _ _ (field (.ref z) 3 >>= _) _ _ _
  refine wpAny_bind (wpAny_field hz rfl (x := .ref TI) rfl ?_)
  refine wpAny_bind (wpAny_seqItems hTI rfl ?_)
  show wpAny _ _ (SmallTypes.ownedTupleIsFree (.ref z) >>= _) _ _ _
  refine wpAny_bind ?_
  unfold SmallTypes.ownedTupleIsFree
  refine wpAny_bind (wpAny_field hz rfl (x := .none) rfl (wpAny_pure ?_))
  simp only [if_true]
  refine wpAny_bind (wpAny_rule ?_)
  refine wpAny_bind (wpAny_field hz rfl (x := .ref TO) rfl ?_)
  refine wpAny_bind (wpAny_setField_rec hz (by simp) fun h₁ hz₁ hs₁ => ?_)
  replace hz₁ : IsZs h₁ z TI TO .ellipsis := hz₁
  refine wpAny_bind ?_
  simp only [List.zipIdx_cons, List.zipIdx_nil, List.forIn_cons, List.forIn_nil]
  refine wpAny_bind (wpAny_bind (wpAny_onRaise ?_))
  show wpAny _ _ (SmallTypes.nextOrEnd (.ref i1)) _ _ _
  refine nx_end (s := { s with heap := h₁ }) hh (h1.at (fun o e => hs₁.extBut _ _ D.i1z e) (fun o e => hs₁.extBut _ _ D.l1z e)) hx fun h₂ hs₂ => ?_
  have hz₂ : IsZs h₂ z TI TO .ellipsis := hs₂ _ _ D.i1z.symm hz₁
  refine wpAny_bind (wpAny_setField_rec hz₂ (by simp) fun h₃ _ hs₃ => ?_)
  refine wpAny_bind ?_
  show wpAny (model prog w) A (forIn [((.ref i2 : Value), 1)] PUnit.unit _ >>= _) _ _ _
  refine wpAny_bind ?_
  rw [List.forIn_cons]
  refine wpAny_bind (wpAny_bind ?_)
  refine nx_end (s := { s with heap := h₃ }) hh (h2.at (fun o e => hs₃.extBut _ _ D.i2z (hs₂ _ _ D.i12.symm (hs₁.extBut _ _ D.i2z e))) (fun o e => hs₃.extBut _ _ D.l2z (hs₂ _ _ D.l2i1 (hs₁.extBut _ _ D.l2z e)))) hy fun h₄ hs₄ => ?_
  refine wpAny_pure ?_
  show wpAny (model prog w) A (forIn ([] : List (Value × Nat)) PUnit.unit _) _ _ _
  rw [List.forIn_nil]
  refine wpAny_pure ?_
  refine wpAny_bind (wpAny_rule ?_)
  show wpAny _ _ (newExc (.type "StopIteration") [] >>= _) _ _ _
  refine wpAny_bind ?_
  simp only [newExc, newTuple]
  refine wpAny_bind (wpAny_newObj_type ?_ (by size_fits))
  refine wpAny_bind (m := firstArgMember _ _) (wpAny_of_eq (a := Value.none) (by first | rfl | (simp only [firstArgMember]; rfl)) ?_)
  refine wpAny_newObj_type ?_ (by size_fits)
  simp only [raiseNew]
  refine wpAny_bind (wpAny_handled ?_)
  rw [hh]
  refine wpAny_bind (wpAny_pure (wpAny_throw ?_))
  refine hE _ _ (fun c o c1 c2 c3 c4 x => ?_) ⟨_, Heap.get?_push_size _ rfl, rfl⟩
  exact Heap.get?_push_of_some _ (Heap.get?_push_of_some _ (hs₄ _ _ c4 (hs₃.extBut _ _ c1 (hs₂ _ _ c3 (hs₁.extBut _ _ c1 x)))))
theorem pyNext_item {d1 d2 : Bool} {z TI TO i1 i2 l1 l2 : Addr} {k : Nat} {xs ys : Array Value} {x y a b : Value} {Q : Option Value → Shared → Prop} (D : ZipApart z TI TO i1 i2 l1 l2)
    (hz : IsZs s.heap z TI TO .none) (hTI : IsPair s.heap TI (.ref i1) (.ref i2)) (hTO : IsPair s.heap TO a b)
    (h1 : SqIt s.heap i1 l1 k xs d1) (h2 : SqIt s.heap i2 l2 k ys d2) (hx : xs[k]? = some x) (hy : ys[k]? = some y)
    (hQ : ∀ h', IsZs h' z TI TO (rawInt s.heap.objs.size) → IsPair h' TO x y → SqIt h' i1 l1 (k + 1) xs d1 → SqIt h' i2 l2 (k + 1) ys d2 → IsPair h' s.heap.objs.size x y → h'.objs.size = s.heap.objs.size + 1 →
      (∀ c o, c ≠ z → c ≠ TO → c ≠ i1 → c ≠ i2 → s.heap.get? c = some o → h'.get? c = some o) → Q (some (.ref s.heap.objs.size)) { s with heap := h' }) :
    wpAny (model prog w) A (pyNext (.ref z)) Q E s := by
  have hT : s.TypeIs (.ref z) "zip" := ⟨_, hz, rfl⟩
  unfold pyNext
  exact wpAny_bind (wpAny_attempt (wpAny_callSpecial?_slot (name := Str.ofString "__next__") hT F.slot_zip_next
    (wpAny_call_entry F.slot_zip_next hT F.entry_zip_next
      (next_item D hz hTI hTO h1 h2 hx hy fun h' a1 a2 a3 a4 a5 a6 a7 => wpAny_pure (hQ h' a1 a2 a3 a4 a5 a6 a7)) (F.args_zip_next_1 _))))
theorem pyNext_end {d1 d2 : Bool} {z TI TO i1 i2 l1 l2 : Addr} {k : Nat} {xs ys : Array Value} {a b : Value} {Q : Option Value → Shared → Prop} (hh : A.handled = none) (D : ZipApart z TI TO i1 i2 l1 l2)
    (hz : IsZs s.heap z TI TO .none) (hTI : IsPair s.heap TI (.ref i1) (.ref i2)) (hTO : IsPair s.heap TO a b)
    (h1 : SqIt s.heap i1 l1 k xs d1) (h2 : SqIt s.heap i2 l2 k ys d2) (hx : xs[k]? = none) (hy : ys[k]? = none)
    (hQ : ∀ h', (∀ c o, c ≠ z → c ≠ TO → c ≠ i1 → c ≠ i2 → s.heap.get? c = some o → h'.get? c = some o) → Q none { s with heap := h' }) : wpAny (model prog w) A (pyNext (.ref z)) Q E s := by
  have hT : s.TypeIs (.ref z) "zip" := ⟨_, hz, rfl⟩
  unfold pyNext
  refine wpAny_bind (wpAny_attempt (wpAny_callSpecial?_slot (name := Str.ofString "__next__") hT F.slot_zip_next
    (wpAny_call_entry F.slot_zip_next hT F.entry_zip_next (next_end hh D hz hTI hTO h1 h2 hx hy fun h' e hk he => ?_) (F.args_zip_next_1 _))))
  obtain ⟨o, ho, hc⟩ := he
  refine wpAny_bind (wpAny_isInstance (T := "StopIteration") (b := true) ⟨o, ho, hc⟩ isSubtype_stop ?_)
  exact wpAny_pure (hQ _ hk)
theorem letGo_zs {elts : List Expr} {x1} {pos : Pos} {z TI TO T : Addr} {Q : Unit → Shared → Prop} (hz : IsZs s.heap z TI TO (rawInt T))
    (hQ : ∀ h', IsZs h' z TI TO .none → Heap.SameBut z s.heap h' → Q () { s with heap := h' }) :
    wpAny (model prog w) A (letOwnedTupleGo (.Tuple elts x1 pos) (.ref z) (.ref T)) Q E s := by
  unfold letOwnedTupleGo
  refine wpAny_bind (wpAny_load hz ?_)
  show wpAny _ _ (if (["enumerate", "zip", "dict_itemiterator", "dict_reverseitemiterator", "odict_iterator", "itertools.zip_longest", "itertools.pairwise"].contains "zip" &&
      (#[rawInt T, .bool false, .bool true, .ref TI, .ref TO] : Array Value)[0]? == some (rawInt T)) = true then _ else _) Q E s
  rw [if_pos (by simp)]
  refine wpAny_bind (wpAny_rule ?_)
  show wpAny _ _ (setField (.ref z) 0 .none) Q E s
  exact wpAny_setField_rec hz (by simp) fun h' hz' hs' => hQ h' hz' hs'
theorem pyIter_zs {z TI TO : Addr} {f0 : Value} {Q : Value → Shared → Prop} (hz : IsZs s.heap z TI TO f0) (h : Q (.ref z) s) : wpAny (model prog w) A (pyIter (.ref z)) Q E s := by
  have hT : s.TypeIs (.ref z) "zip" := ⟨_, hz, rfl⟩
  refine wpAny_pyIter_slot hT F.slot_zip_iter (wpAny_call_entry F.slot_zip_iter hT F.entry_zip_iter ?_ (F.args_zip_iter_1 _))
  show wpAny _ _ (ret (.ref z)) _ _ s
  exact wpAny_pure ⟨_, rfl, "zip", _, hT, F.slot_zip_next.lookup, h⟩
end
end Zs
set_option Elab.async false
set_option linter.all false
set_option maxRecDepth 100000
set_option maxHeartbeats 4000000
namespace Zs
open PySem PySem.Spec PyProof.Rows L2 Builtin
/-- a list (true) or a tuple (false) -/
def Sq (K : PySem.W.Frag) (H : Hp) (a : Addr) (xs : List V) : Bool → Prop
  | true => SqL K H a xs
  | false => SqT K H a xs
def ItA (h : Heap) (i a : Addr) (k : Nat) : Bool → Prop
  | true => h.IsListIter i a k
  | false => h.IsTupleIter i a k
theorem ItA.at {h h' : Heap} {i a : Addr} {k : Nat} : ∀ {d : Bool}, ItA h i a k d → (∀ o, h.get? i = some o → h'.get? i = some o) → ItA h' i a k d
  | true, x, e => Heap.IsListIter.at x e
  | false, x, e => Heap.IsTupleIter.at x e
theorem ItA.obj {h : Heap} {i a : Addr} {k : Nat} : ∀ {d : Bool}, ItA h i a k d → ∃ o, h.get? i = some o ∧ ∀ v, o.data ≠ .cell v
  | true, ⟨o, e, _, d⟩ => ⟨o, e, fun v q => by rw [d] at q; cases q⟩
  | false, ⟨o, e, _, d⟩ => ⟨o, e, fun v q => by rw [d] at q; cases q⟩
theorem ItA.lt {h : Heap} {i a : Addr} {k : Nat} {d : Bool} (x : ItA h i a k d) : i < h.objs.size := by
  obtain ⟨o, e, _⟩ := x.obj; exact Heap.lt_size e
def ObA (h : Heap) (a : Addr) (its : Array Value) : Bool → Prop
  | true => h.IsList a its
  | false => h.IsTuple a its
theorem ObA.lt {h : Heap} {a : Addr} {its : Array Value} : ∀ {d : Bool}, ObA h a its d → a < h.objs.size
  | true, x => by obtain ⟨o, e, _⟩ := x; exact Heap.lt_size e
  | false, x => by obtain ⟨o, e, _⟩ := x; exact Heap.lt_size e
theorem seqI {X : Cx} {pins : List (Addr × Obj)} {σ : L2.St} {H : Hp} {s : Shared} (I : Inv X pins σ H s) {a : Addr} {xs : List V} {d : Bool} (h : Sq X.K H a xs d) : ∃ its : List Value, Vals xs its ∧ ObA s.heap a its.toArray d := by
  cases d
  · obtain ⟨its, rv, p, _⟩ := I.tuple h; exact ⟨its, rv, p⟩
  · obtain ⟨its, rv, p, _⟩ := I.list h; exact ⟨its, rv, p.isList⟩
theorem seq_inj {X : Cx} {pins : List (Addr × Obj)} {σ : L2.St} {H : Hp} {s : Shared} (I : Inv X pins σ H s) {a : Addr} {xs ys : List V} {d : Bool} (h : Sq X.K H a xs d) (h' : Sq X.K H a ys d) : xs = ys := by
  cases d
  · exact I.tuple_inj h h'
  · exact I.list_inj h h'
theorem sq_it {h : Heap} {i a : Addr} {k : Nat} {its : Array Value} : ∀ {d : Bool}, ItA h i a k d → ObA h a its d → SqIt h i a k its d
  | true, x, y => ⟨x, y⟩
  | false, x, y => ⟨x, y⟩
theorem it_sq {h : Heap} {i a : Addr} {k : Nat} {its : Array Value} : ∀ {d : Bool}, SqIt h i a k its d → ItA h i a k d
  | true, x => x.1
  | false, x => x.1
/-- pairs of the items at a and b, as many there as here -/
def Itzs (K : PySem.W.Frag) (a b : Addr) (d1 d2 : Bool) : It :=
  ⟨fun i H => ∃ (xs ys : List V) (x y : V), Sq K H a xs d1 ∧ Sq K H b ys d2 ∧ xs[i]? = some x ∧ ys[i]? = some y,
    fun i H v H' => ∃ T x y, v = .ref T ∧ H T = none ∧ H' = upd H T (.tup [x, y]) ∧ (∀ xs, Sq K H a xs d1 → xs[i]? = some x) ∧ ∀ ys, Sq K H b ys d2 → ys[i]? = some y,
    fun i H => ∃ xs ys : List V, Sq K H a xs d1 ∧ Sq K H b ys d2 ∧ xs.length ≤ i ∧ ys.length ≤ i⟩
theorem turn_zs {P : Program} {w : World} {K : PySem.W.Frag} {elts : List Expr} {kk : Nat} {tpos : Pos} {a b z TI TO i1 i2 : Addr} {d1 d2 : Bool} (D : ZipApart z TI TO i1 i2 a b) :
    Turn P w K (.Tuple elts kk tpos) (Itzs K a b d1 d2) [z, TI, TO, i1, i2] z (fun i h => IsZs h z TI TO .none ∧ IsPair h TI (.ref i1) (.ref i2) ∧ (∃ x y, IsPair h TO x y) ∧ ItA h i1 a i d1 ∧ ItA h i2 b i d2) where
  mem := by simp
  obj := fun i h st c hc => by
    obtain ⟨hz, hTI, ⟨x, y, hTO⟩, q1, q2⟩ := st
    have e' : c = z ∨ c = TI ∨ c = TO ∨ c = i1 ∨ c = i2 := by simpa using hc
    rcases e' with q | q | q | q | q
    · rw [q]; exact ⟨_, hz, fun v q => nomatch q⟩
    · rw [q]; exact ⟨_, hTI, fun v q => nomatch q⟩
    · rw [q]; exact ⟨_, hTO, fun v q => nomatch q⟩
    · rw [q]; exact q1.obj
    · rw [q]; exact q2.obj
  keep := fun i h h' st k => by
    obtain ⟨hz, hTI, ⟨x, y, hTO⟩, h1, h2⟩ := st
    exact ⟨k z (by simp) _ hz, k TI (by simp) _ hTI, ⟨x, y, k TO (by simp) _ hTO⟩, h1.at fun o q => k i1 (by simp) o q, h2.at fun o q => k i2 (by simp) o q⟩
  item := by
    intro X hP hw hK hc i pins s σ H E I hf st hg
    subst hP hw hK
    obtain ⟨hz, hTI, ⟨x0, y0, hTO⟩, h1, h2⟩ := st
    obtain ⟨xs, ys, x, y, hqx, hqy, hx, hy⟩ := hg
    obtain ⟨its, rv, p⟩ := seqI I hqx
    obtain ⟨its2, rv2, p2⟩ := seqI I hqy
    obtain ⟨u, hu, ru⟩ := rv.get hx
    obtain ⟨u2, hu2, ru2⟩ := rv2.get hy
    have hzl : z < s.heap.objs.size := Heap.lt_size hz
    refine pyNext_item D hz hTI hTO (sq_it h1 p) (sq_it h2 p2) (x := u) (y := u2) (by simpa using hu) (by simpa using hu2) fun h' z' TO' h1' h2' hT hsz hk => ?_
    refine ⟨_, rfl, letGo_zs (s := { s with heap := h' }) z' fun h'' z'' sb => ?_⟩
    have hT2 : h''.get? s.heap.objs.size = some { cls := .type "tuple", data := .seq #[u, u2] } := (sb.2 _ (Nat.ne_of_gt hzl)).trans hT
    have new : ObjOk X.prog X.w (upd H s.heap.objs.size (.tup [x, y])) h'' s.heap.objs.size (.tup [x, y]) :=
      ⟨by show 2 ≤ sizeLine; decide, [u, u2], .cons ru (.cons ru2 .nil), ⟨_, hT2, rfl, _, rfl⟩⟩
    have I1 : Inv X pins σ (upd H s.heap.objs.size (.tup [x, y])) { s with heap := h'' } :=
      I.turnedNew (t' := s.toks) (ch := [z, TI, TO, i1, i2]) (fun c o hb q => (sb.2 c (fun q' => hb (by simp [q']))).trans (hk c o (fun q' => hb (by simp [q'])) (fun q' => hb (by simp [q'])) (fun q' => hb (by simp [q'])) (fun q' => hb (by simp [q'])) q)) hf (Nat.le_refl _) new
    refine ⟨.ref s.heap.objs.size, _, I1, rfl, ⟨_, x, y, rfl, I.hok.fresh (Nat.le_refl _), rfl, fun l hl => by rw [seq_inj I hl hqx]; exact hx, fun l hl => by rw [seq_inj I hl hqy]; exact hy⟩, ⟨z'', ?_, ⟨u, u2, ?_⟩, ?_, ?_⟩, fun c hcm => ?_⟩
    · exact (sb.2 _ D.TIz).trans (hk _ _ D.TIz D.TITO D.TIi1 D.TIi2 hTI)
    · exact (sb.2 _ D.TOz).trans TO'
    · exact (it_sq h1').at fun o q => (sb.2 _ D.i1z).trans q
    · exact (it_sq h2').at fun o q => (sb.2 _ D.i2z).trans q
    · have hlt : c < s.heap.objs.size := by
        have e' : c = z ∨ c = TI ∨ c = TO ∨ c = i1 ∨ c = i2 := by simpa using hcm
        rcases e' with q | q | q | q | q
        · rw [q]; exact hzl
        · rw [q]; exact Heap.lt_size hTI
        · rw [q]; exact Heap.lt_size hTO
        · rw [q]; exact h1.lt
        · rw [q]; exact h2.lt
      rw [upd_ne (Nat.ne_of_lt hlt)]
      exact (hf c hcm).1
  done := by
    intro X hP hw hK hc i pins s σ H E I hf st hg
    subst hP hw hK
    obtain ⟨hz, hTI, ⟨x0, y0, hTO⟩, h1, h2⟩ := st
    obtain ⟨xs, ys, hqx, hqy, e1, e2⟩ := hg
    obtain ⟨its, rv, p⟩ := seqI I hqx
    obtain ⟨its2, rv2, p2⟩ := seqI I hqy
    have l1 := rv.length
    have l2 := rv2.length
    exact pyNext_end (I.ok.hd hc) D hz hTI hTO (sq_it h1 p) (sq_it h2 p2) (by simp; omega) (by simp; omega) fun h' hk => ⟨rfl, I.turnedL (t' := s.toks) (ch := [z, TI, TO, i1, i2]) (fun c o hb q =>
      hk c o (fun q' => hb (by simp [q'])) (fun q' => hb (by simp [q'])) (fun q' => hb (by simp [q'])) (fun q' => hb (by simp [q'])) q) hf⟩
  self := fun A i s Q E st h => pyIter_zs st.1 h
end Zs
namespace Zs
open PySem PySem.Spec PyProof.Rows L2 Builtin
abbrev szZ2 (h : Heap) (o1 o2 : Obj) : Heap := (gzO2 h o1 o2).push { cls := .type "zip", data := .fields #[.none, .bool false, .bool true, .ref ((h.push o1).push o2).objs.size, .ref (gzT2 h o1 o2).objs.size] }
set_option maxHeartbeats 1000000 in
theorem meets_zs {v1 v2 : Value} {o1 o2 : Obj} {H1 H2 : Heap → Prop} (B1 : Begins v1 o1 H1) (B2 : Begins v2 o2 H2) :
    Meets (Builtin.«zip.__new__» ⟨[.type "zip", v1, v2], [(Str.ofString "strict", .bool true)]⟩) (fun _ R s => (H1 s.heap ∧ H2 s.heap) ∧
      R (.ok (.ret (.ref (gzO2 s.heap o1 o2).objs.size))) { s with heap := szZ2 s.heap o1 o2 }) :=
  .of_wp fun prog w A R s h => by
    obtain ⟨hp, g, d, tk, os⟩ := s; obtain ⟨⟨h1, h2⟩, h⟩ := h
    have hsub := sub_zip
    have q1 : ∀ {A' : Around} {E : Value → Shared → Prop} {Q : Value → Shared → Prop}, Q (.ref hp.objs.size) ⟨(hp.push o1), g, d, tk, os⟩ → wpAny (model prog w) A' (pyIter v1) Q E ⟨hp, g, d, tk, os⟩ :=
      fun q => B1.iter prog w _ _ ⟨hp, g, d, tk, os⟩ _ (B1.keeps _ _ h1 fun b o' e => e) q
    have q2 : ∀ {A' : Around} {E : Value → Shared → Prop} {Q : Value → Shared → Prop}, Q (.ref (hp.push o1).objs.size) ⟨((hp.push o1).push o2), g, d, tk, os⟩ → wpAny (model prog w) A' (pyIter v2) Q E ⟨(hp.push o1), g, d, tk, os⟩ :=
      fun q => B2.iter prog w _ _ ⟨(hp.push o1), g, d, tk, os⟩ _ (B2.keeps _ _ h2 fun b o' e => (Heap.get?_push_of_some _ e)) q
    have e1 : (Str.ofString "strict" == ("strict" : Str)) = true := by decide +kernel
    have e2 : (Str.ofString "strict" != ("strict" : Str)) = false := by decide +kernel
    wp_walk using q1, q2
    all_goals first | exact ⟨_, rfl, h⟩ | skip
theorem F.typeCall_zs (a b c : Value) : checkTypeCall "zip" ⟨[a, b], [(Str.ofString "strict", c)]⟩ = pure () := by kernel_rfl
theorem F.newCall_zs (a b c : Value) : checkBuiltinCall "zip.__new__" ⟨[.type "zip", a, b], [(Str.ofString "strict", c)]⟩ = pure () := by kernel_rfl
theorem F.init_zs (obj a b c : Value) : argsOk "object.__init__" ⟨[obj, a, b], [(Str.ofString "strict", c)]⟩ := by unfold argsOk; kernel_rfl
end Zs
set_option Elab.async false
set_option linter.all false
set_option maxRecDepth 100000
set_option maxHeartbeats 4000000
namespace Zs
open PySem PySem.Spec PyProof.Rows L2 Builtin
section
variable {prog : Program} {w : World} {A : Around} {E : Value → Shared → Prop} {s : Shared}
theorem zs_begins {v1 v2 : Value} {o1 o2 : Obj} {H1 H2 : Heap → Prop} {Q : Value → Shared → Prop} (B1 : Begins v1 o1 H1) (B2 : Begins v2 o2 H2) (h1 : H1 s.heap) (h2 : H2 s.heap)
    (h : ∀ h', IsZs h' (s.heap.objs.size + 4) (s.heap.objs.size + 2) (s.heap.objs.size + 3) .none → IsPair h' (s.heap.objs.size + 2) (.ref s.heap.objs.size) (.ref (s.heap.objs.size + 1)) →
      IsPair h' (s.heap.objs.size + 3) .none .none → h'.get? s.heap.objs.size = some o1 → h'.get? (s.heap.objs.size + 1) = some o2 → h'.objs.size = s.heap.objs.size + 5 →
      (∀ c o, s.heap.get? c = some o → h'.get? c = some o) → Q (.ref (s.heap.objs.size + 4)) { s with heap := h' }) :
    wpAny (model prog w) A (call (.type "zip") [v1, v2] [(Str.ofString "strict", .bool true)]) Q E s := by
  refine callType_newKw F.called_zip (by decide) (F.typeCall_zs _ _ _) (F.newCall_zs _ _ _) (fun obj => F.init_zs obj _ _ _) F.entry_zip_new
    (meets_zs B1 B2) ⟨⟨h1, h2⟩, ?_⟩
  have z1 : (s.heap.push o1).objs.size = s.heap.objs.size + 1 := by rw [Heap.size_push]
  have z2 : ((s.heap.push o1).push o2).objs.size = s.heap.objs.size + 2 := by rw [Heap.size_push, z1]
  have zT : (gzT2 s.heap o1 o2).objs.size = s.heap.objs.size + 3 := by rw [Heap.size_push, z2]
  have zO : (gzO2 s.heap o1 o2).objs.size = s.heap.objs.size + 4 := by rw [Heap.size_push, zT]
  have zZ : (szZ2 s.heap o1 o2).objs.size = s.heap.objs.size + 5 := by rw [Heap.size_push, zO]
  have gZ : (szZ2 s.heap o1 o2).get? (gzO2 s.heap o1 o2).objs.size = some { cls := .type "zip", data := .fields #[.none, .bool false, .bool true, .ref ((s.heap.push o1).push o2).objs.size, .ref (gzT2 s.heap o1 o2).objs.size] } := Heap.get?_push_size _ rfl
  have gO : (szZ2 s.heap o1 o2).get? (gzT2 s.heap o1 o2).objs.size = some { cls := .type "tuple", data := .seq #[.none, .none] } := Heap.get?_push_of_some _ (Heap.get?_push_size _ rfl)
  have gT : (szZ2 s.heap o1 o2).get? ((s.heap.push o1).push o2).objs.size = some { cls := .type "tuple", data := .seq #[.ref s.heap.objs.size, .ref (s.heap.push o1).objs.size] } := Heap.get?_push_of_some _ (Heap.get?_push_of_some _ (Heap.get?_push_size _ rfl))
  have g1 : (szZ2 s.heap o1 o2).get? s.heap.objs.size = some o1 := Heap.get?_push_of_some _ (Heap.get?_push_of_some _ (Heap.get?_push_of_some _ (Heap.get?_push_of_some _ (Heap.get?_push_size _ B1.free))))
  have g2 : (szZ2 s.heap o1 o2).get? (s.heap.push o1).objs.size = some o2 := Heap.get?_push_of_some _ (Heap.get?_push_of_some _ (Heap.get?_push_of_some _ (Heap.get?_push_size _ B2.free)))
  rw [zO, zT, z2] at gZ
  rw [zT] at gO
  rw [z2, z1] at gT
  rw [z1] at g2
  show _ ∧ _
  rw [zO]
  exact ⟨⟨_, gZ, rfl⟩, h _ gZ gT gO g1 g2 zZ fun c o e => Heap.get?_push_of_some _ (Heap.get?_push_of_some _ (Heap.get?_push_of_some _ (Heap.get?_push_of_some _ (Heap.get?_push_of_some _ e))))⟩
theorem callWith_tyKw {M : Model} {pos : Pos} {T : String} {first : List Value} {args : List (Bool × Sem Value)} {keywords : List (Option Str × Sem Value)} {Q : Value → Shared → Prop}
    (hplain : args.any (·.1) = false) (hkw : keywords.any (·.1.isNone) = false)
    (h : wpAny M A (evalArgs (.type T) true args keywords) (fun a s₁ => wpAny M A (call (.type T) (first ++ a.pos) a.kw) Q E s₁) E s) :
    wpAny M A (callWith pos (.type T) first args keywords) Q E s := by
  unfold callWith
  refine wpAny_bind (wpAny_holding (wpAny_mono h (fun a s₁ h₁ => wpAny_bind (wpAny_standAt ?_)) fun _ _ x => x))
  simp only [hplain, hkw, Bool.or_false]
  refine wpAny_bind (wpAny_pure ?_)
  exact wpAny_bind (wpAny_mono h₁ (fun r s₂ hr => wpAny_bind (wpAny_holding (wpAny_point (wpAny_pure hr)))) fun _ _ x => x)
end
def bob (a : Addr) : Bool → Obj
  | true => { cls := .type "list_iterator", data := .fields #[.ref a, .int 0 0] }
  | false => { cls := .type "tuple_iterator", data := .fields #[.ref a, .int 0 0] }
theorem begs (a : Addr) (its : Array Value) : ∀ d : Bool, Begins (.ref a) (bob a d) fun h => ObA h a its d
  | true => begins_list a its
  | false => begins_tuple a its
theorem bob_it {h : Heap} {i a : Addr} : ∀ {d : Bool}, h.get? i = some (bob a d) → ItA h i a 0 d
  | true, e => ⟨_, e, rfl, rfl⟩
  | false, e => ⟨_, e, rfl, rfl⟩
def iZs (K : PySem.W.Frag) (ta : TA) : TI := fun σ H R => ta σ H fun vs H1 => ∃ a b xs ys d1 d2, vs = [.ref a, .ref b] ∧ Sq K H1 a xs d1 ∧ Sq K H1 b ys d2 ∧ R (Itzs K a b d1 d2) H1
theorem pi_zs {X : Cx} {e e2 : Expr} {ta : TA} {p pos tpos kp cp : Pos} {j : Nat} {elts : List Expr} {kk : Nat} (hg : Gl X "zip") (hm : X.mg "zip" = none) (ha : PA X [e, e2] ta)
    (hs : starEach [e, e2] X.env = (false, eval e X.env) :: starEach [e2] X.env := by rfl) (hpl : (backTo pos (starEach [e2] X.env)).any (·.1) = false := by rfl) :
    PI X (.Tuple elts kk tpos) (.Call (.Name "zip" p) [e, e2] [⟨some "strict", .Constant (.bool true) j cp, kp⟩] pos) (iZs X.K ta) := by
  refine ⟨fun pins s σ H R I h => ?_⟩
  have he : eval (.Call (.Name "zip" p) [e, e2] [⟨some "strict", .Constant (.bool true) j cp, kp⟩] pos) X.env = (do callWith pos (← eval (.Name "zip" p) X.env) [] (backTo pos (starEach [e, e2] X.env)) (backToKw pos (keywordEach [⟨some "strict", .Constant (.bool true) j cp, kp⟩] X.env))) := by rfl
  rw [he]
  refine wpAny_bind (ld_blt I hg hm PyProof.Rows.boot_zip ?_)
  have hr := ha.run pos pins s σ H _ I h
  rw [hs] at hr ⊢
  refine callWith_tyKw (by show (false || (backTo pos (starEach [e2] X.env)).any (·.1)) = false; rw [hpl]; rfl) rfl (evalArgs_kwB rfl (thn hr fun us s1 ⟨vs, H1, I1, r1, q1⟩ => kws_cons ?_))
  refine wpAny_of_eq (a := Value.bool true) rfl ?_
  refine kws_nil ?_
  obtain ⟨a, b, xs, ys, d1, d2, ex, hqx, hqy, q⟩ := q1
  subst ex
  cases r1 with
  | cons r rr =>
    cases rr with
    | cons r' rr =>
      cases rr
      cases r
      cases r'
      have fresh5 : ∀ c, c ∈ [s1.heap.objs.size + 4, s1.heap.objs.size + 2, s1.heap.objs.size + 3, s1.heap.objs.size, s1.heap.objs.size + 1] → FpOk X pins H1 c := fun c hcm => by
        have e' : c = s1.heap.objs.size + 4 ∨ c = s1.heap.objs.size + 2 ∨ c = s1.heap.objs.size + 3 ∨ c = s1.heap.objs.size ∨ c = s1.heap.objs.size + 1 := by simpa using hcm
        have hle : s1.heap.objs.size ≤ c := by
          rcases e' with z | z | z | z | z
          · rw [z]; exact Nat.le_add_right _ _
          · rw [z]; exact Nat.le_add_right _ _
          · rw [z]; exact Nat.le_add_right _ _
          · rw [z]; exact Nat.le_refl _
          · rw [z]; exact Nat.le_add_right _ _
        exact I1.fpOk hle (I1.hok.fresh hle)
      obtain ⟨its, rv, p1⟩ := seqI I1 hqx
      obtain ⟨its2, rv2, p2⟩ := seqI I1 hqy
      refine zs_begins (begs a its.toArray d1) (begs b its2.toArray d2) p1 p2 fun h' hz hTI hTO g1 g2 hsz hk => pyIter_zs hz ?_
      have I2 : Inv X pins σ H1 { s1 with heap := h' } := I1.kept (t' := s1.toks) hk
      exact ⟨s1.heap.objs.size + 4, [s1.heap.objs.size + 4, s1.heap.objs.size + 2, s1.heap.objs.size + 3, s1.heap.objs.size, s1.heap.objs.size + 1], _, _, H1, rfl, I2, turn_zs (PySem.W.ktu_apart s1.heap.objs.size a b p1.lt p2.lt), ⟨hz, hTI, ⟨_, _, hTO⟩, bob_it g1, bob_it g2⟩, fresh5, q⟩
end Zs
namespace Dn
open PySem PySem.Spec PyProof.Rows L2
def zipI : List D → Option (List D)
  | [a, b] => match itD a, itD b with
    | some xs, some ys => if xs.length = ys.length then some (zipD xs ys) else none
    | _, _ => none
  | _ => none
theorem sq_of {K : PySem.W.Frag} {S : Hp} {d : D} {v : V} {xs : List D} (h : Rp K S d v) (e : itD d = some xs) : ∃ a vs k, v = .ref a ∧ Zs.Sq K S a vs k ∧ RpL K S xs vs := by
  unfold itD at e
  split at e <;> cases e
  · rw [rp_lst] at h
    obtain ⟨a, vs, rfl, h1, h2⟩ := h
    exact ⟨a, vs, true, rfl, .inl (.inl h1), h2⟩
  · rw [rp_tup] at h
    obtain ⟨a, vs, rfl, h1, h2⟩ := h
    exact ⟨a, vs, false, rfl, h1, h2⟩
  · rw [rp_scr] at h
    obtain ⟨a, rfl, h1⟩ := h
    exact ⟨a, _, true, rfl, h1, RpL.ints _⟩
theorem sb_sq {K : PySem.W.Frag} {S H : Hp} {a : Addr} {vs : List V} (e : Sb S H) : ∀ {k : Bool}, Zs.Sq K S a vs k → Zs.Sq K H a vs k
  | true, h => sb_l e h
  | false, h => sb_t e h
theorem js_zs {K : PySem.W.Frag} {S : Hp} {a b : Addr} {d1 d2 : Bool} {xs ys : List D} {vs us : List V} (h1 : Zs.Sq K S a vs d1) (h2 : Zs.Sq K S b us d2) (r1 : RpL K S xs vs) (r2 : RpL K S ys us) (hl : xs.length = ys.length) : JS K S (Zs.Itzs K a b d1 d2) (zipD xs ys) := by
  refine ⟨fun i d S' H e1 e2 e3 => ?_, fun i S' H e1 e2 e3 => ?_⟩
  · obtain ⟨x, y, g1, g2, rfl⟩ := zipD_get _ _ _ _ e3
    obtain ⟨v, k1, k2⟩ := r1.get g1
    obtain ⟨u, k3, k4⟩ := r2.get g2
    refine ⟨⟨vs, us, v, u, sb_sq (e1.trans e2) h1, sb_sq (e1.trans e2) h2, k1, k3⟩, fun z H' hy => ?_⟩
    obtain ⟨T, p, q, rfl, hT, rfl, hp, hq⟩ := hy
    have := hp vs (sb_sq (e1.trans e2) h1)
    rw [k1] at this; cases this
    have := hq us (sb_sq (e1.trans e2) h2)
    rw [k3] at this; cases this
    have nw := Nw.new (o := .tup [v, u]) e2 hT
    exact ⟨_, nw, rp_tup.mpr ⟨T, _, rfl, SqT.of upd_same, RpL.cons (k2.mono (e1.trans nw.s)) (RpL.cons (k4.mono (e1.trans nw.s)) RpL.nil)⟩⟩
  · rw [zipD_len, hl, Nat.min_self] at e3
    exact ⟨vs, us, sb_sq (e1.trans e2) h1, sb_sq (e1.trans e2) h2, by rw [r1.len]; omega, by rw [r2.len]; exact e3⟩
theorem if_zs {X : Cx} {e e2 : Expr} {m : AM} {p pos tpos kp cp : Pos} {j : Nat} {elts : List Expr} {kk : Nat} (hg : Gl X "zip") (hm : X.mg "zip" = none) (ha : AF X [e, e2] m) (hs : nst e = true := by rfl) (hs2 : nst e2 = true := by rfl) :
    IF X (.Tuple elts kk tpos) (.Call (.Name "zip" p) [e, e2] [⟨some "strict", .Constant (.bool true) j cp, kp⟩] pos) (mRng zipI m) := by
  obtain ⟨t, pa, s⟩ := ha
  have hb : (backTo pos (starEach [e2] X.env)).any (·.1) = false := back_nst (by simp only [nsts, hs2]; rfl)
  refine ⟨_, Zs.pi_zs hg hm pa (star_nst hs) hb, fun pp S H σ E pl ds pl' R I e q => ?_⟩
  obtain ⟨x, q1, e1, f1⟩ := seqM_some e
  obtain ⟨e3, rfl⟩ := lftM_some f1
  refine s pp S H σ E pl x _ _ I e1 fun v S1 H1 J a1 r1 => ?_
  unfold zipI at e3
  split at e3 <;> try cases e3
  split at e3 <;> try cases e3
  rename_i da db _ xs ys z1 z2
  split at e3 <;> cases e3
  rename_i hl
  obtain ⟨v1, v2, rfl, w1, w2⟩ := rpl_two r1
  obtain ⟨a, vs, k1, rfl, g1, g2⟩ := sq_of w1 z1
  obtain ⟨b, us, k2, rfl, g3, g4⟩ := sq_of w2 z2
  exact ⟨a, b, vs, us, k1, k2, rfl, sb_sq J.sub g1, sb_sq J.sub g3, q _ S1 H1 J a1 (js_zs g1 g3 g2 g4 hl)⟩
end Dn
set_option Elab.async false
set_option linter.all false
set_option maxRecDepth 100000
set_option maxHeartbeats 2000000
namespace Dn
open PySem PySem.Spec PyProof.Rows L2
/-! targets: a, b, .. = a tuple or a list of that length -/
section
variable {X : Cx} {K : PySem.W.Frag}
def gTL (n : Nat) (f : List D → Env → Option Env) : TM := fun d E => match d with
  | .tup ds => bM (ds.length == n) (f ds E) none
  | .lst ds => bM (ds.length == n) (f ds E) none
  | _ => none
def gOr (t u : TG) : TG := fun v σ H Q => t v σ H Q ∨ u v σ H Q
theorem pg_or {tg : Expr} {t u : TG} (h : PG X tg t) (g : PG X tg u) : PG X tg (gOr t u) :=
  ⟨fun pins s σ H v u' Q I r hw => hw.elim (h.run pins s σ H v u' Q I r) (g.run pins s σ H v u' Q I r)⟩
theorem gf_tl {es : List Expr} {k : Nat} {fs : List D → Env → Option Env} {pos : Pos} (n : Nat) (hc : X.calm = true) (h : GFs X es fs) (hn : (assignEach es X.env).length = n := by rfl) (hst : (assignEach es X.env).findIdx? (·.1) = none := by rfl) :
    GF X (.Tuple es k pos) (gTL n fs) := by
  obtain ⟨g, p, s⟩ := h
  refine ⟨_, pg_or (pg_tup hc p hn hst) (pg_lst hc p hn hst), fun C pp S H σ E pl d v E' Q I r e q => ?_⟩
  unfold gTL at e
  split at e
  · rename_i ds
    rw [rp_tup] at r
    obtain ⟨a, vs, rfl, h1, h2⟩ := r
    cases hz : ds.length == n with
    | false => rw [hz] at e; cases e
    | true =>
      rw [hz] at e
      exact .inl ⟨a, vs, rfl, sb_t I.sub h1, by rw [h2.len]; exact eq_of_beq hz, s C pp S H σ E pl ds vs E' Q I h2 e q⟩
  · rename_i ds
    rw [rp_lst] at r
    obtain ⟨a, vs, rfl, h1, h2⟩ := r
    cases hz : ds.length == n with
    | false => rw [hz] at e; cases e
    | true =>
      rw [hz] at e
      exact .inr ⟨a, vs, rfl, .inl (.inl (I.sub _ _ h1)), by rw [h2.len]; exact eq_of_beq hz, s C pp S H σ E pl ds vs E' Q I h2 e q⟩
  · cases e
theorem ge_tl {es : List Expr} {k : Nat} {fs : List D → Env → Option Env} {pos : Pos} {sl : List Nat} (n : Nat) (hc : X.calm = true) (h : GEFs X es fs sl) (hn : (assignEach es X.env).length = n := by rfl) (hst : (assignEach es X.env).findIdx? (·.1) = none := by rfl) :
    GEF X (.Tuple es k pos) (gTL n fs) sl := by
  obtain ⟨g, p, s⟩ := h
  refine ⟨_, pg_or (pg_tup hc p hn hst) (pg_lst hc p hn hst), fun pp S H σ E pl d v E' Q I r e q => ?_⟩
  unfold gTL at e
  split at e
  · rename_i ds
    rw [rp_tup] at r
    obtain ⟨a, vs, rfl, h1, h2⟩ := r
    cases hz : ds.length == n with
    | false => rw [hz] at e; cases e
    | true =>
      rw [hz] at e
      exact .inl ⟨a, vs, rfl, sb_t I.sub h1, by rw [h2.len]; exact eq_of_beq hz, s pp S H σ E pl ds vs E' Q I h2 e q⟩
  · rename_i ds
    rw [rp_lst] at r
    obtain ⟨a, vs, rfl, h1, h2⟩ := r
    cases hz : ds.length == n with
    | false => rw [hz] at e; cases e
    | true =>
      rw [hz] at e
      exact .inr ⟨a, vs, rfl, .inl (.inl (I.sub _ _ h1)), by rw [h2.len]; exact eq_of_beq hz, s pp S H σ E pl ds vs E' Q I h2 e q⟩
  · cases e
end
end Dn
set_option Elab.async false
set_option linter.all false
set_option maxRecDepth 100000
set_option maxHeartbeats 2000000
namespace Dn
open PySem PySem.Spec PyProof.Rows L2
/-! x.extend(list) -/
section
variable {X : Cx} {K : PySem.W.Frag}
def sExtF (F : List Nat) (i : Nat) (m : EM) : SM := fun E pl => match m (vw F E) pl with
  | some (.lst ys, p) => match (frz F E)[i]? with
    | some (.own xs) => bM (sized (xs.length + ys.length)) (some (.nx ((frz F E).set i (.own (xs ++ ys))) p)) none
    | _ => none
  | _ => none
theorem SS.extF {te : TE} {i : Nat} {m : EM} (F : List Nat) (s : ES K te m) : SS K (tDrop (tBM K "list" rExtend (tVar i) (tCons te tNil))) (sExtF F i m) := fun C pp S H σ E pl D' out I e q => by
  unfold sExtF at e
  cases h : m (vw F E) pl with
  | none => rw [h] at e; cases e
  | some r =>
    obtain ⟨d, p⟩ := r
    rw [h] at e
    cases d <;> dsimp only at e <;> try cases e
    rename_i ys
    split at e
    · rename_i xs hx
      cases hn : (sized (xs.length + ys.length)) with
      | false => rw [hn] at e; cases e
      | true =>
        rw [hn] at e; cases e
        have hx0 : E[i]? = some (.own xs) := by
          rw [frz_get] at hx
          by_cases hi : i ∈ F
          · rw [if_pos hi] at hx
            cases z : E[i]? with
            | none => rw [z] at hx; cases hx
            | some s1 => rw [z] at hx; cases s1 <;> cases hx
          · rw [if_neg hi] at hx; exact hx
        obtain ⟨a, vs, g1, g2, g3⟩ := I.ownL hx0
        refine ⟨_, g1, .inl ⟨rfl, _, .inl (.inl g2)⟩, ?_⟩
        refine s pp _ H σ _ pl (.lst ys) _ _ (I.er F) h fun v S1 H1 J a1 r1 => ?_
        have I1 := I.fin J a1
        obtain ⟨a', vs', k1, k2, k3⟩ := I1.ownL hx
        rw [g1] at k1; cases k1
        rw [rp_lst] at r1
        obtain ⟨b, us, rfl, w1, w2⟩ := r1
        refine ⟨a, b, vs', us, rfl, rfl, k2, J.sub _ _ w1, by rw [k3.len, w2.len]; exact sized_le hn, ?_⟩
        exact q pp _ _ σ PpS.refl (I1.upd hx rfl g1 (sl' := .own (xs ++ ys)) rfl ⟨_, rfl, k3.append w2⟩)
    · cases e
theorem sf_extF {st : Stmt} {i : Nat} {m : EM} (F : List Nat) (h : MtF X st rExtend i m) : SF X st (sExtF F i m) := let ⟨_, p, s⟩ := h; ⟨_, p, SS.extF F s⟩
end
end Dn
set_option Elab.async false
set_option linter.all false
set_option maxRecDepth 100000
set_option maxHeartbeats 2000000
namespace Dn
open PySem PySem.Spec PyProof.Rows L2
section
variable {X : Cx} {K : PySem.W.Frag}
theorem rpl_low {S S' : Hp} (low : ∀ d v, noL d = true → Rp K S d v → Rp K S' d v) : ∀ {ds : List D} {vs : List V}, noLL ds = true → RpL K S ds vs → RpL K S' ds vs
  | [], vs, _, r => by rw [r.nil_inv]; exact RpL.nil
  | d :: ds, vs, h, r => by
    obtain ⟨v, us, rfl, r1, r2⟩ := r.cons_inv
    simp only [noLL, Bool.and_eq_true] at h
    exact RpL.cons (low d v h.1 r1) (rpl_low low h.2 r2)
/-- x.extend(ys), the items know no list, the own slots stay own -/
def sExtS (i : Nat) (m : EM) : SM := fun E pl => match m E pl with
  | some (.lst ys, p) => match E[i]? with
    | some (.own xs) => bM (noLL ys && sized (xs.length + ys.length)) (some (.nx (E.set i (.own (xs ++ ys))) p)) none
    | _ => none
  | _ => none
theorem SS.extS {te : TE} {i : Nat} {m : EM} (s : ES K te m) : SS K (tDrop (tBM K "list" rExtend (tVar i) (tCons te tNil))) (sExtS i m) := fun C pp S H σ E pl D' out I e q => by
  unfold sExtS at e
  cases h : m E pl with
  | none => rw [h] at e; cases e
  | some r =>
    obtain ⟨d, p⟩ := r
    rw [h] at e
    cases d <;> dsimp only at e <;> try cases e
    rename_i ys
    split at e
    · rename_i xs hx
      cases hn : (noLL ys && sized (xs.length + ys.length)) with
      | false => rw [hn] at e; cases e
      | true =>
        rw [hn] at e; cases e
        rw [Bool.and_eq_true] at hn
        obtain ⟨a, vs, g1, g2, g3⟩ := I.ownL hx
        refine ⟨_, g1, .inl ⟨rfl, _, .inl (.inl g2)⟩, ?_⟩
        refine s pp _ H σ E pl (.lst ys) _ _ I.erA h fun v S1 H1 J a1 r1 => ?_
        obtain ⟨I1, low⟩ := I.back J a1
        obtain ⟨a', vs', k1, k2, k3⟩ := I1.ownL hx
        rw [g1] at k1; cases k1
        rw [rp_lst] at r1
        obtain ⟨b, us, rfl, w1, w2⟩ := r1
        refine ⟨a, b, vs', us, rfl, rfl, k2, J.sub _ _ w1, by rw [k3.len, w2.len]; exact sized_le hn.2, ?_⟩
        exact q pp _ _ σ PpS.refl (I1.upd hx rfl g1 (sl' := .own (xs ++ ys)) rfl ⟨_, rfl, k3.append (rpl_low low hn.1 w2)⟩)
    · cases e
theorem sf_extS {st : Stmt} {i : Nat} {m : EM} (h : MtF X st rExtend i m) : SF X st (sExtS i m) := let ⟨_, p, s⟩ := h; ⟨_, p, SS.extS s⟩
/-- x = a new list (own from here on) whose items know no list; the own slots stay own -/
def sOwnS (i : Nat) (m : AM) : SM := fun E pl => match m E pl with
  | some (ys, p) => bM (noLL ys) (some (.nx (E.set i (.own ys)) p)) none
  | none => none
theorem SS.ownS {te : TE} {m : AM} (i : Nat) (s : LS K te m) : SS K (tAsg te (gName i)) (sOwnS i m) := fun C pp S H σ E pl D' out I e q => by
  unfold sOwnS at e
  cases h : m E pl with
  | none => rw [h] at e; cases e
  | some r =>
    obtain ⟨xs, p⟩ := r
    rw [h] at e
    dsimp only at e
    cases hn : noLL xs with
    | false => rw [hn] at e; cases e
    | true =>
      rw [hn, bM_t] at e; cases e
      refine s pp _ H σ E pl xs p _ I.erA h fun a vs S1 H1 J a1 hp sp hq r1 => ?_
      obtain ⟨I1, low⟩ := I.back J a1
      have sm : Sminus S1 (allF E) E σ a = none := by unfold Sminus; split; rfl; exact sp
      exact q pp _ H1 _ PpS.refl (I1.newOwn i (sl := .own xs) rfl hq ⟨vs, rfl, rpl_low low hn r1⟩ sm (h0_none I hp) (pp_none I hp) (own_none I hp []))
theorem AsL.oS {st : Stmt} {i : Nat} {m : AM} (h : AsL X st i m) : SF X st (sOwnS i m) := let ⟨_, p, s⟩ := h; ⟨_, p, SS.ownS i s⟩
/-- x = a new list that nobody changes, whose items know no list -/
def sAsgLS (i : Nat) (m : AM) : SM := fun E pl => match m E pl with
  | some (ys, p) => bM (noLL ys) (some (.nx (E.set i (.val (.lst ys))) p)) none
  | none => none
theorem SS.asgLS {te : TE} {m : AM} (i : Nat) (s : LS K te m) : SS K (tAsg te (gName i)) (sAsgLS i m) := fun C pp S H σ E pl D' out I e q => by
  unfold sAsgLS at e
  cases h : m E pl with
  | none => rw [h] at e; cases e
  | some r =>
    obtain ⟨xs, p⟩ := r
    rw [h] at e
    dsimp only at e
    cases hn : noLL xs with
    | false => rw [hn] at e; cases e
    | true =>
      rw [hn, bM_t] at e; cases e
      refine s pp _ H σ E pl xs p _ I.erA h fun a vs S1 H1 J a1 hp sp hq r1 => ?_
      obtain ⟨J2, a2⟩ := I.erA.frz J a1 hp sp hq
      obtain ⟨I1, low⟩ := I.back J2 a2
      have r2 : RpL K (upd S1 a (.lst vs)) xs vs := r1.mono (sb_upd sp)
      have no : ¬ OwnA (allF E) E σ a := by
        rintro ⟨j, b, hj, e1, e2, e3⟩
        exact own_none I hp [] j b e1 e2 e3
      have sm : Sminus (upd S1 a (.lst vs)) (allF E) E σ a = some (.lst vs) := by unfold Sminus; rw [if_neg no]; exact upd_same
      exact GS.name i C pp _ H1 σ E p (.lst xs) (.ref a) _ _ I1 (rp_lst.mpr ⟨a, vs, rfl, sm, rpl_low low hn r2⟩) rfl fun σ' I2 => q pp _ H1 σ' PpS.refl I2
theorem AsL.sL {st : Stmt} {i : Nat} {m : AM} (h : AsL X st i m) : SF X st (sAsgLS i m) := let ⟨_, p, s⟩ := h; ⟨_, p, SS.asgLS i s⟩
end
end Dn
set_option Elab.async false
set_option linter.all false
set_option maxRecDepth 100000
set_option maxHeartbeats 2000000
namespace Dn
open PySem PySem.Spec PyProof.Rows L2
section
variable {X : Cx}
/-! x in (a, b): items of any depth -/
def rInT (K : PySem.W.Frag) : R2 := fun x y H Q => ∃ d ds, Dp K H x d ∧ Dp K H y (.tuple ds) ∧ SeqAt.shaped d = true ∧ SeqAt.shaped (.tuple ds) = true ∧ Q (.bl (ds.any fun z => PyData.eqv z d)) H
def rNotInT (K : PySem.W.Frag) : R2 := fun x y H Q => ∃ d ds, Dp K H x d ∧ Dp K H y (.tuple ds) ∧ SeqAt.shaped d = true ∧ SeqAt.shaped (.tuple ds) = true ∧ Q (.bl (!ds.any fun z => PyData.eqv z d)) H
theorem op_inTD (hu : X.A.units + 65 < cLine) : OpR X (compareOp .In) (rInT X.K) := by
  intro pins s σ H x y v u Q I rx ry h
  obtain ⟨d, ds, hd, he, sd, se, q⟩ := h
  obtain ⟨as, r1⟩ := Dp.reads I d x v hd rx
  obtain ⟨bs, r2⟩ := Dp.reads I (.tuple ds) y u he ry
  exact SeqAt.in_tuple_reads r2 r1 (SeqAt.canLay_of_shaped se) (SeqAt.canLay_of_shaped sd) (room_in_shaped sd hu) ⟨.bl _, H, I, rfl, q⟩
theorem op_notInTD (hu : X.A.units + 65 < cLine) : OpR X (compareOp .NotIn) (rNotInT X.K) := by
  intro pins s σ H x y v u Q I rx ry h
  obtain ⟨d, ds, hd, he, sd, se, q⟩ := h
  obtain ⟨as, r1⟩ := Dp.reads I d x v hd rx
  obtain ⟨bs, r2⟩ := Dp.reads I (.tuple ds) y u he ry
  exact SeqAt.notIn_tuple_reads r2 r1 (SeqAt.canLay_of_shaped se) (SeqAt.canLay_of_shaped sd) (room_in_shaped sd hu) ⟨.bl _, H, I, rfl, q⟩
def dInT : D → D → Option D := fun a b => match b with
  | .tup xs => if fl 20 a && xs.all (fl 20) then some (.bl (xs.any fun z => eqd z a)) else none
  | _ => none
def dNotInT : D → D → Option D := fun a b => match b with
  | .tup xs => if fl 20 a && xs.all (fl 20) then some (.bl (!xs.any fun z => eqd z a)) else none
  | _ => none
theorem od_inT (hu : X.A.units + 65 < cLine) : OpD X (compareOp .In) dInT := ⟨_, op_inTD hu, fun S H a b d v u Q hs ra rb e q => by
  unfold dInT at e; split at e <;> try cases e
  split at e <;> cases e
  rename_i xs h
  rw [Bool.and_eq_true] at h
  have g2 : fl 21 (.tup xs) = true := by rw [fl_tup]; exact h.2
  have dl := dp_py hs 21 _ u g2 rb
  have sl := shaped_py g2 (by decide)
  simp only [toPy] at dl sl
  refine ⟨toPy a, toPyL xs, dp_py hs 20 a v h.1 ra, dl, shaped_py h.1 (by decide), sl, ?_⟩
  rw [any_py h.1 h.2]
  exact q _ S H (Nw.refl hs) (rp_bl.mpr rfl)⟩
theorem od_notInT (hu : X.A.units + 65 < cLine) : OpD X (compareOp .NotIn) dNotInT := ⟨_, op_notInTD hu, fun S H a b d v u Q hs ra rb e q => by
  unfold dNotInT at e; split at e <;> try cases e
  split at e <;> cases e
  rename_i xs h
  rw [Bool.and_eq_true] at h
  have g2 : fl 21 (.tup xs) = true := by rw [fl_tup]; exact h.2
  have dl := dp_py hs 21 _ u g2 rb
  have sl := shaped_py g2 (by decide)
  simp only [toPy] at dl sl
  refine ⟨toPy a, toPyL xs, dp_py hs 20 a v h.1 ra, dl, shaped_py h.1 (by decide), sl, ?_⟩
  rw [any_py h.1 h.2]
  exact q _ S H (Nw.refl hs) (rp_bl.mpr rfl)⟩
end
end Dn
set_option Elab.async false
set_option linter.all false
set_option maxRecDepth 100000
set_option maxHeartbeats 2000000
namespace Dn
open PySem PySem.Spec PyProof.Rows L2
section
variable {X : Cx} {K : PySem.W.Frag}
/-! a = b = e -/
def g2M (f1 f2 : TM) : TM := fun d E => (f1 d E).bind (f2 d)
def gB (g1 g2 : TG) : TG := fun x σ H Q => g1 x σ H fun σ1 H1 => g2 x σ1 H1 Q
theorem GS.both {g1 g2 : TG} {f1 f2 : TM} (s1 : GS K g1 f1) (s2 : GS K g2 f2) : GS K (gB g1 g2) (g2M f1 f2) := fun C pp S H σ E pl d v E' Q I r e q => by
  unfold g2M at e
  cases h : f1 d E with
  | none => rw [h] at e; cases e
  | some E1 =>
    rw [h] at e
    exact s1 C pp S H σ E pl d v E1 _ I r h fun σ1 I1 => s2 C pp S H σ1 E1 pl d v E' Q I1 r e q
theorem sf_asg2 {t1 t2 e : Expr} {f1 f2 : TM} {m : EM} {pos : Pos} (F : List Nat) (hg1 : GF X t1 f1) (hg2 : GF X t2 f2) (he : EF X e m) (ha : (assignEach [t1, t2] X.env).map (·.2) = [assign t1 X.env, assign t2 X.env] := by rfl) (hw : swappedStores [t1, t2] e X.env = pure none := by rfl) :
    SF X (.Assign [t1, t2] e pos) (sAsgF F (g2M f1 f2) m) :=
  let ⟨_, p, s⟩ := he; let ⟨_, p1, s1⟩ := hg1; let ⟨_, p2, s2⟩ := hg2
  ⟨tAsg _ (gB _ _), ps_asg2 p p1 p2 ha hw, SS.asgF F s (GS.both s1 s2)⟩
@[simp] theorem x_g2M (f1 f2 : TM) (d : D) (E : Env) : g2M f1 f2 d E = (f1 d E).bind (f2 d) := rfl
/-! l.index(x) -/
def idxD (b : D) : List D → Option Nat
  | [] => none
  | x :: xs => if eqd x b then some 0 else (idxD b xs).map (· + 1)
def dIndex : D → D → Option D := fun a b => match a with
  | .lst xs => if fl 20 b && xs.all (fl 20) then (idxD b xs).map fun j => .int (j : Nat) else none
  | _ => none
theorem idx_py {n : Nat} {b : D} (hb : fl n b = true) : ∀ {xs : List D} {j : Nat}, xs.all (fl n) = true → idxD b xs = some j →
    ∃ z, (toPyL xs)[j]? = some z ∧ PyData.eqv z (toPy b) = true ∧ ∀ (m : Nat) (z' : PyData), m < j → (toPyL xs)[m]? = some z' → PyData.eqv z' (toPy b) = false
  | [], j, _, h => by cases h
  | x :: xs, j, hx, h => by
    simp only [List.all_cons, Bool.and_eq_true] at hx
    unfold idxD at h
    have e := eqd_py n x b hx.1 hb
    cases hq : eqd x b with
    | true =>
      rw [hq, if_pos rfl] at h; cases h
      exact ⟨toPy x, by simp [toPyL], by rw [e, hq], fun m z' hm => by omega⟩
    | false =>
      rw [hq, if_neg (by simp)] at h
      cases hi : idxD b xs with
      | none => rw [hi] at h; cases h
      | some i =>
        rw [hi] at h; cases h
        obtain ⟨z, h1, h2, h3⟩ := idx_py hb hx.2 hi
        refine ⟨z, by simp [toPyL, h1], h2, fun m z' hm hz => ?_⟩
        cases m with
        | zero => simp [toPyL] at hz; subst hz; rw [e, hq]
        | succ m => simp [toPyL] at hz; exact h3 m z' (by dsimp only at hm; omega) hz
theorem ES.index {to te : TE} {mo m : EM} (so : ES K to mo) (s : ES K te m) : ES K (tBM K "list" (rIndexD K) to (tCons te tNil)) (mOp dIndex mo m) := fun pp S H σ E pl d pl' Q I e q => by
  obtain ⟨x, p1, e1, f1⟩ := seqM_some e
  obtain ⟨y, p2, e2, f2⟩ := seqM_some f1
  obtain ⟨e3, rfl⟩ := lftM_some f2
  clear f1 f2 e
  cases x <;> try cases e3
  rename_i xs
  replace e3 : (if fl 20 y && xs.all (fl 20) then (idxD y xs).map fun j => D.int (j : Nat) else none) = some d := e3
  split at e3 <;> try cases e3
  rename_i h
  rw [Bool.and_eq_true] at h
  cases hi : idxD y xs with
  | none => rw [hi] at e3; cases e3
  | some j =>
  rw [hi] at e3; cases e3
  obtain ⟨z, z1, z2, z3⟩ := idx_py h.1 h.2 hi
  refine so pp S H σ E pl (.lst xs) p1 _ I e1 fun v S1 H1 I1 a1 r1 => ?_
  have r1' := r1
  rw [rp_lst] at r1'
  obtain ⟨a, vs, rfl, w1, w2⟩ := r1'
  refine ⟨.inl ⟨rfl, _, .inl (.inl (I1.sub _ _ w1))⟩, ?_⟩
  refine s pp S1 H1 σ E p1 y _ _ I1 e2 fun u S2 H2 I2 a2 r2 => ?_
  have g2 : fl 21 (.lst xs) = true := by rw [fl_lst]; exact h.2
  have dl := dp_py I2.sub 21 _ _ g2 (r1.mono a2.s)
  have sl := shaped_py g2 (by decide)
  simp only [toPy] at dl sl
  exact ⟨a, u, toPy y, toPyL xs, j, z, rfl, rfl, dl, dp_py I2.sub 20 y u h.1 r2, sl, shaped_py h.1 (by decide), z1, z2, z3, q _ S2 H2 I2 (a1.trans a2) (rp_int.mpr rfl)⟩
theorem ef_index {o e : Expr} {mo m : EM} {apos cpos : Pos} (hu : X.A.units + 65 < cLine) (ho : EF X o mo) (he : EF X e m)
    (hbase : attributeBase o "index" X.env (eval o X.env) = eval o X.env := by rfl)
    (hfew : ((backTo cpos (starEach [e] X.env)).all (fun x => !x.1) && (backToKw cpos (keywordEach [] X.env)).all (fun x => x.1.isSome)
      && decide ([e].length + ([] : List Keyword).length + (if ([] : List Keyword).isEmpty then 0 else 1) < 30)) = true := by rfl)
    (hline : (apos.endLine == cpos.line) = true := by rfl) (hs : starEach [e] X.env = (false, eval e X.env) :: starEach [] X.env := by rfl) (hplain : (backTo cpos (starEach [] X.env)).any (·.1) = false := by rfl) :
    EF X (.Call (.Attribute o "index" apos) [e] [] cpos) (mOp dIndex mo m) :=
  let ⟨_, p1, s1⟩ := ho; let ⟨_, p2, s2⟩ := he
  ⟨_, pe_bm PySem.F.plainAttrs_list PySem.F.slot_list_index PySem.F.type_list_index (mt_indexD hu) p1 (pa_cons p2 pa_nil hs) hbase hfew hline hs hplain, ES.index s1 s2⟩
end
end Dn
set_option Elab.async false
set_option linter.all false
set_option maxRecDepth 100000
set_option maxHeartbeats 4000000
/-! zip(a, b, strict=False) of lists -/
namespace Zs
open PySem PySem.Spec PyProof.Rows L2 Builtin
abbrev szF2 (h : Heap) (o1 o2 : Obj) : Heap := (gzO2 h o1 o2).push { cls := .type "zip", data := .fields #[.none, .bool false, .bool false, .ref ((h.push o1).push o2).objs.size, .ref (gzT2 h o1 o2).objs.size] }
set_option maxHeartbeats 1000000 in
theorem meets_zf {v1 v2 : Value} {o1 o2 : Obj} {H1 H2 : Heap → Prop} (B1 : Begins v1 o1 H1) (B2 : Begins v2 o2 H2) :
    Meets (Builtin.«zip.__new__» ⟨[.type "zip", v1, v2], [(Str.ofString "strict", .bool false)]⟩) (fun _ R s => (H1 s.heap ∧ H2 s.heap) ∧
      R (.ok (.ret (.ref (gzO2 s.heap o1 o2).objs.size))) { s with heap := szF2 s.heap o1 o2 }) :=
  .of_wp fun prog w A R s h => by
    obtain ⟨hp, g, d, tk, os⟩ := s; obtain ⟨⟨h1, h2⟩, h⟩ := h
    have hsub := sub_zip
    have q1 : ∀ {A' : Around} {E : Value → Shared → Prop} {Q : Value → Shared → Prop}, Q (.ref hp.objs.size) ⟨(hp.push o1), g, d, tk, os⟩ → wpAny (model prog w) A' (pyIter v1) Q E ⟨hp, g, d, tk, os⟩ :=
      fun q => B1.iter prog w _ _ ⟨hp, g, d, tk, os⟩ _ (B1.keeps _ _ h1 fun b o' e => e) q
    have q2 : ∀ {A' : Around} {E : Value → Shared → Prop} {Q : Value → Shared → Prop}, Q (.ref (hp.push o1).objs.size) ⟨((hp.push o1).push o2), g, d, tk, os⟩ → wpAny (model prog w) A' (pyIter v2) Q E ⟨(hp.push o1), g, d, tk, os⟩ :=
      fun q => B2.iter prog w _ _ ⟨(hp.push o1), g, d, tk, os⟩ _ (B2.keeps _ _ h2 fun b o' e => (Heap.get?_push_of_some _ e)) q
    have e1 : (Str.ofString "strict" == ("strict" : Str)) = true := by decide +kernel
    have e2 : (Str.ofString "strict" != ("strict" : Str)) = false := by decide +kernel
    wp_walk using q1, q2
    all_goals first | exact ⟨_, rfl, h⟩ | skip
section
variable {prog : Program} {w : World} {A : Around} {E : Value → Shared → Prop} {s : Shared}
theorem zf_begins {v1 v2 : Value} {o1 o2 : Obj} {H1 H2 : Heap → Prop} {Q : Value → Shared → Prop} (B1 : Begins v1 o1 H1) (B2 : Begins v2 o2 H2) (h1 : H1 s.heap) (h2 : H2 s.heap)
    (h : ∀ h', IsZip h' (s.heap.objs.size + 4) (s.heap.objs.size + 2) (s.heap.objs.size + 3) .none → IsPair h' (s.heap.objs.size + 2) (.ref s.heap.objs.size) (.ref (s.heap.objs.size + 1)) →
      IsPair h' (s.heap.objs.size + 3) .none .none → h'.get? s.heap.objs.size = some o1 → h'.get? (s.heap.objs.size + 1) = some o2 → h'.objs.size = s.heap.objs.size + 5 →
      (∀ c o, s.heap.get? c = some o → h'.get? c = some o) → Q (.ref (s.heap.objs.size + 4)) { s with heap := h' }) :
    wpAny (model prog w) A (call (.type "zip") [v1, v2] [(Str.ofString "strict", .bool false)]) Q E s := by
  refine callType_newKw F.called_zip (by decide) (F.typeCall_zs _ _ _) (F.newCall_zs _ _ _) (fun obj => F.init_zs obj _ _ _) F.entry_zip_new
    (meets_zf B1 B2) ⟨⟨h1, h2⟩, ?_⟩
  have z1 : (s.heap.push o1).objs.size = s.heap.objs.size + 1 := by rw [Heap.size_push]
  have z2 : ((s.heap.push o1).push o2).objs.size = s.heap.objs.size + 2 := by rw [Heap.size_push, z1]
  have zT : (gzT2 s.heap o1 o2).objs.size = s.heap.objs.size + 3 := by rw [Heap.size_push, z2]
  have zO : (gzO2 s.heap o1 o2).objs.size = s.heap.objs.size + 4 := by rw [Heap.size_push, zT]
  have zZ : (szF2 s.heap o1 o2).objs.size = s.heap.objs.size + 5 := by rw [Heap.size_push, zO]
  have gZ : (szF2 s.heap o1 o2).get? (gzO2 s.heap o1 o2).objs.size = some { cls := .type "zip", data := .fields #[.none, .bool false, .bool false, .ref ((s.heap.push o1).push o2).objs.size, .ref (gzT2 s.heap o1 o2).objs.size] } := Heap.get?_push_size _ rfl
  have gO : (szF2 s.heap o1 o2).get? (gzT2 s.heap o1 o2).objs.size = some { cls := .type "tuple", data := .seq #[.none, .none] } := Heap.get?_push_of_some _ (Heap.get?_push_size _ rfl)
  have gT : (szF2 s.heap o1 o2).get? ((s.heap.push o1).push o2).objs.size = some { cls := .type "tuple", data := .seq #[.ref s.heap.objs.size, .ref (s.heap.push o1).objs.size] } := Heap.get?_push_of_some _ (Heap.get?_push_of_some _ (Heap.get?_push_size _ rfl))
  have g1 : (szF2 s.heap o1 o2).get? s.heap.objs.size = some o1 := Heap.get?_push_of_some _ (Heap.get?_push_of_some _ (Heap.get?_push_of_some _ (Heap.get?_push_of_some _ (Heap.get?_push_size _ B1.free))))
  have g2 : (szF2 s.heap o1 o2).get? (s.heap.push o1).objs.size = some o2 := Heap.get?_push_of_some _ (Heap.get?_push_of_some _ (Heap.get?_push_of_some _ (Heap.get?_push_size _ B2.free)))
  rw [zO, zT, z2] at gZ
  rw [zT] at gO
  rw [z2, z1] at gT
  rw [z1] at g2
  show _ ∧ _
  rw [zO]
  exact ⟨⟨_, gZ, rfl⟩, h _ gZ gT gO g1 g2 zZ fun c o e => Heap.get?_push_of_some _ (Heap.get?_push_of_some _ (Heap.get?_push_of_some _ (Heap.get?_push_of_some _ (Heap.get?_push_of_some _ e))))⟩
end
theorem pi_zf {X : Cx} {e e2 : Expr} {ta : TA} {p pos tpos kp cp : Pos} {j : Nat} {elts : List Expr} {kk : Nat} (hg : Gl X "zip") (hm : X.mg "zip" = none) (ha : PA X [e, e2] ta)
    (hs : starEach [e, e2] X.env = (false, eval e X.env) :: starEach [e2] X.env := by rfl) (hpl : (backTo pos (starEach [e2] X.env)).any (·.1) = false := by rfl) :
    PI X (.Tuple elts kk tpos) (.Call (.Name "zip" p) [e, e2] [⟨some "strict", .Constant (.bool false) j cp, kp⟩] pos) (iZip X.K ta) := by
  refine ⟨fun pins s σ H R I h => ?_⟩
  have he : eval (.Call (.Name "zip" p) [e, e2] [⟨some "strict", .Constant (.bool false) j cp, kp⟩] pos) X.env = (do callWith pos (← eval (.Name "zip" p) X.env) [] (backTo pos (starEach [e, e2] X.env)) (backToKw pos (keywordEach [⟨some "strict", .Constant (.bool false) j cp, kp⟩] X.env))) := by rfl
  rw [he]
  refine wpAny_bind (ld_blt I hg hm PyProof.Rows.boot_zip ?_)
  have hr := ha.run pos pins s σ H _ I h
  rw [hs] at hr ⊢
  refine callWith_tyKw (by show (false || (backTo pos (starEach [e2] X.env)).any (·.1)) = false; rw [hpl]; rfl) rfl (evalArgs_kwB rfl (thn hr fun us s1 ⟨vs, H1, I1, r1, q1⟩ => kws_cons ?_))
  refine wpAny_of_eq (a := Value.bool false) rfl ?_
  refine kws_nil ?_
  obtain ⟨a, b, xs, ys, ex, hqx, hqy, q⟩ := q1
  subst ex
  cases r1 with
  | cons r rr =>
    cases rr with
    | cons r' rr =>
      cases rr
      cases r
      cases r'
      have fresh5 : ∀ c, c ∈ [s1.heap.objs.size + 4, s1.heap.objs.size + 2, s1.heap.objs.size + 3, s1.heap.objs.size, s1.heap.objs.size + 1] → FpOk X pins H1 c := fun c hcm => by
        have e' : c = s1.heap.objs.size + 4 ∨ c = s1.heap.objs.size + 2 ∨ c = s1.heap.objs.size + 3 ∨ c = s1.heap.objs.size ∨ c = s1.heap.objs.size + 1 := by simpa using hcm
        have hle : s1.heap.objs.size ≤ c := by
          rcases e' with z | z | z | z | z
          · rw [z]; exact Nat.le_add_right _ _
          · rw [z]; exact Nat.le_add_right _ _
          · rw [z]; exact Nat.le_add_right _ _
          · rw [z]; exact Nat.le_refl _
          · rw [z]; exact Nat.le_add_right _ _
        exact I1.fpOk hle (I1.hok.fresh hle)
      obtain ⟨its, rv, p1, _⟩ := I1.list hqx
      obtain ⟨its2, rv2, p2, _⟩ := I1.list hqy
      refine zf_begins (begs a its.toArray true) (begs b its2.toArray true) p1.isList p2.isList fun h' hz hTI hTO g1 g2 hsz hk => wpAny_pyIter_zip hz ?_
      have I2 : Inv X pins σ H1 { s1 with heap := h' } := I1.kept (t' := s1.toks) hk
      exact ⟨s1.heap.objs.size + 4, [s1.heap.objs.size + 4, s1.heap.objs.size + 2, s1.heap.objs.size + 3, s1.heap.objs.size, s1.heap.objs.size + 1], _, _, H1, rfl, I2, turn_zip (PySem.W.ktu_apart s1.heap.objs.size a b p1.lt p2.lt), ⟨hz, hTI, ⟨_, _, hTO⟩, bob_it (d := true) g1, bob_it (d := true) g2⟩, fresh5, q⟩
end Zs
namespace Dn
open PySem PySem.Spec PyProof.Rows L2
def zipF : List D → Option (List D)
  | [.lst xs, .lst ys] => some (zipD xs ys)
  | _ => none
theorem js_zf {K : PySem.W.Frag} {S : Hp} {a b : Addr} {xs ys : List D} {vs us : List V} (h1 : S a = some (.lst vs)) (h2 : S b = some (.lst us)) (r1 : RpL K S xs vs) (r2 : RpL K S ys us) : JS K S (Itz K a b) (zipD xs ys) := by
  have q1 : ∀ {S' : Hp}, Sb S S' → SqL K S' a vs := fun e => sb_l e (.inl (.inl h1))
  have q2 : ∀ {S' : Hp}, Sb S S' → SqL K S' b us := fun e => sb_l e (.inl (.inl h2))
  refine ⟨fun i d S' H e1 e2 e3 => ?_, fun i S' H e1 e2 e3 => ?_⟩
  · obtain ⟨x, y, g1, g2, rfl⟩ := zipD_get _ _ _ _ e3
    obtain ⟨v, k1, k2⟩ := r1.get g1
    obtain ⟨u, k3, k4⟩ := r2.get g2
    refine ⟨⟨vs, us, v, u, q1 (e1.trans e2), q2 (e1.trans e2), k1, k3⟩, fun z H' hy => ?_⟩
    obtain ⟨T, p, q, rfl, hT, rfl, hp, hq⟩ := hy
    have := hp vs (q1 (e1.trans e2))
    rw [k1] at this; cases this
    have := hq us (q2 (e1.trans e2))
    rw [k3] at this; cases this
    have nw := Nw.new (o := .tup [v, u]) e2 hT
    exact ⟨_, nw, rp_tup.mpr ⟨T, _, rfl, SqT.of upd_same, RpL.cons (k2.mono (e1.trans nw.s)) (RpL.cons (k4.mono (e1.trans nw.s)) RpL.nil)⟩⟩
  · rw [zipD_len] at e3
    exact ⟨vs, us, q1 (e1.trans e2), q2 (e1.trans e2), by rw [r1.len, r2.len]; omega⟩
theorem if_zf {X : Cx} {e e2 : Expr} {m : AM} {p pos tpos kp cp : Pos} {j : Nat} {elts : List Expr} {kk : Nat} (hg : Gl X "zip") (hm : X.mg "zip" = none) (ha : AF X [e, e2] m) (hs : nst e = true := by rfl) (hs2 : nst e2 = true := by rfl) :
    IF X (.Tuple elts kk tpos) (.Call (.Name "zip" p) [e, e2] [⟨some "strict", .Constant (.bool false) j cp, kp⟩] pos) (mRng zipF m) := by
  obtain ⟨t, pa, s⟩ := ha
  have hb : (backTo pos (starEach [e2] X.env)).any (·.1) = false := back_nst (by simp only [nsts, hs2]; rfl)
  refine ⟨_, Zs.pi_zf hg hm pa (star_nst hs) hb, fun pp S H σ E pl ds pl' R I e q => ?_⟩
  obtain ⟨x, q1, e1, f1⟩ := seqM_some e
  obtain ⟨e3, rfl⟩ := lftM_some f1
  refine s pp S H σ E pl x _ _ I e1 fun v S1 H1 J a1 r1 => ?_
  unfold zipF at e3
  split at e3 <;> try cases e3
  rename_i xs ys
  obtain ⟨v1, v2, rfl, w1, w2⟩ := rpl_two r1
  rw [rp_lst] at w1 w2
  obtain ⟨a, vs, rfl, g1, g2⟩ := w1
  obtain ⟨b, us, rfl, g3, g4⟩ := w2
  exact ⟨a, b, vs, us, rfl, sb_l J.sub (.inl (.inl g1)), sb_l J.sub (.inl (.inl g3)), q _ S1 H1 J a1 (js_zf g1 g3 g2 g4)⟩
/-! xs[::-1] -/
def lrev : D → Option (List D)
  | .lst xs => some xs.reverse
  | _ => none
def mRevL (m : EM) : AM := seqM m fun x => lftM (lrev x)
theorem RpL.rev {K : PySem.W.Frag} {S : Hp} : ∀ {ds : List D} {vs : List V}, RpL K S ds vs → RpL K S ds.reverse vs.reverse
  | [], vs, r => by rw [r.nil_inv]; exact RpL.nil
  | d :: ds, vs, r => by
    obtain ⟨v, us, rfl, r1, r2⟩ := r.cons_inv
    rw [List.reverse_cons, List.reverse_cons]
    exact r2.rev.append (RpL.cons r1 RpL.nil)
theorem lf_rev {X : Cx} {e : Expr} {m : EM} {k : Nat} {p1 p2 p3 pos : Pos} (he : EF X e m) : LF X (.Subscript e (.Slice none none (some (.UnaryOp .USub (.Constant (.int 1) k p1) p2)) p3) pos) (mRevL m) := by
  obtain ⟨t, p, s⟩ := he
  refine ⟨_, pe_revL p, fun pp S H σ E pl d pl' Q I e q => ?_⟩
  obtain ⟨x, q1, e1, f1⟩ := seqM_some e
  obtain ⟨e2, rfl⟩ := lftM_some f1
  refine s pp S H σ E pl x _ _ I e1 fun v S1 H1 I1 a1 r1 => ?_
  unfold lrev at e2
  split at e2 <;> cases e2
  rw [rp_lst] at r1
  obtain ⟨b, vs, rfl, g1, g2⟩ := r1
  exact ⟨b, vs, rfl, .inl (.inl (I1.sub _ _ g1)), fun p hp => q p _ S1 _ (I1.nw (nw_new I1.sub hp)) (a1.trans (nw_new I1.sub hp).ad) (none_ad a1 hp) (sb_none I1.sub hp) upd_same g2.rev⟩
/-! x.insert(i, y) -/
def rIns : V → List V → Hp → VK → Prop := fun x vs H Q => ∃ (l : Addr) (xs : List V) (i : Int) (y : V), x = .ref l ∧ vs = [.int i, y] ∧ H l = some (.lst xs) ∧ xs.length < sizeLine ∧ 0 ≤ i ∧ i < 2 ^ 63 ∧
    Q .non (upd H l (.lst (xs.take i.toNat ++ [y] ++ xs.drop i.toNat)))
def insD (xs : List D) (k : Int) (d : D) : List D := xs.take k.toNat ++ [d] ++ xs.drop k.toNat
def sInsF (i : Nat) (m : AM) : SM := fun E pl => match m (vw [] E) pl with
  | some ([.int k, d], p) => match E[i]? with
    | some (.own xs) => bM (sized xs.length && (decide (0 ≤ k) && decide (k < 2 ^ 60))) (some (.nx (E.set i (.own (insD xs k d))) p)) none
    | _ => none
  | _ => none
theorem SS.insF {K : PySem.W.Frag} {t : TA} {i : Nat} {m : AM} (s : AS K t m) : SS K (tDrop (tBM K "list" rIns (tVar i) t)) (sInsF i m) := fun C pp S H σ E pl D' out I e q => by
  unfold sInsF at e
  split at e <;> try cases e
  rename_i k d p hm
  split at e <;> try cases e
  rename_i xs hx
  cases hn : (sized xs.length && (decide (0 ≤ k) && decide (k < 2 ^ 60))) with
  | false => rw [hn] at e; cases e
  | true =>
    rw [hn] at e; cases e
    simp only [Bool.and_eq_true, decide_eq_true_eq] at hn
    obtain ⟨hz, hk0, hk1⟩ := hn
    have hx' : (frz [] E)[i]? = some (.own xs) := hx
    obtain ⟨a, vs, g1, g2, g3⟩ := I.ownL hx
    refine ⟨_, g1, .inl ⟨rfl, _, .inl (.inl g2)⟩, ?_⟩
    refine s pp _ H σ _ pl _ _ _ (I.er []) hm fun us S1 H1 J a1 r1 => ?_
    have I1 := I.fin J a1
    obtain ⟨a', vs', k1, k2, k3⟩ := I1.ownL hx'
    rw [g1] at k1; cases k1
    obtain ⟨v1, v2, rfl, w1, w2⟩ := rpl_two r1
    rw [rp_int] at w1
    subst w1
    refine ⟨a, vs', k, v2, rfl, rfl, k2, by rw [k3.len]; exact sized_lt hz, hk0, by omega, ?_⟩
    exact q pp _ _ σ PpS.refl (I1.upd hx' rfl g1 (sl' := .own (insD xs k d)) rfl ⟨_, rfl, ((k3.take _).append (RpL.cons w2 RpL.nil)).append (k3.drop _)⟩)
theorem sf_ins {X : Cx} {st : Stmt} {es : List Expr} {i : Nat} {m : AM} (ha : AF X es m) (mk : ∀ t, PA X es t → PS X st (tDrop (tBM X.K "list" rIns (tVar i) t))) : SF X st (sInsF i m) := let ⟨_, p, s⟩ := ha; ⟨_, mk _ p, SS.insF s⟩
/-! equations -/
@[simp] theorem x_mRevL (m : EM) (E : Env) (pl : Option Pl) : mRevL m E pl = (m E pl).bind fun a => (lrev a.1).map fun d => (d, a.2) := by
  unfold mRevL seqM
  cases m E pl with
  | none => rfl
  | some r => unfold lftM; rfl
@[simp] theorem x_lrev (xs : List D) : lrev (.lst xs) = some xs.reverse := rfl
@[simp] theorem x_zipF (xs ys : List D) : zipF [.lst xs, .lst ys] = some (zipD xs ys) := rfl
theorem ins_ok {i : Nat} {m : AM} {E : Env} {pl p : Option Pl} {k : Int} {d : D} {xs : List D} (h1 : m (vw [] E) pl = some ([.int k, d], p)) (h2 : E[i]? = some (.own xs)) (h3 : sized xs.length = true) (h4 : 0 ≤ k) (h5 : k < 2 ^ 60) : sInsF i m E pl = some (.nx (E.set i (.own (insD xs k d))) p) := by
  unfold sInsF
  rw [h1]
  dsimp only
  rw [h2]
  dsimp only
  rw [h3, decide_eq_true h4, decide_eq_true h5]; rfl
end Dn
set_option Elab.async false
set_option linter.all false
set_option maxRecDepth 100000
set_option maxHeartbeats 2000000
namespace Dn
open PySem PySem.Spec PyProof.Rows L2

/-! ### plain runs: equations -/
section
variable {α β : Type} {E : Env} {pl p1 p2 : Option Pl}
@[simp] theorem x_oks (d : α) : oks d E pl = some (d, pl) := rfl
theorem x_seq {m : Env → Option Pl → Option (α × Option Pl)} {f : α → Env → Option Pl → Option (β × Option Pl)} {a : α} (h : m E pl = some (a, p1)) : seqM m f E pl = f a E p1 := by unfold seqM; rw [h]
@[simp] theorem x_lft (o : Option α) : lftM o E pl = o.map fun d => (d, pl) := rfl
@[simp] theorem x_seqM (m : Env → Option Pl → Option (α × Option Pl)) (f : α → Env → Option Pl → Option (β × Option Pl)) : seqM m f E pl = (m E pl).bind fun r => f r.1 E r.2 := by
  unfold seqM; cases m E pl with
  | none => rfl
  | some r => rfl
@[simp] theorem x_mC (d : D) : mC d E pl = some (d, pl) := rfl
@[simp] theorem x_mOp (g : D → D → Option D) (ma mb : EM) : mOp g ma mb E pl = (ma E pl).bind fun a => (mb E a.2).bind fun b => (g a.1 b.1).map fun d => (d, b.2) := by
  unfold mOp; simp only [x_seqM, x_lft]
@[simp] theorem x_mUn (g : D → Option D) (ma : EM) : mUn g ma E pl = (ma E pl).bind fun a => (g a.1).map fun d => (d, a.2) := by
  unfold mUn; simp only [x_seqM, x_lft]
@[simp] theorem x_aNil : aNil E pl = some ([], pl) := rfl
@[simp] theorem x_aCons (ma : EM) (mr : AM) : aCons ma mr E pl = (ma E pl).bind fun a => (mr E a.2).bind fun b => some (a.1 :: b.1, b.2) := by
  unfold aCons; simp only [x_seqM, x_oks]
@[simp] theorem x_mCall (g : List D → Option D) (m : AM) : mCall g m E pl = (m E pl).bind fun a => (g a.1).map fun d => (d, a.2) := by
  unfold mCall; simp only [x_seqM, x_lft]
@[simp] theorem x_mCallL (g : List D → Option (List D)) (m : AM) : mCallL g m E pl = (m E pl).bind fun a => (g a.1).map fun d => (d, a.2) := by
  unfold mCallL; simp only [x_seqM, x_lft]
@[simp] theorem x_bT {m n : α} : bM true m n = m := rfl
@[simp] theorem x_bF {m n : α} : bM false m n = n := rfl
@[simp] theorem x_mTru (m : EM) : mTru m E pl = (m E pl).bind fun a => (tru a.1).map fun d => (d, a.2) := by unfold mTru; simp only [x_seqM, x_lft]
@[simp] theorem x_mTst (m : EM) : mTst m E pl = (m E pl).bind fun a => (blD a.1).map fun d => (d, a.2) := by unfold mTst; simp only [x_seqM, x_lft]
@[simp] theorem x_blD (b : Bool) : blD (.bl b) = some b := rfl
@[simp] theorem x_mNot (m : BM) : mNot m E pl = (m E pl).bind fun a => some (!a.1, a.2) := by unfold mNot; simp only [x_seqM, x_oks]
@[simp] theorem x_mAnd (m n : BM) : mAnd m n E pl = (m E pl).bind fun a => bM a.1 (n E a.2) (some (false, a.2)) := by
  unfold mAnd; simp only [x_seqM]
  cases m E pl with
  | none => rfl
  | some r => obtain ⟨b, p⟩ := r; cases b <;> rfl
@[simp] theorem x_mOr (m n : BM) : mOr m n E pl = (m E pl).bind fun a => bM a.1 (some (true, a.2)) (n E a.2) := by
  unfold mOr; simp only [x_seqM]
  cases m E pl with
  | none => rfl
  | some r => obtain ⟨b, p⟩ := r; cases b <;> rfl
@[simp] theorem x_mIte (c : BM) (a b : EM) : mIte c a b E pl = (c E pl).bind fun t => bM t.1 (a E t.2) (b E t.2) := by
  unfold mIte; simp only [x_seqM]
  cases c E pl with
  | none => rfl
  | some r => obtain ⟨t, p⟩ := r; cases t <;> rfl
@[simp] theorem x_mAndV (a b : EM) : mAndV a b E pl = (a E pl).bind fun x => (tru x.1).bind fun t => bM t (b E x.2) (some (x.1, x.2)) := by
  unfold mAndV; simp only [x_seqM, x_lft]
  cases a E pl with
  | none => rfl
  | some r =>
    obtain ⟨d, p⟩ := r
    simp only [Option.bind_some]
    cases tru d with
    | none => rfl
    | some t => cases t <;> rfl
@[simp] theorem x_mOrV (a b : EM) : mOrV a b E pl = (a E pl).bind fun x => (tru x.1).bind fun t => bM t (some (x.1, x.2)) (b E x.2) := by
  unfold mOrV; simp only [x_seqM, x_lft]
  cases a E pl with
  | none => rfl
  | some r =>
    obtain ⟨d, p⟩ := r
    simp only [Option.bind_some]
    cases tru d with
    | none => rfl
    | some t => cases t <;> rfl
@[simp] theorem x_mNotV (a : EM) : mNotV a E pl = (a E pl).bind fun x => (tru x.1).map fun t => (.bl (!t), x.2) := by
  unfold mNotV; simp only [x_seqM, x_lft, x_oks]
  cases a E pl with
  | none => rfl
  | some r =>
    obtain ⟨d, p⟩ := r
    simp only [Option.bind_some]
    cases tru d with
    | none => rfl
    | some t => cases t <;> rfl
@[simp] theorem x_mTup (m : AM) : mTup m E pl = (m E pl).bind fun a => bM (sized a.1.length) (some (.tup a.1, a.2)) none := by
  unfold mTup; simp only [x_seqM]
  cases m E pl with
  | none => rfl
  | some r => obtain ⟨xs, p⟩ := r; simp only [Option.bind_some]; cases sized xs.length <;> rfl
@[simp] theorem x_mLstL (m : AM) : mLstL m E pl = (m E pl).bind fun a => bM (sized a.1.length) (some (a.1, a.2)) none := by
  unfold mLstL; simp only [x_seqM]
  cases m E pl with
  | none => rfl
  | some r => obtain ⟨xs, p⟩ := r; simp only [Option.bind_some]; cases sized xs.length <;> rfl
@[simp] theorem x_mFrz (m : AM) : mFrz m E pl = (m E pl).bind fun a => some (.lst a.1, a.2) := by unfold mFrz; simp only [x_seqM, x_oks]
@[simp] theorem x_mIsi (T : String) (m : EM) : mIsi T m E pl = (m E pl).bind fun a => some (.bl (isTy T a.1), a.2) := by unfold mIsi; simp only [x_seqM, x_oks]
@[simp] theorem x_mIt (f : D → Option (List D)) (m : EM) : mIt f m E pl = (m E pl).bind fun a => (f a.1).map fun d => (d, a.2) := by unfold mIt; simp only [x_seqM, x_lft]
@[simp] theorem x_mRng (f : List D → Option (List D)) (m : AM) : mRng f m E pl = (m E pl).bind fun a => (f a.1).map fun d => (d, a.2) := by unfold mRng; simp only [x_seqM, x_lft]
theorem x_mV (i : Nat) {d : D} (h : E[i]? = some (.val d)) : mV i E pl = some (d, pl) := by unfold mV; rw [h]
/-- reading a slot -/
def rdS : Option Sl → Option Pl → Option (D × Option Pl)
  | some (.val d), pl => some (d, pl)
  | some (.own xs), pl => some (.lst xs, pl)
  | some (.owd ks vs), pl => some (.dct ks vs, pl)
  | _, _ => none
@[simp] theorem x_mVr (i : Nat) : mV i E pl = rdS E[i]? pl := by
  unfold mV rdS
  cases E[i]? with
  | none => rfl
  | some sl => cases sl <;> rfl
@[simp] theorem x_rdV (d : D) : rdS (some (.val d)) pl = some (d, pl) := rfl
@[simp] theorem x_rdO (xs : List D) : rdS (some (.own xs)) pl = some (.lst xs, pl) := rfl
@[simp] theorem x_rdD (ks vs : List D) : rdS (some (.owd ks vs)) pl = some (.dct ks vs, pl) := rfl
end
/-! statements -/
/-- what follows -/
def nxt : Option Out → SM → Option Out
  | some (.nx E p), b => b E p
  | o, _ => o
@[simp] theorem x_nxN (E : Env) (p : Option Pl) (b : SM) : nxt (some (.nx E p)) b = b E p := rfl
@[simp] theorem x_nxR (d : D) (E : Env) (p : Option Pl) (b : SM) : nxt (some (.rt d E p)) b = some (.rt d E p) := rfl
@[simp] theorem x_nxL (d : List D) (E : Env) (p : Option Pl) (b : SM) : nxt (some (.rtl d E p)) b = some (.rtl d E p) := rfl
@[simp] theorem x_nxB (E : Env) (p : Option Pl) (b : SM) : nxt (some (.bk E p)) b = some (.bk E p) := rfl
@[simp] theorem x_nxC (E : Env) (p : Option Pl) (b : SM) : nxt (some (.ct E p)) b = some (.ct E p) := rfl
@[simp] theorem x_nx0 (b : SM) : nxt none b = none := rfl
section
variable {E : Env} {pl p1 p2 : Option Pl}
@[simp] theorem x_sNil : sNil E pl = some (.nx E pl) := rfl
@[simp] theorem x_sBrk : sBrk E pl = some (.bk E pl) := rfl
@[simp] theorem x_sCnt : sCnt E pl = some (.ct E pl) := rfl
@[simp] theorem x_sRetN : sRetN E pl = some (.rt .non E pl) := rfl
@[simp] theorem x_sSeq (a b : SM) : sSeq a b E pl = nxt (a E pl) b := by
  unfold sSeq nxt
  cases a E pl with
  | none => rfl
  | some o => cases o <;> rfl
@[simp] theorem x_sIf (c : BM) (a b : SM) : sIf c a b E pl = (c E pl).bind fun t => bM t.1 (a E t.2) (b E t.2) := by
  unfold sIf
  cases c E pl with
  | none => rfl
  | some r => obtain ⟨t, p⟩ := r; cases t <;> rfl
@[simp] theorem x_sAsgS (g : TM) (m : EM) : sAsgS g m E pl = (m E pl).bind fun r => bM (noL r.1) ((g r.1 E).map fun E' => .nx E' r.2) none := by
  unfold sAsgS
  cases m E pl with
  | none => rfl
  | some r => rfl
@[simp] theorem x_sAsgF (F : List Nat) (g : TM) (m : EM) : sAsgF F g m E pl = (m (vw F E) pl).bind fun r => (g r.1 (frz F E)).map fun E' => .nx E' r.2 := by
  unfold sAsgF
  cases m (vw F E) pl with
  | none => rfl
  | some r => rfl
@[simp] theorem x_gN (i : Nat) (d : D) : gN i d E = some (E.set i (.val d)) := rfl
@[simp] theorem x_gT (f : List D → Env → Option Env) (ds : List D) : gT f (.tup ds) E = f ds E := rfl
@[simp] theorem x_gsN : gsN [] E = some E := rfl
@[simp] theorem x_gsC (f : TM) (fs : List D → Env → Option Env) (d : D) (ds : List D) : gsC f fs (d :: ds) E = (f d E).bind (fs ds) := rfl
@[simp] theorem x_sOwn (F : List Nat) (i : Nat) (m : AM) : sOwn F i m E pl = (m (vw F E) pl).bind fun r => some (.nx ((frz F E).set i (.own r.1)) r.2) := by
  unfold sOwn
  cases m (vw F E) pl with
  | none => rfl
  | some r => rfl
@[simp] theorem x_sDrop (m : EM) : sDrop m E pl = (m E pl).bind fun r => some (.nx E r.2) := by
  unfold sDrop
  cases m E pl with
  | none => rfl
  | some r => rfl
@[simp] theorem x_sRetS (m : EM) : sRetS m E pl = (m E pl).bind fun r => bM (noL r.1) (some (.rt r.1 E r.2)) none := by
  unfold sRetS
  cases m E pl with
  | none => rfl
  | some r => rfl
@[simp] theorem x_sRetF (F : List Nat) (m : EM) : sRetF F m E pl = (m (vw F E) pl).bind fun r => some (.rt r.1 (frz F E) r.2) := by
  unfold sRetF
  cases m (vw F E) pl with
  | none => rfl
  | some r => rfl
@[simp] theorem x_sRetL (F : List Nat) (m : AM) : sRetL F m E pl = (m (vw F E) pl).bind fun r => some (.rtl r.1 (frz F E) r.2) := by
  unfold sRetL
  cases m (vw F E) pl with
  | none => rfl
  | some r => rfl
/-- an own list at a slot -/
def ownS : Option Sl → Option (List D)
  | some (.own xs) => some xs
  | _ => none
@[simp] theorem x_ownS (xs : List D) : ownS (some (.own xs)) = some xs := rfl
@[simp] theorem x_sRetO (i : Nat) : sRetO i E pl = (ownS E[i]?).bind fun xs => some (.rtl xs (E.set i .un) pl) := by
  unfold sRetO ownS
  cases E[i]? with
  | none => rfl
  | some sl => cases sl <;> rfl
@[simp] theorem x_sAppS (i : Nat) (m : EM) : sAppS i m E pl = (m E pl).bind fun r => (ownS E[i]?).bind fun xs => bM (noL r.1 && sized xs.length) (some (.nx (E.set i (.own (xs ++ [r.1]))) r.2)) none := by
  unfold sAppS ownS
  cases m E pl with
  | none => rfl
  | some r =>
    simp only [Option.bind_some]
    cases E[i]? with
    | none => rfl
    | some sl => cases sl <;> rfl
@[simp] theorem x_sAppF (F : List Nat) (i : Nat) (m : EM) : sAppF F i m E pl = (m (vw F E) pl).bind fun r => (ownS (frz F E)[i]?).bind fun xs => bM (sized xs.length) (some (.nx ((frz F E).set i (.own (xs ++ [r.1]))) r.2)) none := by
  unfold sAppF ownS
  cases m (vw F E) pl with
  | none => rfl
  | some r =>
    simp only [Option.bind_some]
    cases (frz F E)[i]? with
    | none => rfl
    | some sl => cases sl <;> rfl
@[simp] theorem x_sPar (F : List Nat) (i j : Nat) (a b : EM) : sPar F i j (aCons a (aCons b aNil)) E pl = (a (vw F E) pl).bind fun x => (b (vw F E) x.2).bind fun y => some (.nx (((frz F E).set i (.val x.1)).set j (.val y.1)) y.2) := by
  unfold sPar
  simp only [x_aCons, x_aNil]
  cases a (vw F E) pl with
  | none => rfl
  | some r =>
    simp only [Option.bind_some]
    cases b (vw F E) r.2 with
    | none => rfl
    | some q => rfl
@[simp] theorem x_sFor (F : List Nat) (g : TM) (m : AM) (b : SM) : sFor F g m b E pl = (m (vw F E) pl).bind fun r => forL g b r.1 (frz F E) r.2 := by
  unfold sFor
  cases m (vw F E) pl with
  | none => rfl
  | some r => rfl
/-! the slots seen -/
@[simp] theorem x_h1u : hide1 .un = .un := rfl
@[simp] theorem x_h1v (d : D) : hide1 (.val d) = .val d := rfl
@[simp] theorem x_h1o (xs : List D) : hide1 (.own xs) = .un := rfl
@[simp] theorem x_h1d (ks vs : List D) : hide1 (.owd ks vs) = .un := rfl
@[simp] theorem x_h1p : hide1 .pool = .pool := rfl
@[simp] theorem x_f1u : frz1 .un = .un := rfl
@[simp] theorem x_f1v (d : D) : frz1 (.val d) = .val d := rfl
@[simp] theorem x_f1o (xs : List D) : frz1 (.own xs) = .val (.lst xs) := rfl
@[simp] theorem x_f1d (ks vs : List D) : frz1 (.owd ks vs) = .val (.dct ks vs) := rfl
@[simp] theorem x_f1p : frz1 .pool = .pool := rfl
@[simp] theorem x_vw0 : vw [] E = E.map hide1 := rfl
@[simp] theorem x_frz0 : frz [] E = E := rfl
/-! the pool -/
/-- what a place of the pool holds -/
def pixS : Option Sl → Option Pl → Int → Option (D × Option Pl)
  | some .pool, some P, j => (plIx P j).map fun d => (d, some P)
  | _, _, _ => none
@[simp] theorem x_pixS (P : Pl) (j : Int) : pixS (some .pool) (some P) j = (plIx P j).map fun d => (d, some P) := rfl
@[simp] theorem x_mPix (i : Nat) (j : Int) : mPix i j E pl = pixS E[i]? pl j := by
  unfold mPix pixS
  cases E[i]? with
  | none => rfl
  | some sl => cases sl <;> first | rfl | (cases pl <;> rfl)
@[simp] theorem x_plIx0 (P : Pl) : plIx P 0 = some (.scr P.scr) := rfl
@[simp] theorem x_plIx1 (P : Pl) : plIx P 1 = some (.int P.i) := rfl
@[simp] theorem x_plIx2 (P : Pl) : plIx P 2 = some (.int P.n) := rfl
@[simp] theorem x_plIx3 (P : Pl) : plIx P 3 = some (.int P.k) := rfl
/-- a place of the pool is set -/
def psetS (E : Env) (j : Int) : D → Option Pl → Option Sl → Option Out
  | .int z, some P, some .pool => (plSet P j z).map fun P' => .nx E (some P')
  | _, _, _ => none
@[simp] theorem x_psetS (j z : Int) (P : Pl) : psetS E j (.int z) (some P) (some .pool) = (plSet P j z).map fun P' => .nx E (some P') := rfl
@[simp] theorem x_sPset (i : Nat) (j : Int) (m : EM) : sPset i j m E pl = (m E pl).bind fun r => psetS E j r.1 r.2 E[i]? := by
  unfold sPset psetS
  cases m E pl with
  | none => rfl
  | some r =>
    obtain ⟨d, p⟩ := r
    simp only [Option.bind_some]
    cases d <;> cases p <;> first | rfl | skip
    cases E[i]? with
    | none => rfl
    | some sl => cases sl <;> rfl
@[simp] theorem x_plSet1 (P : Pl) (z : Int) : plSet P 1 z = some { P with i := z } := rfl
@[simp] theorem x_plSet2 (P : Pl) (z : Int) : plSet P 2 z = some { P with n := z } := rfl
@[simp] theorem x_plSet3 (P : Pl) (z : Int) : plSet P 3 z = some { P with k := z } := rfl
def callPS {α : Type} (g : Pl → List D → Option (α × Pl)) : Option Sl → Option (List D × Option Pl) → Option (α × Option Pl)
  | some .pool, some (xs, some P) => (g P xs).map fun r => (r.1, some r.2)
  | _, _ => none
@[simp] theorem x_callPS {α : Type} (g : Pl → List D → Option (α × Pl)) (xs : List D) (P : Pl) : callPS g (some .pool) (some (xs, some P)) = (g P xs).map fun r => (r.1, some r.2) := rfl
@[simp] theorem x_mCallP (i : Nat) (g : Pl → List D → Option (D × Pl)) (m : AM) : mCallP i g m E pl = callPS g E[i]? (m E pl) := by
  unfold mCallP callPS
  cases E[i]? with
  | none => rfl
  | some sl =>
    cases sl <;> try rfl
    cases m E pl with
    | none => rfl
    | some r => obtain ⟨xs, p⟩ := r; cases p <;> rfl
@[simp] theorem x_mCallPL (i : Nat) (g : Pl → List D → Option (List D × Pl)) (m : AM) : mCallPL i g m E pl = callPS g E[i]? (m E pl) := by
  unfold mCallPL callPS
  cases E[i]? with
  | none => rfl
  | some sl =>
    cases sl <;> try rfl
    cases m E pl with
    | none => rfl
    | some r => obtain ⟨xs, p⟩ := r; cases p <;> rfl
def pnewS (E : Env) (i : Nat) : Option (List D × Option Pl) → Option Out
  | some ([.scr ns, .int a, .int b, .int c], none) => some (.nx (E.set i .pool) (some ⟨ns, a, b, c⟩))
  | _ => none
@[simp] theorem x_pnewS (i : Nat) (ns : List Int) (a b c : Int) : pnewS E i (some ([.scr ns, .int a, .int b, .int c], none)) = some (.nx (E.set i .pool) (some ⟨ns, a, b, c⟩)) := rfl
@[simp] theorem x_sPnew (i : Nat) (m : AM) : sPnew i m E pl = pnewS (frz [] E) i (m (vw [] E) pl) := rfl
end
/-! operators at known kinds -/
@[simp] theorem x_addI (a b : Int) : dAdd (.int a) (.int b) = some (.int (a + b)) := rfl
@[simp] theorem x_addL (a b : List D) : dAdd (.lst a) (.lst b) = if sized (a.length + b.length) then some (.lst (a ++ b)) else none := rfl
@[simp] theorem x_addT (a b : List D) : dAdd (.tup a) (.tup b) = if sized (a.length + b.length) then some (.tup (a ++ b)) else none := rfl
@[simp] theorem x_sub (a b : Int) : dSub (.int a) (.int b) = some (.int (a - b)) := rfl
theorem x_mul (a b : Int) (h : ((wideB a && wideB b) || decide (a.natAbs < 2 ^ 63) || decide (b.natAbs < 2 ^ 63)) = true) : dMul (.int a) (.int b) = some (.int (a * b)) := by
  exact if_pos h
theorem x_mulS1 (a b : Int) (h : a.natAbs < 2 ^ 63) : dMul (.int a) (.int b) = some (.int (a * b)) := x_mul a b (by simp [h])
theorem x_mulS2 (a b : Int) (h : b.natAbs < 2 ^ 63) : dMul (.int a) (.int b) = some (.int (a * b)) := x_mul a b (by simp [h])
theorem x_mulW (a b : Int) (h : a.natAbs.log2 < 490000) (g : b.natAbs.log2 < 490000) : dMul (.int a) (.int b) = some (.int (a * b)) := x_mul a b (by simp [wideB, h, g])
theorem x_fdiv (a b : Int) (h : 0 < b) (g : b.natAbs.log2 < 9000) : dFdiv (.int a) (.int b) = some (.int (a / b)) := by
  exact if_pos (by simp [h, g])
theorem x_mod (a b : Int) (h : 0 < b) : dMod (.int a) (.int b) = some (.int (a % b)) := if_pos h
@[simp] theorem x_neg (a : Int) : dNeg (.int a) = some (.int (-a)) := rfl
@[simp] theorem x_lt (a b : Int) : dLt (.int a) (.int b) = some (.bl (decide (a < b))) := rfl
@[simp] theorem x_le (a b : Int) : dLe (.int a) (.int b) = some (.bl (decide (a ≤ b))) := rfl
@[simp] theorem x_gt (a b : Int) : dGt (.int a) (.int b) = some (.bl (decide (b < a))) := rfl
@[simp] theorem x_ge (a b : Int) : dGe (.int a) (.int b) = some (.bl (decide (b ≤ a))) := rfl
@[simp] theorem x_eqI (a b : Int) : dEq (.int a) (.int b) = some (.bl (decide (a = b))) := by
  unfold dEq; rw [if_pos (by simp [fl_int])]; simp only [eqd]; rfl
@[simp] theorem x_neI (a b : Int) : dNe (.int a) (.int b) = some (.bl (!decide (a = b))) := by
  unfold dNe; rw [if_pos (by simp [fl_int])]; simp only [eqd]; rfl
@[simp] theorem x_isN (a : D) : dIs a .non = some (.bl (isN a)) := rfl
@[simp] theorem x_isB (a : D) (b : Bool) : dIs a (.bl b) = some (.bl (isB b a)) := rfl
@[simp] theorem x_notN (a : D) : dIsNot a .non = some (.bl (!isN a)) := rfl
@[simp] theorem x_isNN : isN .non = true := rfl
@[simp] theorem x_isNI (i : Int) : isN (.int i) = false := rfl
@[simp] theorem x_isNB (i : Bool) : isN (.bl i) = false := rfl
@[simp] theorem x_isNT (xs : List D) : isN (.tup xs) = false := rfl
@[simp] theorem x_isNL (xs : List D) : isN (.lst xs) = false := rfl
@[simp] theorem x_isNS (xs : Str) : isN (.str xs) = false := rfl
@[simp] theorem x_isBN (b : Bool) : isB b .non = false := rfl
@[simp] theorem x_isBB (b c : Bool) : isB b (.bl c) = (c == b) := rfl
@[simp] theorem x_isBI (b : Bool) (i : Int) : isB b (.int i) = false := rfl
@[simp] theorem x_isBT (b : Bool) (i : List D) : isB b (.tup i) = false := rfl
@[simp] theorem x_isBL (b : Bool) (i : List D) : isB b (.lst i) = false := rfl
@[simp] theorem x_isBS (b : Bool) (i : Str) : isB b (.str i) = false := rfl
@[simp] theorem x_gcd (a b : Int) : gGcd [.int a, .int b] = some (.int (Nat.gcd a.natAbs b.natAbs : Nat)) := rfl
@[simp] theorem x_abs (a : Int) : gAbs [.int a] = some (.int (if a < 0 then -a else a)) := rfl
@[simp] theorem x_max (a b : Int) : gMax [.int a, .int b] = some (.int (if b > a then b else a)) := rfl
@[simp] theorem x_min (a b : Int) : gMin [.int a, .int b] = some (.int (if b < a then b else a)) := rfl
@[simp] theorem x_int (a : Int) : gInt [.int a] = some (.int a) := rfl
@[simp] theorem x_lenL (a : List D) : gLen [.lst a] = some (.int a.length) := rfl
@[simp] theorem x_lenT (a : List D) : gLen [.tup a] = some (.int a.length) := rfl
@[simp] theorem x_lenS (a : List Int) : gLen [.scr a] = some (.int a.length) := rfl
@[simp] theorem x_ixL (a : List D) (i : Int) : dIx (.lst a) (.int i) = atI a i := rfl
@[simp] theorem x_ixT (a : List D) (i : Int) : dIx (.tup a) (.int i) = atI a i := rfl
@[simp] theorem x_ixS (a : List Int) (i : Int) : dIx (.scr a) (.int i) = (atI a i).map D.int := rfl
@[simp] theorem x_at0 {α : Type} (a : α) (l : List α) : atI (a :: l) 0 = some a := by
  have h : ((0 : Int) < ((l.length + 1 : Nat) : Int)) := by omega
  unfold atI ixN
  simp only [List.length_cons]
  rw [if_pos (by decide), if_pos h]
  rfl
@[simp] theorem x_at1 {α : Type} (a b : α) (l : List α) : atI (a :: b :: l) 1 = some b := by
  have h : ((1 : Int) < ((l.length + 1 + 1 : Nat) : Int)) := by omega
  unfold atI ixN
  simp only [List.length_cons]
  rw [if_pos (by decide), if_pos h]
  rfl
@[simp] theorem x_at2 {α : Type} (a b c : α) (l : List α) : atI (a :: b :: c :: l) 2 = some c := by
  have h : ((2 : Int) < ((l.length + 1 + 1 + 1 : Nat) : Int)) := by omega
  unfold atI ixN
  simp only [List.length_cons]
  rw [if_pos (by decide), if_pos h]
  rfl
@[simp] theorem x_truI (i : Int) : tru (.int i) = some (i != 0) := rfl
@[simp] theorem x_truB (i : Bool) : tru (.bl i) = some i := rfl
@[simp] theorem x_truL (i : List D) : tru (.lst i) = some (!i.isEmpty) := rfl
@[simp] theorem x_truT (i : List D) : tru (.tup i) = some (!i.isEmpty) := rfl
@[simp] theorem x_truN : tru .non = some false := rfl
@[simp] theorem x_itL (i : List D) : itD (.lst i) = some i := rfl
@[simp] theorem x_itT (i : List D) : itD (.tup i) = some i := rfl
@[simp] theorem x_noI (i : Int) : noL (.int i) = true := by simp only [noL]
@[simp] theorem x_noB (i : Bool) : noL (.bl i) = true := by simp only [noL]
@[simp] theorem x_noN : noL .non = true := by simp only [noL]
@[simp] theorem x_noS (i : Str) : noL (.str i) = true := by simp only [noL]
@[simp] theorem x_noT (i : List D) : noL (.tup i) = noLL i := by simp only [noL]
@[simp] theorem x_noLL0 : noLL [] = true := by simp only [noLL]
@[simp] theorem x_noLLc (d : D) (ds : List D) : noLL (d :: ds) = (noL d && noLL ds) := by simp only [noLL]
theorem x_rng1 (n : Int) (h : -(2 ^ 60) < n) (g : n < 2 ^ 60) : rng1 [.int n] = some (rangeD 0 n.toNat) := by
  exact if_pos (decide_eq_true (by omega))
theorem x_rng2 (a b : Int) (h : -(2 ^ 60) < a) (g : a < 2 ^ 60) (h' : -(2 ^ 60) < b) (g' : b < 2 ^ 60) : rng2 [.int a, .int b] = some (rangeD a (b - a).toNat) := by
  exact if_pos (by simp only [Bool.and_eq_true, decide_eq_true_eq]; exact ⟨by omega, by omega⟩)
theorem x_sized {n : Nat} (h : n ≤ 1000000) : sized n = true := decide_eq_true h
/-! what a def hands back -/
def outF : Option Out → Option D
  | some (.rt d _ _) => some d
  | some (.rtl xs _ _) => some (.lst xs)
  | some (.nx _ _) => some .non
  | _ => none
def outL : Option Out → Option (List D)
  | some (.rtl xs _ _) => some xs
  | _ => none
def outP : Option Out → Option (D × Pl)
  | some (.rt d _ (some P')) => some (d, P')
  | some (.rtl xs _ (some P')) => some (.lst xs, P')
  | some (.nx _ (some P')) => some (.non, P')
  | _ => none
def outPL : Option Out → Option (List D × Pl)
  | some (.rtl xs _ (some P')) => some (xs, P')
  | _ => none
theorem x_runF (n : Nat) (m : SM) (ds : List D) : runF n m ds = outF (m (env0 n ds) none) := rfl
theorem x_runL (n : Nat) (m : SM) (ds : List D) : runL n m ds = outL (m (env0 n ds) none) := rfl
theorem x_runP (n : Nat) (m : SM) (P : Pl) (ds : List D) : runP n m P ds = outP (m (Sl.pool :: env0 (n - 1) ds) (some P)) := rfl
theorem x_runPL (n : Nat) (m : SM) (P : Pl) (ds : List D) : runPL n m P ds = outPL (m (Sl.pool :: env0 (n - 1) ds) (some P)) := rfl
@[simp] theorem x_oF1 (d : D) (E : Env) (p : Option Pl) : outF (some (.rt d E p)) = some d := rfl
@[simp] theorem x_oF2 (xs : List D) (E : Env) (p : Option Pl) : outF (some (.rtl xs E p)) = some (.lst xs) := rfl
@[simp] theorem x_oF3 (E : Env) (p : Option Pl) : outF (some (.nx E p)) = some .non := rfl
@[simp] theorem x_oL2 (xs : List D) (E : Env) (p : Option Pl) : outL (some (.rtl xs E p)) = some xs := rfl
@[simp] theorem x_oP1 (d : D) (E : Env) (p : Pl) : outP (some (.rt d E (some p))) = some (d, p) := rfl
@[simp] theorem x_oP2 (xs : List D) (E : Env) (p : Pl) : outP (some (.rtl xs E (some p))) = some (.lst xs, p) := rfl
@[simp] theorem x_oP3 (E : Env) (p : Pl) : outP (some (.nx E (some p))) = some (.non, p) := rfl
@[simp] theorem x_oPL2 (xs : List D) (E : Env) (p : Pl) : outPL (some (.rtl xs E (some p))) = some (xs, p) := rfl
/-! loops -/
/-- a loop, by what holds after each turn -/
theorem for_inv {g : TM} {b : SM} {α : Type} (f : α → D) (Pv : Nat → Env → Option Pl → Prop) : ∀ (xs : List α) (i : Nat) (E : Env) (pl : Option Pl), Pv i E pl →
    (∀ (j : Nat) (x : α) (E : Env) (pl : Option Pl), xs[j]? = some x → Pv (i + j) E pl → ∃ E1, g (f x) E = some E1 ∧ ∃ E2 p2, (b E1 pl = some (.nx E2 p2) ∨ b E1 pl = some (.ct E2 p2)) ∧ Pv (i + j + 1) E2 p2) →
    ∃ E' pl', forL g b (xs.map f) E pl = some (.nx E' pl') ∧ Pv (i + xs.length) E' pl'
  | [], i, E, pl, h, _ => ⟨E, pl, rfl, h⟩
  | x :: xs, i, E, pl, h, hs => by
    obtain ⟨E1, e1, E2, p2, e2, h2⟩ := hs 0 x E pl rfl h
    obtain ⟨E', pl', e3, h3⟩ := for_inv f Pv xs (i + 1) E2 p2 h2 (fun j y E pl hy hp => by
      have z := hs (j + 1) y E pl (by simpa using hy) (by rw [show i + (j + 1) = i + 1 + j by omega]; exact hp)
      rw [show i + (j + 1) = i + 1 + j by omega] at z
      exact z)
    refine ⟨E', pl', ?_, by rw [List.length_cons, show i + (xs.length + 1) = i + 1 + xs.length by omega]; exact h3⟩
    rw [List.map_cons]
    unfold forL
    rw [e1]
    rcases e2 with e2 | e2 <;> (dsimp only; rw [e2]; exact e3)
/-- behind a turn -/
def aft (o : Option Out) (k : SM) : Option Out := match o with
  | some (.nx E p) => k E p
  | some (.ct E p) => k E p
  | some (.bk E p) => some (.nx E p)
  | some (.rt d E p) => some (.rt d E p)
  | some (.rtl d E p) => some (.rtl d E p)
  | none => none
@[simp] theorem x_afN (E : Env) (p : Option Pl) (k : SM) : aft (some (.nx E p)) k = k E p := rfl
@[simp] theorem x_afC (E : Env) (p : Option Pl) (k : SM) : aft (some (.ct E p)) k = k E p := rfl
@[simp] theorem x_afB (E : Env) (p : Option Pl) (k : SM) : aft (some (.bk E p)) k = some (.nx E p) := rfl
@[simp] theorem x_afR (d : D) (E : Env) (p : Option Pl) (k : SM) : aft (some (.rt d E p)) k = some (.rt d E p) := rfl
@[simp] theorem x_afL (d : List D) (E : Env) (p : Option Pl) (k : SM) : aft (some (.rtl d E p)) k = some (.rtl d E p) := rfl
theorem x_for0 (g : TM) (b : SM) (E : Env) (pl : Option Pl) : forL g b [] E pl = some (.nx E pl) := rfl
theorem x_forC (g : TM) (b : SM) (d : D) (ds : List D) (E : Env) (pl : Option Pl) : forL g b (d :: ds) E pl = (g d E).bind fun E1 => aft (b E1 pl) (forL g b ds) := by
  show (match g d E with | none => none | some E1 => _) = _
  cases g d E with
  | none => rfl
  | some E1 =>
    simp only [Option.bind_some]
    cases b E1 pl with
    | none => rfl
    | some o => cases o <;> rfl
theorem x_whS (c : BM) (b : SM) (n : Nat) (E : Env) (pl : Option Pl) : whL c b (n + 1) E pl = (c E pl).bind fun r => bM r.1 (aft (b E r.2) (whL c b n)) (some (.nx E r.2)) := by
  show (match c E pl with | none => none | some (false, p) => some (Out.nx E p) | some (true, p) => _) = _
  cases c E pl with
  | none => rfl
  | some r =>
    obtain ⟨t, p⟩ := r
    simp only [Option.bind_some]
    cases t with
    | false => rfl
    | true =>
      simp only [x_bT]
      cases b E p with
      | none => rfl
      | some o => cases o <;> rfl
theorem rangeD_map (lo : Int) (n : Nat) : rangeD lo n = (List.range n).map fun i => D.int (lo + (i : Nat)) := rfl
/-! what DLA .. DLC add -/
section
variable {E : Env} {pl : Option Pl}
@[simp] theorem x_tYes : tYesM E pl = some (true, pl) := rfl
@[simp] theorem x_mOpL (g : D → D → Option (List D)) (ma mb : EM) : mOpL g ma mb E pl = (ma E pl).bind fun a => (mb E a.2).bind fun b => (g a.1 b.1).map fun d => (d, b.2) := by
  unfold mOpL; simp only [x_seqM, x_lft]
@[simp] theorem x_oNo : oNo E pl = some (none, pl) := rfl
@[simp] theorem x_oSome (m : EM) : oSome m E pl = (m E pl).bind fun a => (intD a.1).map fun i => (some i, a.2) := by
  unfold oSome; simp only [x_seqM, x_lft]
  cases m E pl with
  | none => rfl
  | some r => simp only [Option.bind_some]; cases intD r.1 <;> rfl
@[simp] theorem x_intD (i : Int) : intD (.int i) = some i := rfl
@[simp] theorem x_mSl (m : EM) (lo hi : OM) : mSl m lo hi E pl = (m E pl).bind fun a => (lo E a.2).bind fun l => (hi E l.2).bind fun h => (dSl a.1 l.1 h.1).map fun d => (d, h.2) := by
  unfold mSl; simp only [x_seqM, x_lft]
@[simp] theorem x_mSlL (m : EM) (lo hi : OM) : mSlL m lo hi E pl = (m E pl).bind fun a => (lo E a.2).bind fun l => (hi E l.2).bind fun h => (dSlL a.1 l.1 h.1).map fun d => (d, h.2) := by
  unfold mSlL; simp only [x_seqM, x_lft]
@[simp] theorem x_dSlL (xs : List D) (lo hi : Option Int) : dSl (.lst xs) lo hi = some (.lst (cutD xs lo hi)) := rfl
@[simp] theorem x_dSlT (xs : List D) (lo hi : Option Int) : dSl (.tup xs) lo hi = some (.tup (cutD xs lo hi)) := rfl
@[simp] theorem x_dSlLL (xs : List D) (lo hi : Option Int) : dSlL (.lst xs) lo hi = some (cutD xs lo hi) := rfl
@[simp] theorem x_gListL (xs : List D) : gList [.lst xs] = some xs := rfl
@[simp] theorem x_gListT (xs : List D) : gList [.tup xs] = some xs := rfl
@[simp] theorem x_gTupleL (xs : List D) : gTuple [.lst xs] = some (.tup xs) := rfl
@[simp] theorem x_gTupleT (xs : List D) : gTuple [.tup xs] = some (.tup xs) := rfl
@[simp] theorem x_catL (a b : List D) : catL (.lst a) (.lst b) = if sized (a.length + b.length) then some (a ++ b) else none := rfl
@[simp] theorem x_enumI (xs : List D) : enumI [.lst xs] = some (enumD 0 xs) := rfl
theorem x_any (bs : List Bool) : gAny [.lst (bs.map D.bl)] = some (.bl (bs.any id)) := by unfold gAny; dsimp only; rw [blsOf_map]; rfl
theorem x_all (bs : List Bool) : gAll [.lst (bs.map D.bl)] = some (.bl (bs.all id)) := by unfold gAll; dsimp only; rw [blsOf_map]; rfl
theorem x_sum (is : List Int) : gSum [.lst (is.map D.int)] = some (.int is.sum) := by unfold gSum; dsimp only; rw [intsOf_map]; rfl
@[simp] theorem x_mLc (vs : List Nat) (src : AM) (f : TM) (mt : BM) (me : EM) : mLc vs src f mt me E pl = (src E pl).bind fun r => bM (sized r.1.length) (lcL f mt me (wipeE E vs) r.1 r.2) none := by
  unfold mLc
  cases src E pl with
  | none => rfl
  | some r => rfl
@[simp] theorem x_wipe0 : wipeE E [] = E := rfl
@[simp] theorem x_wipeC (v : Nat) (vs : List Nat) : wipeE E (v :: vs) = (wipeE E vs).set v .un := rfl
theorem x_lc0 (f : TM) (mt : BM) (me : EM) : lcL f mt me E [] pl = some ([], pl) := rfl
/-- a comprehension without tests: each item by itself -/
theorem lc_map {α : Type} (f : TM) (me : EM) (d : α → D) (g : α → D) : ∀ (xs : List α), (∀ x ∈ xs, ∃ E1, f (d x) E = some E1 ∧ me E1 pl = some (g x, pl)) → lcL f tYesM me E (xs.map d) pl = some (xs.map g, pl)
  | [], _ => rfl
  | x :: xs, h => by
    obtain ⟨E1, h1, h2⟩ := h x List.mem_cons_self
    rw [List.map_cons, List.map_cons]
    unfold lcL
    rw [h1]
    dsimp only [x_tYes]
    rw [h2]
    dsimp only
    rw [lc_map f me d g xs fun y hy => h y (List.mem_cons_of_mem _ hy)]
/-- .. with a test -/
theorem lc_filter {α : Type} (f : TM) (mt : BM) (me : EM) (d : α → D) (t : α → Bool) (g : α → D) : ∀ (xs : List α), (∀ x ∈ xs, ∃ E1, f (d x) E = some E1 ∧ mt E1 pl = some (t x, pl) ∧ (t x = true → me E1 pl = some (g x, pl))) → lcL f mt me E (xs.map d) pl = some ((xs.filter t).map g, pl)
  | [], _ => rfl
  | x :: xs, h => by
    obtain ⟨E1, h1, h2, h3⟩ := h x List.mem_cons_self
    have ih := lc_filter f mt me d t g xs fun y hy => h y (List.mem_cons_of_mem _ hy)
    rw [List.map_cons]
    unfold lcL
    rw [h1]
    dsimp only
    rw [h2]
    cases ht : t x with
    | false => rw [List.filter_cons_of_neg (by simp [ht])]; exact ih
    | true =>
      rw [List.filter_cons_of_pos ht, List.map_cons]
      dsimp only
      rw [h3 ht]
      dsimp only
      rw [ih]
end
@[simp] theorem sz0 : sized 0 = true := by decide
@[simp] theorem sz1 : sized 1 = true := by decide
@[simp] theorem sz2 : sized 2 = true := by decide
@[simp] theorem sz3 : sized 3 = true := by decide
@[simp] theorem sz4 : sized 4 = true := by decide
@[simp] theorem sz5 : sized 5 = true := by decide
@[simp] theorem sz6 : sized 6 = true := by decide
@[simp] theorem sz7 : sized 7 = true := by decide
@[simp] theorem sz8 : sized 8 = true := by decide
@[simp] theorem sz9 : sized 9 = true := by decide
@[simp] theorem sz10 : sized 10 = true := by decide
@[simp] theorem sz11 : sized 11 = true := by decide
@[simp] theorem sz12 : sized 12 = true := by decide
@[simp] theorem sz13 : sized 13 = true := by decide
@[simp] theorem sz14 : sized 14 = true := by decide
@[simp] theorem sz15 : sized 15 = true := by decide
@[simp] theorem sz16 : sized 16 = true := by decide
theorem x_lcC (f : TM) (me : EM) (E : Env) (d : D) (ds : List D) (pl : Option Pl) : lcL f tYesM me E (d :: ds) pl = (f d E).bind fun E1 => (me E1 pl).bind fun r => (lcL f tYesM me E ds r.2).map fun q => (r.1 :: q.1, q.2) := by
  conv => lhs; unfold lcL
  cases f d E with
  | none => rfl
  | some E1 =>
    simp only [Option.bind_some, x_tYes]
    cases me E1 pl with
    | none => rfl
    | some r =>
      simp only [Option.bind_some]
      cases lcL f tYesM me E ds r.2 with
      | none => rfl
      | some q => rfl
/-- a comprehension that draws: each item has what each drawn one has -/
theorem lc_draw {f : TM} {me : EM} {E : Env} (Q : D → Prop) (h : ∀ (d : D) (P : Pl), ∃ E1 v P', f d E = some E1 ∧ me E1 (some P) = some (v, some P') ∧ Q v) : ∀ (ds : List D) (P : Pl), ∃ vs P', lcL f tYesM me E ds (some P) = some (vs, some P') ∧ vs.length = ds.length ∧ ∀ v ∈ vs, Q v
  | [], P => ⟨[], P, rfl, rfl, by simp⟩
  | d :: ds, P => by
    obtain ⟨E1, v, P1, e1, e2, q⟩ := h d P
    obtain ⟨vs, P2, e3, l, a⟩ := lc_draw Q h ds P1
    refine ⟨v :: vs, P2, ?_, by simp [l], fun x hx => ?_⟩
    · rw [x_lcC, e1, Option.bind_some, e2, Option.bind_some, e3]; rfl
    · rcases List.mem_cons.mp hx with rfl | hx
      · exact q
      · exact a x hx
@[simp] theorem x_at3 {α : Type} (a b c d : α) (l : List α) : atI (a :: b :: c :: d :: l) 3 = some d := atI_nat (j := 3) rfl
@[simp] theorem x_notB (a : D) (b : Bool) : dIsNot a (.bl b) = some (.bl (!isB b a)) := rfl
/-- the slots at a def's start -/
@[simp] theorem e0c (n : Nat) (d : D) (ds : List D) : env0 (n + 1) (d :: ds) = .val d :: env0 n ds := by
  unfold env0; rw [List.map_cons, List.length_cons, show n + 1 - (ds.length + 1) = n - ds.length by omega]; rfl
@[simp] theorem e0n (n : Nat) : env0 (n + 1) [] = .un :: env0 n [] := by
  unfold env0; rw [List.map_nil, List.length_nil, Nat.sub_zero, Nat.sub_zero, List.replicate_succ]; rfl
@[simp] theorem e00 : env0 0 [] = [] := rfl
@[simp] theorem x_gTLt (n : Nat) (f : List D → Env → Option Env) (ds : List D) (E : Env) : gTL n f (.tup ds) E = bM (ds.length == n) (f ds E) none := rfl
@[simp] theorem x_gTLl (n : Nat) (f : List D → Env → Option Env) (ds : List D) (E : Env) : gTL n f (.lst ds) E = bM (ds.length == n) (f ds E) none := rfl
/-- the items of a list -/
def lstD : D → Option (List D) | .lst ys => some ys | _ => none
@[simp] theorem x_lstD (ys : List D) : lstD (.lst ys) = some ys := rfl
@[simp] theorem x_sExtF (F : List Nat) (i : Nat) (m : EM) (E : Env) (pl : Option Pl) : sExtF F i m E pl = (m (vw F E) pl).bind fun r => (lstD r.1).bind fun ys => (ownS (frz F E)[i]?).bind fun xs => bM (sized (xs.length + ys.length)) (some (.nx ((frz F E).set i (.own (xs ++ ys))) r.2)) none := by
  unfold sExtF ownS
  cases m (vw F E) pl with
  | none => rfl
  | some r =>
    obtain ⟨d, p⟩ := r
    cases d <;> try rfl
    simp only [Option.bind_some, x_lstD]
    cases (frz F E)[i]? with
    | none => rfl
    | some sl => cases sl <;> rfl
@[simp] theorem x_sExtS (i : Nat) (m : EM) (E : Env) (pl : Option Pl) : sExtS i m E pl = (m E pl).bind fun r => (lstD r.1).bind fun ys => (ownS E[i]?).bind fun xs => bM (noLL ys && sized (xs.length + ys.length)) (some (.nx (E.set i (.own (xs ++ ys))) r.2)) none := by
  unfold sExtS ownS
  cases m E pl with
  | none => rfl
  | some r =>
    obtain ⟨d, p⟩ := r
    cases d <;> try rfl
    simp only [Option.bind_some, x_lstD]
    cases E[i]? with
    | none => rfl
    | some sl => cases sl <;> rfl
@[simp] theorem x_sOwnS (i : Nat) (m : AM) (E : Env) (pl : Option Pl) : sOwnS i m E pl = (m E pl).bind fun r => bM (noLL r.1) (some (.nx (E.set i (.own r.1)) r.2)) none := by
  unfold sOwnS
  cases m E pl with
  | none => rfl
  | some r => rfl
@[simp] theorem x_sAsgLS (i : Nat) (m : AM) (E : Env) (pl : Option Pl) : sAsgLS i m E pl = (m E pl).bind fun r => bM (noLL r.1) (some (.nx (E.set i (.val (.lst r.1))) r.2)) none := by
  unfold sAsgLS
  cases m E pl with
  | none => rfl
  | some r => rfl
end Dn
set_option Elab.async false
set_option linter.all false
set_option maxRecDepth 100000
set_option maxHeartbeats 4000000
/-! zip(a, b, c, strict=False) of lists -/
namespace Zs
open PySem PySem.Spec PyProof.Rows L2 Builtin
set_option maxHeartbeats 2000000 in
theorem meets_zf3 {v1 v2 v3 : Value} {o1 o2 o3 : Obj} {H1 H2 H3 : Heap → Prop} (B1 : Begins v1 o1 H1) (B2 : Begins v2 o2 H2) (B3 : Begins v3 o3 H3) :
    Meets (Builtin.«zip.__new__» ⟨[.type "zip", v1, v2, v3], [(Str.ofString "strict", .bool false)]⟩) (fun _ R s => (H1 s.heap ∧ H2 s.heap ∧ H3 s.heap) ∧
      R (.ok (.ret (.ref (gzO3 s.heap o1 o2 o3).objs.size))) { s with heap := gzZ3 s.heap o1 o2 o3 }) :=
  .of_wp fun prog w A R s h => by
    obtain ⟨hp, g, d, tk, os⟩ := s; obtain ⟨⟨h1, h2, h3⟩, h⟩ := h
    have hsub := sub_zip
    have q1 : ∀ {A' : Around} {E : Value → Shared → Prop} {Q : Value → Shared → Prop}, Q (.ref hp.objs.size) ⟨(hp.push o1), g, d, tk, os⟩ → wpAny (model prog w) A' (pyIter v1) Q E ⟨hp, g, d, tk, os⟩ :=
      fun q => B1.iter prog w _ _ ⟨hp, g, d, tk, os⟩ _ (B1.keeps _ _ h1 fun b o' e => e) q
    have q2 : ∀ {A' : Around} {E : Value → Shared → Prop} {Q : Value → Shared → Prop}, Q (.ref (hp.push o1).objs.size) ⟨((hp.push o1).push o2), g, d, tk, os⟩ → wpAny (model prog w) A' (pyIter v2) Q E ⟨(hp.push o1), g, d, tk, os⟩ :=
      fun q => B2.iter prog w _ _ ⟨(hp.push o1), g, d, tk, os⟩ _ (B2.keeps _ _ h2 fun b o' e => (Heap.get?_push_of_some _ e)) q
    have q3 : ∀ {A' : Around} {E : Value → Shared → Prop} {Q : Value → Shared → Prop}, Q (.ref ((hp.push o1).push o2).objs.size) ⟨(((hp.push o1).push o2).push o3), g, d, tk, os⟩ → wpAny (model prog w) A' (pyIter v3) Q E ⟨((hp.push o1).push o2), g, d, tk, os⟩ :=
      fun q => B3.iter prog w _ _ ⟨((hp.push o1).push o2), g, d, tk, os⟩ _ (B3.keeps _ _ h3 fun b o' e => (Heap.get?_push_of_some _ (Heap.get?_push_of_some _ e))) q
    have e1 : (Str.ofString "strict" == ("strict" : Str)) = true := by decide +kernel
    have e2 : (Str.ofString "strict" != ("strict" : Str)) = false := by decide +kernel
    wp_walk using q1, q2, q3
    all_goals first | exact ⟨_, rfl, h⟩ | skip
theorem F.typeCall_z3 (a b c d : Value) : checkTypeCall "zip" ⟨[a, b, c], [(Str.ofString "strict", d)]⟩ = pure () := by kernel_rfl
theorem F.newCall_z3 (a b c d : Value) : checkBuiltinCall "zip.__new__" ⟨[.type "zip", a, b, c], [(Str.ofString "strict", d)]⟩ = pure () := by kernel_rfl
theorem F.init_z3 (obj a b c d : Value) : argsOk "object.__init__" ⟨[obj, a, b, c], [(Str.ofString "strict", d)]⟩ := by unfold argsOk; kernel_rfl
section
variable {prog : Program} {w : World} {A : Around} {E : Value → Shared → Prop} {s : Shared}
theorem zf3_begins {v1 v2 v3 : Value} {o1 o2 o3 : Obj} {H1 H2 H3 : Heap → Prop} {Q : Value → Shared → Prop} (B1 : Begins v1 o1 H1) (B2 : Begins v2 o2 H2) (B3 : Begins v3 o3 H3) (h1 : H1 s.heap) (h2 : H2 s.heap) (h3 : H3 s.heap)
    (h : ∀ h', IsZip h' (s.heap.objs.size + 5) (s.heap.objs.size + 3) (s.heap.objs.size + 4) .none → IsTupOf3 h' (s.heap.objs.size + 3) (.ref s.heap.objs.size) (.ref (s.heap.objs.size + 1)) (.ref (s.heap.objs.size + 2)) →
      IsTupOf3 h' (s.heap.objs.size + 4) .none .none .none → h'.get? s.heap.objs.size = some o1 → h'.get? (s.heap.objs.size + 1) = some o2 → h'.get? (s.heap.objs.size + 2) = some o3 → h'.objs.size = s.heap.objs.size + 6 →
      (∀ c o, s.heap.get? c = some o → h'.get? c = some o) → Q (.ref (s.heap.objs.size + 5)) { s with heap := h' }) :
    wpAny (model prog w) A (call (.type "zip") [v1, v2, v3] [(Str.ofString "strict", .bool false)]) Q E s := by
  refine callType_newKw F.called_zip (by decide) (F.typeCall_z3 _ _ _ _) (F.newCall_z3 _ _ _ _) (fun obj => F.init_z3 obj _ _ _ _) F.entry_zip_new
    (meets_zf3 B1 B2 B3) ⟨⟨h1, h2, h3⟩, ?_⟩
  have z1 : (s.heap.push o1).objs.size = s.heap.objs.size + 1 := by rw [Heap.size_push]
  have z2 : ((s.heap.push o1).push o2).objs.size = s.heap.objs.size + 2 := by rw [Heap.size_push, z1]
  have z3 : (((s.heap.push o1).push o2).push o3).objs.size = s.heap.objs.size + 3 := by rw [Heap.size_push, z2]
  have zT : (gzT3 s.heap o1 o2 o3).objs.size = s.heap.objs.size + 4 := by rw [Heap.size_push, z3]
  have zO : (gzO3 s.heap o1 o2 o3).objs.size = s.heap.objs.size + 5 := by rw [Heap.size_push, zT]
  have zZ : (gzZ3 s.heap o1 o2 o3).objs.size = s.heap.objs.size + 6 := by rw [Heap.size_push, zO]
  have gZ : (gzZ3 s.heap o1 o2 o3).get? (gzO3 s.heap o1 o2 o3).objs.size = some { cls := .type "zip", data := .fields #[.none, .bool false, .bool false, .ref (((s.heap.push o1).push o2).push o3).objs.size, .ref (gzT3 s.heap o1 o2 o3).objs.size] } := Heap.get?_push_size _ rfl
  have gO : (gzZ3 s.heap o1 o2 o3).get? (gzT3 s.heap o1 o2 o3).objs.size = some { cls := .type "tuple", data := .seq #[.none, .none, .none] } := Heap.get?_push_of_some _ (Heap.get?_push_size _ rfl)
  have gT : (gzZ3 s.heap o1 o2 o3).get? (((s.heap.push o1).push o2).push o3).objs.size = some { cls := .type "tuple", data := .seq #[.ref s.heap.objs.size, .ref (s.heap.push o1).objs.size, .ref ((s.heap.push o1).push o2).objs.size] } := Heap.get?_push_of_some _ (Heap.get?_push_of_some _ (Heap.get?_push_size _ rfl))
  have g1 : (gzZ3 s.heap o1 o2 o3).get? s.heap.objs.size = some o1 := Heap.get?_push_of_some _ (Heap.get?_push_of_some _ (Heap.get?_push_of_some _ (Heap.get?_push_of_some _ (Heap.get?_push_of_some _ (Heap.get?_push_size _ B1.free)))))
  have g2 : (gzZ3 s.heap o1 o2 o3).get? (s.heap.push o1).objs.size = some o2 := Heap.get?_push_of_some _ (Heap.get?_push_of_some _ (Heap.get?_push_of_some _ (Heap.get?_push_of_some _ (Heap.get?_push_size _ B2.free))))
  have g3 : (gzZ3 s.heap o1 o2 o3).get? ((s.heap.push o1).push o2).objs.size = some o3 := Heap.get?_push_of_some _ (Heap.get?_push_of_some _ (Heap.get?_push_of_some _ (Heap.get?_push_size _ B3.free)))
  rw [zO, zT, z3] at gZ
  rw [zT] at gO
  rw [z3, z2, z1] at gT
  rw [z1] at g2
  rw [z2] at g3
  show _ ∧ _
  rw [zO]
  exact ⟨⟨_, gZ, rfl⟩, h _ gZ gT gO g1 g2 g3 zZ fun c o e => Heap.get?_push_of_some _ (Heap.get?_push_of_some _ (Heap.get?_push_of_some _ (Heap.get?_push_of_some _ (Heap.get?_push_of_some _ (Heap.get?_push_of_some _ e)))))⟩
/-- an iterator at turn i: it draws, or it is at its end -/
theorem draws_at (hh : A.handled = none) (it l : Addr) (hne : l ≠ it) (its : Array Value) (i : Nat) : ∃ (n : Nat) (P : Nat → Value → Prop) (St : Nat → Heap → Prop), Draws prog w A it [it, l] n P St ∧ i ≤ n ∧ (its.size ≤ i → i = n) ∧ ∀ h : Heap, h.IsListIter it l i → h.IsList l its → St i h := by
  by_cases hi : i < its.size
  · exact ⟨_, _, _, Draws.list hh it l hne its, by omega, fun h => by omega, fun h a b => ⟨a, b⟩⟩
  · refine ⟨i, fun _ _ => False, fun j h => j = i ∧ h.IsListIter it l i ∧ h.IsList l its, ?_, Nat.le_refl _, fun _ => rfl, fun h a b => ⟨rfl, a, b⟩⟩
    exact {
      live := fun _ _ st => let ⟨o, ho, _⟩ := st.2.1; ⟨o, ho⟩
      frame := fun _ _ _ st hk => ⟨st.1, st.2.1.at fun o e => hk it (by simp) o e, st.2.2.at fun o e => hk l (by simp) o e⟩
      item := fun j s Q E hj st hQ => by have := st.1; omega
      done := fun s Q E st hE => wpAny_nextOf_list_end hh st.2.1 st.2.2 (by simp; omega) hE }
end
/-- triples of the items at a, b and c -/
def Itz3 (K : PySem.W.Frag) (a b c : Addr) : It :=
  ⟨fun i H => ∃ (xs ys zs : List V) (x y z : V), SqL K H a xs ∧ SqL K H b ys ∧ SqL K H c zs ∧ xs[i]? = some x ∧ ys[i]? = some y ∧ zs[i]? = some z,
    fun i H v H' => ∃ T x y z, v = .ref T ∧ H T = none ∧ H' = upd H T (.tup [x, y, z]) ∧ (∀ xs, SqL K H a xs → xs[i]? = some x) ∧ (∀ ys, SqL K H b ys → ys[i]? = some y) ∧ ∀ zs, SqL K H c zs → zs[i]? = some z,
    fun i H => ∃ xs ys zs : List V, SqL K H a xs ∧ SqL K H b ys ∧ SqL K H c zs ∧ (xs.length ≤ i ∨ ys.length ≤ i ∨ zs.length ≤ i)⟩
theorem turn_z3 {P : Program} {w : World} {K : PySem.W.Frag} {elts : List Expr} {kk : Nat} {tpos : Pos} {a b c z TI TO i1 i2 i3 : Addr} (S : ZipSep3 z TI TO i1 i2 i3 [i1, a] [i2, b] [i3, c]) (n1 : a ≠ i1) (n2 : b ≠ i2) (n3 : c ≠ i3) :
    Turn P w K (.Tuple elts kk tpos) (Itz3 K a b c) [z, TI, TO, i1, i2, i3] z (fun i h => IsZip h z TI TO .none ∧ IsTupOf3 h TI (.ref i1) (.ref i2) (.ref i3) ∧ (∃ x y u, IsTupOf3 h TO x y u) ∧ h.IsListIter i1 a i ∧ h.IsListIter i2 b i ∧ h.IsListIter i3 c i) where
  mem := by simp
  obj := fun i h st d hd => by
    obtain ⟨hz, hTI, ⟨x, y, u, hTO⟩, ⟨o1, e1, _, d1⟩, ⟨o2, e2, _, d2⟩, ⟨o3, e3, _, d3⟩⟩ := st
    have e' : d = z ∨ d = TI ∨ d = TO ∨ d = i1 ∨ d = i2 ∨ d = i3 := by simpa using hd
    rcases e' with q | q | q | q | q | q
    · rw [q]; exact ⟨_, hz, fun v q => nomatch q⟩
    · rw [q]; exact ⟨_, hTI, fun v q => nomatch q⟩
    · rw [q]; exact ⟨_, hTO, fun v q => nomatch q⟩
    · rw [q]; exact ⟨o1, e1, fun v q => by rw [d1] at q; cases q⟩
    · rw [q]; exact ⟨o2, e2, fun v q => by rw [d2] at q; cases q⟩
    · rw [q]; exact ⟨o3, e3, fun v q => by rw [d3] at q; cases q⟩
  keep := fun i h h' st k => by
    obtain ⟨hz, hTI, ⟨x, y, u, hTO⟩, h1, h2, h3⟩ := st
    exact ⟨k z (by simp) _ hz, k TI (by simp) _ hTI, ⟨x, y, u, k TO (by simp) _ hTO⟩, h1.at fun o q => k i1 (by simp) o q, h2.at fun o q => k i2 (by simp) o q, h3.at fun o q => k i3 (by simp) o q⟩
  item := by
    intro X hP hw hK hc i pins s σ H E I hf st hg
    subst hP hw hK
    obtain ⟨hz, hTI, ⟨x0, y0, u0, hTO⟩, h1, h2, h3⟩ := st
    obtain ⟨xs, ys, zs, x, y, u, hqx, hqy, hqz, hx, hy, hu⟩ := hg
    obtain ⟨its, rv, p, _⟩ := I.list hqx
    obtain ⟨its2, rv2, p2, _⟩ := I.list hqy
    obtain ⟨its3, rv3, p3, _⟩ := I.list hqz
    obtain ⟨v1, hv1, ru1⟩ := rv.get hx
    obtain ⟨v2, hv2, ru2⟩ := rv2.get hy
    obtain ⟨v3, hv3, ru3⟩ := rv3.get hu
    have hh : X.A.in1.handled = none := I.ok.hd hc
    have hzl : z < s.heap.objs.size := Heap.lt_size hz
    have l1 : i < its.toArray.size := by
      have := (List.getElem?_eq_some_iff.mp hv1).1; simpa using this
    have l2 : i < its2.toArray.size := by
      have := (List.getElem?_eq_some_iff.mp hv2).1; simpa using this
    have l3 : i < its3.toArray.size := by
      have := (List.getElem?_eq_some_iff.mp hv3).1; simpa using this
    refine wpAny_pyNext_zipD3_item S (Draws.list hh i1 a n1 its.toArray) (Draws.list hh i2 b n2 its2.toArray) (Draws.list hh i3 c n3 its3.toArray) hz hTI hTO ⟨h1, p.isList⟩ ⟨h2, p2.isList⟩ ⟨h3, p3.isList⟩ l1 l2 l3 fun w1 w2 w3 h' tk e1 e2 e3 z' TO' s1 s2 s3 hT hsz hk => ?_
    have e1' : w1 = v1 := by
      have : its.toArray[i]? = some v1 := by simpa using hv1
      rw [this] at e1; cases e1; rfl
    have e2' : w2 = v2 := by
      have : its2.toArray[i]? = some v2 := by simpa using hv2
      rw [this] at e2; cases e2; rfl
    have e3' : w3 = v3 := by
      have : its3.toArray[i]? = some v3 := by simpa using hv3
      rw [this] at e3; cases e3; rfl
    subst e1' e2' e3'
    refine ⟨_, rfl, wpAny_letOwnedTupleGo_zip (s := { s with heap := h', toks := tk }) z' fun h'' z'' sb => ?_⟩
    have hT2 : h''.get? s.heap.objs.size = some { cls := .type "tuple", data := .seq #[w1, w2, w3] } := (sb.2 _ (Nat.ne_of_gt hzl)).trans hT
    have new : ObjOk X.prog X.w (upd H s.heap.objs.size (.tup [x, y, u])) h'' s.heap.objs.size (.tup [x, y, u]) :=
      ⟨by show 3 ≤ sizeLine; decide, [w1, w2, w3], .cons ru1 (.cons ru2 (.cons ru3 .nil)), ⟨_, hT2, rfl, _, rfl⟩⟩
    have I1 : Inv X pins σ (upd H s.heap.objs.size (.tup [x, y, u])) { s with heap := h'', toks := tk } :=
      I.turnedNew (t' := tk) (ch := [z, TI, TO, i1, i2, i3]) (fun d o hb q => (sb.2 d (fun q' => hb (by simp [q']))).trans (hk d o (fun q' => hb (by simp [q'])) (fun q' => hb (by simp [q'])) (fun q' => hb (by simp [q'])) (fun q' => hb (by simp [q'])) (fun q' => hb (by simp [q'])) q)) hf (Nat.le_refl _) new
    refine ⟨.ref s.heap.objs.size, _, I1, rfl, ⟨_, x, y, u, rfl, I.hok.fresh (Nat.le_refl _), rfl, fun l hl => by rw [I.list_inj hl hqx]; exact hx, fun l hl => by rw [I.list_inj hl hqy]; exact hy, fun l hl => by rw [I.list_inj hl hqz]; exact hu⟩, ⟨z'', ?_, ⟨w1, w2, w3, ?_⟩, ?_, ?_, ?_⟩, fun d hdm => ?_⟩
    · exact (sb.2 _ S.TIz).trans (hk _ _ S.TIz S.TITO S.TIi1 S.TIi2 S.TIi3 hTI)
    · exact (sb.2 _ S.TOz).trans TO'
    · exact s1.1.at fun o q => (sb.2 _ S.zi1.symm).trans q
    · exact s2.1.at fun o q => (sb.2 _ S.zi2.symm).trans q
    · exact s3.1.at fun o q => (sb.2 _ S.zi3.symm).trans q
    · have hlt : d < s.heap.objs.size := by
        have e' : d = z ∨ d = TI ∨ d = TO ∨ d = i1 ∨ d = i2 ∨ d = i3 := by simpa using hdm
        rcases e' with q | q | q | q | q | q
        · rw [q]; exact hzl
        · rw [q]; exact Heap.lt_size hTI
        · rw [q]; exact Heap.lt_size hTO
        · rw [q]; obtain ⟨_, e1, _⟩ := h1; exact Heap.lt_size e1
        · rw [q]; obtain ⟨_, e1, _⟩ := h2; exact Heap.lt_size e1
        · rw [q]; obtain ⟨_, e1, _⟩ := h3; exact Heap.lt_size e1
      rw [upd_ne (Nat.ne_of_lt hlt)]
      exact (hf d hdm).1
  done := by
    intro X hP hw hK hc i pins s σ H E I hf st hg
    subst hP hw hK
    obtain ⟨hz, hTI, ⟨x0, y0, u0, hTO⟩, h1, h2, h3⟩ := st
    obtain ⟨xs, ys, zs, hqx, hqy, hqz, hend⟩ := hg
    obtain ⟨its, rv, p, _⟩ := I.list hqx
    obtain ⟨its2, rv2, p2, _⟩ := I.list hqy
    obtain ⟨its3, rv3, p3, _⟩ := I.list hqz
    have l1 := rv.length
    have l2 := rv2.length
    have l3 := rv3.length
    have hh : X.A.in1.handled = none := I.ok.hd hc
    obtain ⟨m1, P1, St1, D1, a1, b1, s1⟩ := draws_at (prog := X.prog) (w := X.w) hh i1 a n1 its.toArray i
    obtain ⟨m2, P2, St2, D2, a2, b2, s2⟩ := draws_at (prog := X.prog) (w := X.w) hh i2 b n2 its2.toArray i
    obtain ⟨m3, P3, St3, D3, a3, b3, s3⟩ := draws_at (prog := X.prog) (w := X.w) hh i3 c n3 its3.toArray i
    have he : i = m1 ∨ i = m2 ∨ i = m3 := by
      rcases hend with q | q | q
      · exact .inl (b1 (by simp; omega))
      · exact .inr (.inl (b2 (by simp; omega)))
      · exact .inr (.inr (b3 (by simp; omega)))
    exact wpAny_pyNext_zipD3_end S D1 D2 D3 hz hTI hTO (s1 _ h1 p.isList) (s2 _ h2 p2.isList) (s3 _ h3 p3.isList) a1 a2 a3 he fun h' tk hk => ⟨rfl, I.turnedL (t' := tk) (ch := [z, TI, TO, i1, i2, i3]) (fun d o hb q =>
      hk d o (fun q' => hb (by simp [q'])) (fun q' => hb (by simp [q'])) (fun q' => hb (by simp [q'])) (fun q' => hb (by simp [q'])) (fun q' => hb (by simp [q'])) q) hf⟩
  self := fun A i s Q E st h => wpAny_pyIter_zip st.1 h
def iZ3 (K : PySem.W.Frag) (ta : TA) : TI := fun σ H R => ta σ H fun vs H1 => ∃ a b c xs ys zs, vs = [.ref a, .ref b, .ref c] ∧ SqL K H1 a xs ∧ SqL K H1 b ys ∧ SqL K H1 c zs ∧ R (Itz3 K a b c) H1
theorem pi_z3 {X : Cx} {e e2 e3 : Expr} {ta : TA} {p pos tpos kp cp : Pos} {j : Nat} {elts : List Expr} {kk : Nat} (hg : Gl X "zip") (hm : X.mg "zip" = none) (ha : PA X [e, e2, e3] ta)
    (hs : starEach [e, e2, e3] X.env = (false, eval e X.env) :: starEach [e2, e3] X.env := by rfl) (hpl : (backTo pos (starEach [e2, e3] X.env)).any (·.1) = false := by rfl) :
    PI X (.Tuple elts kk tpos) (.Call (.Name "zip" p) [e, e2, e3] [⟨some "strict", .Constant (.bool false) j cp, kp⟩] pos) (iZ3 X.K ta) := by
  refine ⟨fun pins s σ H R I h => ?_⟩
  have he : eval (.Call (.Name "zip" p) [e, e2, e3] [⟨some "strict", .Constant (.bool false) j cp, kp⟩] pos) X.env = (do callWith pos (← eval (.Name "zip" p) X.env) [] (backTo pos (starEach [e, e2, e3] X.env)) (backToKw pos (keywordEach [⟨some "strict", .Constant (.bool false) j cp, kp⟩] X.env))) := by rfl
  rw [he]
  refine wpAny_bind (ld_blt I hg hm PyProof.Rows.boot_zip ?_)
  have hr := ha.run pos pins s σ H _ I h
  rw [hs] at hr ⊢
  refine callWith_tyKw (by show (false || (backTo pos (starEach [e2, e3] X.env)).any (·.1)) = false; rw [hpl]; rfl) rfl (evalArgs_kwB rfl (thn hr fun us s1 ⟨vs, H1, I1, r1, q1⟩ => kws_cons ?_))
  refine wpAny_of_eq (a := Value.bool false) rfl ?_
  refine kws_nil ?_
  obtain ⟨a, b, c, xs, ys, zs, ex, hqx, hqy, hqz, q⟩ := q1
  subst ex
  cases r1 with
  | cons r rr =>
    cases rr with
    | cons r' rr =>
      cases rr with
      | cons r'' rr =>
        cases rr
        cases r
        cases r'
        cases r''
        have fresh6 : ∀ d, d ∈ [s1.heap.objs.size + 5, s1.heap.objs.size + 3, s1.heap.objs.size + 4, s1.heap.objs.size, s1.heap.objs.size + 1, s1.heap.objs.size + 2] → FpOk X pins H1 d := fun d hdm => by
          have e' : d = s1.heap.objs.size + 5 ∨ d = s1.heap.objs.size + 3 ∨ d = s1.heap.objs.size + 4 ∨ d = s1.heap.objs.size ∨ d = s1.heap.objs.size + 1 ∨ d = s1.heap.objs.size + 2 := by simpa using hdm
          have hle : s1.heap.objs.size ≤ d := by
            rcases e' with z | z | z | z | z | z
            · rw [z]; exact Nat.le_add_right _ _
            · rw [z]; exact Nat.le_add_right _ _
            · rw [z]; exact Nat.le_add_right _ _
            · rw [z]; exact Nat.le_refl _
            · rw [z]; exact Nat.le_add_right _ _
            · rw [z]; exact Nat.le_add_right _ _
          exact I1.fpOk hle (I1.hok.fresh hle)
        obtain ⟨its, rv, p1, _⟩ := I1.list hqx
        obtain ⟨its2, rv2, p2, _⟩ := I1.list hqy
        obtain ⟨its3, rv3, p3, _⟩ := I1.list hqz
        have lt1 : a < s1.heap.objs.size := p1.lt
        have lt2 : b < s1.heap.objs.size := p2.lt
        have lt3 : c < s1.heap.objs.size := p3.lt
        refine zf3_begins (begins_list a its.toArray) (begins_list b its2.toArray) (begins_list c its3.toArray) p1.isList p2.isList p3.isList fun h' hz hTI hTO g1 g2 g3 hsz hk => wpAny_pyIter_zip hz ?_
        have I2 : Inv X pins σ H1 { s1 with heap := h' } := I1.kept (t' := s1.toks) hk
        have S := zip_sep3 (N := s1.heap.objs.size) (fp1 := [a]) (fp2 := [b]) (fp3 := [c]) (by simpa using lt1) (by simpa using lt2) (by simpa using lt3)
        exact ⟨s1.heap.objs.size + 5, [s1.heap.objs.size + 5, s1.heap.objs.size + 3, s1.heap.objs.size + 4, s1.heap.objs.size, s1.heap.objs.size + 1, s1.heap.objs.size + 2], _, _, H1, rfl, I2, turn_z3 S (Nat.ne_of_lt lt1) (Nat.ne_of_lt (Nat.lt_of_lt_of_le lt2 (Nat.le_add_right _ _))) (Nat.ne_of_lt (Nat.lt_of_lt_of_le lt3 (Nat.le_add_right _ _))), ⟨hz, hTI, ⟨_, _, _, hTO⟩, ⟨_, g1, rfl, rfl⟩, ⟨_, g2, rfl, rfl⟩, ⟨_, g3, rfl, rfl⟩⟩, fresh6, q⟩
end Zs
namespace Dn
open PySem PySem.Spec PyProof.Rows L2
def zipD3 : List D → List D → List D → List D
  | x :: xs, y :: ys, z :: zs => .tup [x, y, z] :: zipD3 xs ys zs
  | _, _, _ => []
def zipF3 : List D → Option (List D)
  | [.lst xs, .lst ys, .lst zs] => some (zipD3 xs ys zs)
  | _ => none
theorem zipD3_get : ∀ (xs ys zs : List D) (i : Nat) {d : D}, (zipD3 xs ys zs)[i]? = some d → ∃ x y z, xs[i]? = some x ∧ ys[i]? = some y ∧ zs[i]? = some z ∧ d = .tup [x, y, z]
  | x :: xs, y :: ys, z :: zs, 0, d, e => by cases e; exact ⟨x, y, z, rfl, rfl, rfl, rfl⟩
  | x :: xs, y :: ys, z :: zs, i + 1, d, e => zipD3_get xs ys zs i (by simpa [zipD3] using e)
  | [], _, _, i, d, e => by simp [zipD3] at e
  | _ :: _, [], _, i, d, e => by simp [zipD3] at e
  | _ :: _, _ :: _, [], i, d, e => by simp [zipD3] at e
theorem zipD3_len : ∀ (xs ys zs : List D), (zipD3 xs ys zs).length = min xs.length (min ys.length zs.length)
  | x :: xs, y :: ys, z :: zs => by simp only [zipD3, List.length_cons, zipD3_len xs ys zs]; omega
  | [], _, _ => by simp [zipD3]
  | _ :: _, [], _ => by simp [zipD3]
  | _ :: _, _ :: _, [] => by simp [zipD3]
theorem js_z3 {K : PySem.W.Frag} {S : Hp} {a b c : Addr} {xs ys zs : List D} {vs us ws : List V} (h1 : S a = some (.lst vs)) (h2 : S b = some (.lst us)) (h3 : S c = some (.lst ws)) (r1 : RpL K S xs vs) (r2 : RpL K S ys us) (r3 : RpL K S zs ws) : JS K S (Zs.Itz3 K a b c) (zipD3 xs ys zs) := by
  have q1 : ∀ {S' : Hp}, Sb S S' → SqL K S' a vs := fun e => sb_l e (.inl (.inl h1))
  have q2 : ∀ {S' : Hp}, Sb S S' → SqL K S' b us := fun e => sb_l e (.inl (.inl h2))
  have q3 : ∀ {S' : Hp}, Sb S S' → SqL K S' c ws := fun e => sb_l e (.inl (.inl h3))
  refine ⟨fun i d S' H e1 e2 e3 => ?_, fun i S' H e1 e2 e3 => ?_⟩
  · obtain ⟨x, y, z, g1, g2, g3, rfl⟩ := zipD3_get _ _ _ _ e3
    obtain ⟨v, k1, k2⟩ := r1.get g1
    obtain ⟨u, k3, k4⟩ := r2.get g2
    obtain ⟨w, k5, k6⟩ := r3.get g3
    refine ⟨⟨vs, us, ws, v, u, w, q1 (e1.trans e2), q2 (e1.trans e2), q3 (e1.trans e2), k1, k3, k5⟩, fun t H' hy => ?_⟩
    obtain ⟨T, p, q, r, rfl, hT, rfl, hp, hq, hr⟩ := hy
    have := hp vs (q1 (e1.trans e2))
    rw [k1] at this; cases this
    have := hq us (q2 (e1.trans e2))
    rw [k3] at this; cases this
    have := hr ws (q3 (e1.trans e2))
    rw [k5] at this; cases this
    have nw := Nw.new (o := .tup [v, u, w]) e2 hT
    exact ⟨_, nw, rp_tup.mpr ⟨T, _, rfl, SqT.of upd_same, RpL.cons (k2.mono (e1.trans nw.s)) (RpL.cons (k4.mono (e1.trans nw.s)) (RpL.cons (k6.mono (e1.trans nw.s)) RpL.nil))⟩⟩
  · rw [zipD3_len] at e3
    exact ⟨vs, us, ws, q1 (e1.trans e2), q2 (e1.trans e2), q3 (e1.trans e2), by rw [r1.len, r2.len, r3.len]; omega⟩
theorem rpl_three {K : PySem.W.Frag} {S : Hp} {a b c : D} {vs : List V} (r : RpL K S [a, b, c] vs) : ∃ v u w, vs = [v, u, w] ∧ Rp K S a v ∧ Rp K S b u ∧ Rp K S c w := by
  obtain ⟨v, t, rfl, h1, h2⟩ := r.cons_inv
  obtain ⟨u, w, rfl, h3, h4⟩ := rpl_two h2
  exact ⟨v, u, w, rfl, h1, h3, h4⟩
theorem if_z3 {X : Cx} {e e2 e3 : Expr} {m : AM} {p pos tpos kp cp : Pos} {j : Nat} {elts : List Expr} {kk : Nat} (hg : Gl X "zip") (hm : X.mg "zip" = none) (ha : AF X [e, e2, e3] m) (hs : nst e = true := by rfl) (hs2 : nst e2 = true := by rfl) (hs3 : nst e3 = true := by rfl) :
    IF X (.Tuple elts kk tpos) (.Call (.Name "zip" p) [e, e2, e3] [⟨some "strict", .Constant (.bool false) j cp, kp⟩] pos) (mRng zipF3 m) := by
  obtain ⟨t, pa, s⟩ := ha
  have hb : (backTo pos (starEach [e2, e3] X.env)).any (·.1) = false := back_nst (by simp only [nsts, hs2, hs3]; rfl)
  refine ⟨_, Zs.pi_z3 hg hm pa (star_nst hs) hb, fun pp S H σ E pl ds pl' R I e q => ?_⟩
  obtain ⟨x, q1, e1, f1⟩ := seqM_some e
  obtain ⟨e3, rfl⟩ := lftM_some f1
  refine s pp S H σ E pl x _ _ I e1 fun v S1 H1 J a1 r1 => ?_
  unfold zipF3 at e3
  split at e3 <;> try cases e3
  rename_i xs ys zs
  obtain ⟨v1, v2, v3, rfl, w1, w2, w3⟩ := rpl_three r1
  rw [rp_lst] at w1 w2 w3
  obtain ⟨a, vs, rfl, g1, g2⟩ := w1
  obtain ⟨b, us, rfl, g3, g4⟩ := w2
  obtain ⟨c, ws, rfl, g5, g6⟩ := w3
  exact ⟨a, b, c, vs, us, ws, rfl, sb_l J.sub (.inl (.inl g1)), sb_l J.sub (.inl (.inl g3)), sb_l J.sub (.inl (.inl g5)), q _ S1 H1 J a1 (js_z3 g1 g3 g5 g2 g4 g6)⟩
@[simp] theorem x_zipF3 (xs ys zs : List D) : zipF3 [.lst xs, .lst ys, .lst zs] = some (zipD3 xs ys zs) := rfl
end Dn
set_option Elab.async false
set_option linter.all false
set_option maxRecDepth 100000
set_option maxHeartbeats 2000000
/-! x[a], x[b] = x[c], x[d]; x[k] = a new list; x.append(y.pop(e)) -/
namespace Dn
open PySem PySem.Spec PyProof.Rows L2
section
variable {X : Cx} {K : PySem.W.Frag} {C : Cz} {pp : PP} {S H S' H' : Hp} {σ : L2.St} {E : Env} {pl pl' : Option Pl}
theorem SR.stay (I : SR K C pp S H σ E pl) (a : Ad pp (Splus S H (allF E) E σ) H S' H') : Sb S (Sminus S' (allF E) E σ) := fun b o e => by
  unfold Sminus
  split
  · rename_i w
    obtain ⟨_, _, _, _, w2, _⟩ := I.ownA w
    rw [w2] at e; cases e
  · exact a.s b o (I.plus b o e)
def swOut (i : Nat) (xs : List D) (d3 d4 : D) (m2 : EM) (E : Env) (p1 : Option Pl) (k1 : Int) : Option Out := match ixN xs.length k1 with
  | some j1 => match m2 (E.set i (.own (xs.set j1 d3))) p1 with
    | some (.int k2, p2) => match ixN xs.length k2 with
      | some j2 => some (.nx (E.set i (.own ((xs.set j1 d3).set j2 d4))) p2)
      | none => none
    | _ => none
  | none => none
def sSwp (i : Nat) (m1 m2 m3 m4 : EM) : SM := fun E pl => match m3 E pl with
  | some (.int k3, p3) => match m4 E p3 with
    | some (.int k4, p4) => match E[i]? with
      | some (.own xs) => match atI xs k3 with
        | some d3 => match atI xs k4 with
          | some d4 => match m1 E p4 with
            | some (.int k1, p1) => swOut i xs d3 d4 m2 E p1 k1
            | _ => none
          | none => none
        | none => none
      | _ => none
    | _ => none
  | _ => none
theorem SS.swp {t1 t2 t3 t4 : TE} {i : Nat} {m1 m2 m3 m4 : EM} (s1 : ES K t1 m1) (s2 : ES K t2 m2) (s3 : ES K t3 m3) (s4 : ES K t4 m4) :
    SS K (tAsg (tTup (tCons (tOp (rIxL K) (tVar i) t3) (tCons (tOp (rIxL K) (tVar i) t4) tNil))) (gTup K 2 (gCons (gSub (tVar i) t1 rSetL) (gCons (gSub (tVar i) t2 rSetL) gNil)))) (sSwp i m1 m2 m3 m4) := fun C pp S H σ E pl D' out I e q => by
  unfold sSwp at e
  split at e <;> try cases e
  rename_i k3 p3 h3
  split at e <;> try cases e
  rename_i k4 p4 h4
  split at e <;> try cases e
  rename_i xs hx
  split at e <;> try cases e
  rename_i d3 hd3
  split at e <;> try cases e
  rename_i d4 hd4
  split at e <;> try cases e
  rename_i k1 p1 h1
  unfold swOut at e
  split at e <;> try cases e
  rename_i j1 hj1
  split at e <;> try cases e
  rename_i k2 p2 h2
  split at e <;> try cases e
  rename_i j2 hj2
  obtain ⟨a, vs, g1, g2, g3⟩ := I.ownL hx
  refine ⟨_, g1, ?_⟩
  refine s3 pp _ H σ E pl _ _ _ I.erA h3 fun v3 S1 H1 J1 a1 r3 => ?_
  rw [rp_int] at r3; subst r3
  have I1 := (I.back J1 a1).1
  obtain ⟨a', vs1, k1', k2', k3'⟩ := I1.ownL hx
  rw [g1] at k1'; cases k1'
  obtain ⟨w3, e3, r3⟩ := at_rp k3' hd3
  refine ⟨a, vs1, k3, w3, rfl, rfl, .inl (.inl k2'), e3, ?_⟩
  refine ⟨_, g1, ?_⟩
  refine s4 pp _ H1 σ E p3 _ _ _ I1.erA h4 fun v4 S2 H2 J2 a2 r4 => ?_
  rw [rp_int] at r4; subst r4
  have st2 := I1.stay a2
  have I2 := (I1.back J2 a2).1
  obtain ⟨a', vs2, k1', k2', k3'⟩ := I2.ownL hx
  rw [g1] at k1'; cases k1'
  obtain ⟨w4, e4, r4⟩ := at_rp k3' hd4
  refine ⟨a, vs2, k4, w4, rfl, rfl, .inl (.inl k2'), e4, ?_⟩
  refine ⟨(show 2 ≤ sizeLine by decide), fun p hp => ?_⟩
  have nw := Nw.new (o := .tup [w3, w4]) J2.sub hp
  have J2' := J2.nw nw
  have a2' := a2.trans nw.ad
  have st2' := I1.stay a2'
  have sm : Sb (Sminus S2 (allF E) E σ) (Sminus (upd S2 p (.tup [w3, w4])) (allF E) E σ) := fun b o e' => by
    unfold Sminus at e' ⊢
    split
    · rename_i z; rw [if_pos z] at e'; cases e'
    · rename_i z; rw [if_neg z] at e'; exact nw.s b o e'
  have I2' := (I1.back J2' a2').1
  refine ⟨p, [w3, w4], rfl, SqT.of upd_same, rfl, ?_⟩
  refine ⟨_, _, rfl, ?_⟩
  refine ⟨_, g1, ?_⟩
  refine s1 pp _ _ σ E p4 _ _ _ I2'.erA h1 fun v1 S3 H3 J3 a3 r1 => ?_
  rw [rp_int] at r1; subst r1
  have st3 := I2'.stay a3
  have I3 := (I2'.back J3 a3).1
  obtain ⟨a', vs3, k1', k2', k3'⟩ := I3.ownL hx
  rw [g1] at k1'; cases k1'
  have r3a := (r3.mono st2').mono st3
  have r4a := (r4.mono sm).mono st3
  refine ⟨a, vs3, k1, j1, rfl, rfl, k2', by rw [k3'.len]; exact hj1, ?_⟩
  have I4 := I3.upd hx rfl g1 (sl' := .own (xs.set j1 d3)) rfl ⟨_, rfl, k3'.set j1 r3a⟩
  have hi : i < E.length := (List.getElem?_eq_some_iff.mp hx).1
  have hx4 : (E.set i (.own (xs.set j1 d3)))[i]? = some (.own (xs.set j1 d3)) := List.getElem?_set_self hi
  refine ⟨_, _, rfl, ?_⟩
  refine ⟨_, g1, ?_⟩
  refine s2 pp _ _ σ _ p1 _ _ _ I4.erA h2 fun v2 S5 H5 J5 a5 r2 => ?_
  rw [rp_int] at r2; subst r2
  have st5 := I4.stay a5
  have I5 := (I4.back J5 a5).1
  obtain ⟨a', vs5, k1', k2', k3'⟩ := I5.ownL hx4
  rw [g1] at k1'; cases k1'
  refine ⟨a, vs5, k2, j2, rfl, rfl, k2', by rw [k3'.len, List.length_set]; exact hj2, ?_⟩
  refine ⟨rfl, ?_⟩
  have I6 := I5.upd hx4 rfl g1 (sl' := .own ((xs.set j1 d3).set j2 d4)) rfl ⟨_, rfl, k3'.set j2 (r4a.mono st5)⟩
  rw [List.set_set] at I6
  exact q pp _ _ σ PpS.refl I6
theorem sf_swp {st : Stmt} {e1 e2 e3 e4 : Expr} {i : Nat} {m1 m2 m3 m4 : EM} (h1 : EF X e1 m1) (h2 : EF X e2 m2) (h3 : EF X e3 m3) (h4 : EF X e4 m4)
    (mk : ∀ t1 t2 t3 t4, PE X e1 t1 → PE X e2 t2 → PE X e3 t3 → PE X e4 t4 → PS X st (tAsg (tTup (tCons (tOp (rIxL X.K) (tVar i) t3) (tCons (tOp (rIxL X.K) (tVar i) t4) tNil))) (gTup X.K 2 (gCons (gSub (tVar i) t1 rSetL) (gCons (gSub (tVar i) t2 rSetL) gNil))))) : SF X st (sSwp i m1 m2 m3 m4) :=
  let ⟨_, p1, s1⟩ := h1; let ⟨_, p2, s2⟩ := h2; let ⟨_, p3, s3⟩ := h3; let ⟨_, p4, s4⟩ := h4; ⟨_, mk _ _ _ _ p1 p2 p3 p4, SS.swp s1 s2 s3 s4⟩

/-- x[k] = a new list whose items know no list, the own slots stay own -/
def sSetLS (i : Nat) (mi : EM) (m : AM) : SM := fun E pl => match m E pl with
  | some (ys, p) => match mi E p with
    | some (.int k, p2) => match E[i]? with
      | some (.own xs) => match ixN xs.length k with
        | some j => bM (noLL ys) (some (.nx (E.set i (.own (xs.set j (.lst ys)))) p2)) none
        | none => none
      | _ => none
    | _ => none
  | none => none
theorem new_low {te : TE} {m : AM} (I : SR K C pp S H σ E pl) {S1 H1 : Hp} {a : Addr} {vs : List V} {xs : List D} (J : ER K pp S1 H1 σ E pl') (a1 : Ad pp (Splus S H (allF E) E σ) H S1 H1) (hp : H a = none) (sp : S1 a = none) (hq : H1 a = some (.lst vs)) (r1 : RpL K S1 xs vs) (hn : noLL xs = true) :
    ∃ S2, ER K pp S2 H1 σ E pl' ∧ Ad pp (Splus S H (allF E) E σ) H S2 H1 ∧ Rp K (Sminus S2 (allF E) E σ) (.lst xs) (.ref a) := by
  obtain ⟨J2, a2⟩ := I.erA.frz J a1 hp sp hq
  obtain ⟨I1, low⟩ := I.back J2 a2
  have r2 : RpL K (upd S1 a (.lst vs)) xs vs := r1.mono (sb_upd sp)
  have no : ¬ OwnA (allF E) E σ a := by
    rintro ⟨j, b, hj, e1, e2, e3⟩
    exact own_none I hp [] j b e1 e2 e3
  have sm : Sminus (upd S1 a (.lst vs)) (allF E) E σ a = some (.lst vs) := by unfold Sminus; rw [if_neg no]; exact upd_same
  exact ⟨_, J2, a2, rp_lst.mpr ⟨a, vs, rfl, sm, rpl_low low hn r2⟩⟩
theorem SS.setLS {te ti : TE} {i : Nat} {m : AM} {mi : EM} (s : LS K te m) (si : ES K ti mi) : SS K (tAsg te (gSub (tVar i) ti rSetL)) (sSetLS i mi m) := fun C pp S H σ E pl D' out I e q => by
  unfold sSetLS at e
  split at e <;> try cases e
  rename_i ys p h
  split at e <;> try cases e
  rename_i k p2 hk
  split at e <;> try cases e
  rename_i xs hx
  split at e <;> try cases e
  rename_i j hj
  cases hn : noLL ys with
  | false => rw [hn] at e; cases e
  | true =>
    rw [hn, bM_t] at e; cases e
    refine s pp _ H σ E pl ys p _ I.erA h fun b us S1 H1 J a1 hp sp hq r1 => ?_
    obtain ⟨S2, J2, a2, r2⟩ := new_low (te := te) (m := m) I J a1 hp sp hq r1 hn
    have I1 := (I.back J2 a2).1
    obtain ⟨a, vs, g1, g2, g3⟩ := I1.ownL hx
    refine ⟨_, g1, ?_⟩
    refine si pp _ H1 σ E p _ _ _ I1.erA hk fun w S3 H3 J3 a3 r3 => ?_
    have st := I1.stay a3
    have I2 := (I1.back J3 a3).1
    rw [rp_int] at r3; subst r3
    obtain ⟨a', vs', k1, k2, k3⟩ := I2.ownL hx
    rw [g1] at k1; cases k1
    refine ⟨a, vs', k, j, rfl, rfl, k2, by rw [k3.len]; exact hj, ?_⟩
    exact q pp _ _ σ PpS.refl (I2.upd hx rfl g1 (sl' := .own (xs.set j (.lst ys))) rfl ⟨_, rfl, k3.set j (r2.mono st)⟩)
theorem sf_setLS {st : Stmt} {e ei : Expr} {i : Nat} {m : AM} {mi : EM} (he : LF X e m) (hi : EF X ei mi) (mk : ∀ te ti, PE X e te → PE X ei ti → PS X st (tAsg te (gSub (tVar i) ti rSetL))) : SF X st (sSetLS i mi m) :=
  let ⟨_, p, s⟩ := he; let ⟨_, p', s'⟩ := hi; ⟨_, mk _ _ p p', SS.setLS s s'⟩
/-- x.append(a new list whose items know no list), the own slots stay own -/
def sAppLS (i : Nat) (m : AM) : SM := fun E pl => match m E pl with
  | some (ys, p) => match E[i]? with
    | some (.own xs) => bM (noLL ys && sized xs.length) (some (.nx (E.set i (.own (xs ++ [.lst ys]))) p)) none
    | _ => none
  | none => none
theorem SS.appLS {te : TE} {i : Nat} {m : AM} (s : LS K te m) : SS K (tDrop (tBM K "list" rAppend (tVar i) (tCons te tNil))) (sAppLS i m) := fun C pp S H σ E pl D' out I e q => by
  unfold sAppLS at e
  split at e <;> try cases e
  rename_i ys p h
  split at e <;> try cases e
  rename_i xs hx
  cases hn : (noLL ys && sized xs.length) with
  | false => rw [hn] at e; cases e
  | true =>
    rw [hn, bM_t] at e; cases e
    rw [Bool.and_eq_true] at hn
    obtain ⟨a, vs, g1, g2, g3⟩ := I.ownL hx
    refine ⟨_, g1, .inl ⟨rfl, _, .inl (.inl g2)⟩, ?_⟩
    refine s pp _ H σ E pl ys p _ I.erA h fun b us S1 H1 J a1 hp sp hq r1 => ?_
    obtain ⟨S2, J2, a2, r2⟩ := new_low (te := te) (m := m) I J a1 hp sp hq r1 hn.1
    have I1 := (I.back J2 a2).1
    obtain ⟨a', vs', k1, k2, k3⟩ := I1.ownL hx
    rw [g1] at k1; cases k1
    refine ⟨a, vs', _, rfl, rfl, k2, by rw [k3.len]; exact sized_lt hn.2, ?_⟩
    exact q pp _ _ σ PpS.refl (I1.upd hx rfl g1 (sl' := .own (xs ++ [.lst ys])) rfl ⟨_, rfl, k3.append (RpL.cons r2 RpL.nil)⟩)
/-- x.m(e) as a statement, e a new list -/
def MtL (X : Cx) (st : Stmt) (r : V → List V → Hp → VK → Prop) (i : Nat) (m : AM) : Prop := ∃ te, PS X st (tDrop (tBM X.K "list" r (tVar i) (tCons te tNil))) ∧ LS X.K te m
theorem mtl_of {st : Stmt} {e : Expr} {r : V → List V → Hp → VK → Prop} {i : Nat} {m : AM} (he : LF X e m) (mk : ∀ te, PE X e te → PS X st (tDrop (tBM X.K "list" r (tVar i) (tCons te tNil)))) : MtL X st r i m :=
  let ⟨t, p, s⟩ := he; ⟨t, mk t p, s⟩
theorem sf_appLS {st : Stmt} {i : Nat} {m : AM} (h : MtL X st rAppend i m) : SF X st (sAppLS i m) := let ⟨_, p, s⟩ := h; ⟨_, p, SS.appLS s⟩
/-- x.append(y.pop(e)), x and y own -/
def sAppPop (i j : Nat) (m : EM) : SM := fun E pl => match m E pl with
  | some (.int k, p) => match E[i]? with
    | some (.own xs) => match E[j]? with
      | some (.own ys) => match seqIndex? k ys.length with
        | some n => match ys[n]? with
          | some d => bM (sized xs.length && (decide (-(2 ^ 63) ≤ k) && (decide (k < 2 ^ 63) && (i != j)))) (some (.nx ((E.set j (.own (ys.eraseIdx n))).set i (.own (xs ++ [d]))) p)) none
          | none => none
        | none => none
      | _ => none
    | _ => none
  | _ => none
theorem RpL.erase : ∀ {ds : List D} {vs : List V} (n : Nat), RpL K S ds vs → RpL K S (ds.eraseIdx n) (vs.eraseIdx n)
  | [], vs, n, r => by rw [r.nil_inv]; simp; exact RpL.nil
  | d :: ds, vs, 0, r => by obtain ⟨v, us, rfl, r1, r2⟩ := r.cons_inv; exact r2
  | d :: ds, vs, n + 1, r => by obtain ⟨v, us, rfl, r1, r2⟩ := r.cons_inv; exact RpL.cons r1 (r2.erase n)
theorem SS.appPop {te : TE} {i j : Nat} {m : EM} (s : ES K te m) : SS K (tDrop (tBM K "list" rAppend (tVar i) (tCons (tBM K "list" rPopAt (tVar j) (tCons te tNil)) tNil))) (sAppPop i j m) := fun C pp S H σ E pl D' out I e q => by
  unfold sAppPop at e
  split at e <;> try cases e
  rename_i k p h
  split at e <;> try cases e
  rename_i xs hx
  split at e <;> try cases e
  rename_i ys hy
  split at e <;> try cases e
  rename_i n hn
  split at e <;> try cases e
  rename_i d hd
  cases hz : (sized xs.length && (decide (-(2 ^ 63) ≤ k) && (decide (k < 2 ^ 63) && (i != j)))) with
  | false => rw [hz] at e; cases e
  | true =>
    rw [hz, bM_t] at e; cases e
    simp only [Bool.and_eq_true, decide_eq_true_eq, bne_iff_ne, ne_eq] at hz
    obtain ⟨hz1, hz2, hz3, hij⟩ := hz
    obtain ⟨a, vs, g1, g2, g3⟩ := I.ownL hx
    obtain ⟨b, us, f1, f2, f3⟩ := I.ownL hy
    refine ⟨_, g1, .inl ⟨rfl, _, .inl (.inl g2)⟩, ?_⟩
    refine ⟨_, f1, .inl ⟨rfl, _, .inl (.inl f2)⟩, ?_⟩
    refine s pp _ H σ E pl _ p _ I.erA h fun v S1 H1 J a1 r1 => ?_
    rw [rp_int] at r1; subst r1
    have I1 := (I.back J a1).1
    obtain ⟨b', us', k1, k2, k3⟩ := I1.ownL hy
    rw [f1] at k1; cases k1
    obtain ⟨w, w1, w2⟩ := k3.get hd
    refine ⟨b, us', k, n, w, rfl, rfl, k2, hz2, hz3, by rw [k3.len]; exact hn, w1, ?_⟩
    have I2 := I1.upd hy rfl f1 (sl' := .own (ys.eraseIdx n)) rfl ⟨_, rfl, k3.erase n⟩
    have hx2 : (E.set j (.own (ys.eraseIdx n)))[i]? = some (.own xs) := by rw [List.getElem?_set_ne (Ne.symm hij)]; exact hx
    obtain ⟨a', vs', l1, l2, l3⟩ := I2.ownL hx2
    rw [g1] at l1; cases l1
    refine ⟨a, vs', w, rfl, rfl, l2, by rw [l3.len]; exact sized_lt hz1, ?_⟩
    exact q pp _ _ σ PpS.refl (I2.upd hx2 rfl g1 (sl' := .own (xs ++ [d])) rfl ⟨_, rfl, l3.append (RpL.cons w2 RpL.nil)⟩)
theorem sf_appPop {st : Stmt} {e : Expr} {i j : Nat} {m : EM} (he : EF X e m) (mk : ∀ te, PE X e te → PS X st (tDrop (tBM X.K "list" rAppend (tVar i) (tCons (tBM X.K "list" rPopAt (tVar j) (tCons te tNil)) tNil)))) : SF X st (sAppPop i j m) :=
  let ⟨_, p, s⟩ := he; ⟨_, mk _ p, SS.appPop s⟩
end
/-! list(range(n)), list(range(a, b)) -/
def lrg : List D → Option (List D)
  | [.int n] => if decide (0 ≤ n) && decide (n ≤ 10000000) then some (rangeD 0 n.toNat) else none
  | [.int a, .int b] => if (decide (0 ≤ a) && decide (a ≤ 10000000)) && (decide (0 ≤ b) && decide (b ≤ 10000000)) then some (rangeD a (b - a).toNat) else none
  | _ => none
def mRgL (m : AM) : AM := seqM m fun xs => lftM (lrg xs)
theorem rp_rg {K : PySem.W.Frag} {S : Hp} (a b : Int) : RpL K S (rangeD a (b - a).toNat) (rgV a b) := by
  unfold rangeD rgV
  have e1 : (List.range (b - a).toNat).map (fun i => D.int (a + (i : Nat))) = ((List.range (b - a).toNat).map fun i => a + ((i : Nat) : Int)).map D.int := by rw [List.map_map]; rfl
  have e2 : (List.range (b - a).toNat).map (fun i => V.int (a + (i : Nat))) = ((List.range (b - a).toNat).map fun i => a + ((i : Nat) : Int)).map V.int := by rw [List.map_map]; rfl
  rw [e1, e2]
  exact RpL.ints _
theorem lf_rg1 {X : Cx} {a : Expr} {m : EM} {p pos p2 pos2 : Pos} (hc : X.calm = true) (hgl : Gl X "list") (hml : X.mg "list" = none) (hg : Gl X "range") (hm : X.mg "range" = none) (ha : EF X a m) (na : starEach [a] X.env = (false, eval a X.env) :: starEach [] X.env := by rfl)
    (na2 : starEach [.Call (.Name "range" p) [a] [] pos] X.env = (false, eval (.Call (.Name "range" p) [a] [] pos) X.env) :: starEach [] X.env := by rfl) :
    LF X (.Call (.Name "list" p2) [.Call (.Name "range" p) [a] [] pos] [] pos2) (mRgL (aCons m aNil)) := by
  obtain ⟨t, pa, s⟩ := ha
  refine ⟨_, pe_listRg hc hgl hml (prg_1 hg hm pa na) na2, fun pp S H σ E pl ds pl' Q I e q => ?_⟩
  obtain ⟨xs, q1, e1, f1⟩ := seqM_some e
  obtain ⟨e2, rfl⟩ := lftM_some f1
  obtain ⟨x, q2, g1, g2⟩ := seqM_some e1
  obtain ⟨y, q3, g3, g4⟩ := seqM_some g2
  obtain ⟨rfl, rfl⟩ := oks_some g3
  obtain ⟨rfl, rfl⟩ := oks_some g4
  refine s pp S H σ E pl x _ _ I g1 fun v S1 H1 J a1 r1 => ?_
  unfold lrg at e2
  split at e2
  · rename_i n h
    cases h
    split at e2 <;> cases e2
    rename_i hn
    simp only [Bool.and_eq_true, decide_eq_true_eq] at hn
    rw [rp_int] at r1; subst r1
    refine ⟨n, rfl, ⟨by omega, by omega, by omega, by omega, by omega⟩, fun l hl => ?_⟩
    have r := rp_rg (K := X.K) (S := S1) 0 n
    rw [Int.sub_zero] at r
    exact q l _ S1 _ (J.nw (nw_new J.sub hl)) (a1.trans (nw_new J.sub hl).ad) (none_ad a1 hl) (sb_none J.sub hl) upd_same r
  · rename_i h; cases h
  · cases e2
theorem lf_rg2 {X : Cx} {a b : Expr} {m m2 : EM} {p pos p2 pos2 : Pos} (hc : X.calm = true) (hgl : Gl X "list") (hml : X.mg "list" = none) (hg : Gl X "range") (hm : X.mg "range" = none) (ha : EF X a m) (hb : EF X b m2) (na : starEach [a, b] X.env = (false, eval a X.env) :: starEach [b] X.env := by rfl)
    (nb : starEach [b] X.env = (false, eval b X.env) :: starEach [] X.env := by rfl) (hp : (backTo pos (starEach [b] X.env)).any (·.1) = false := by rfl)
    (na2 : starEach [.Call (.Name "range" p) [a, b] [] pos] X.env = (false, eval (.Call (.Name "range" p) [a, b] [] pos) X.env) :: starEach [] X.env := by rfl) :
    LF X (.Call (.Name "list" p2) [.Call (.Name "range" p) [a, b] [] pos] [] pos2) (mRgL (aCons m (aCons m2 aNil))) := by
  obtain ⟨t, pa, s⟩ := ha
  obtain ⟨t2, pb, s2⟩ := hb
  refine ⟨_, pe_listRg hc hgl hml (prg_2 hg hm pa pb na nb hp) na2, fun pp S H σ E pl ds pl' Q I e q => ?_⟩
  obtain ⟨xs, q1, e1, f1⟩ := seqM_some e
  obtain ⟨e2, rfl⟩ := lftM_some f1
  obtain ⟨x, q2, g1, g2⟩ := seqM_some e1
  obtain ⟨y, q3, g3, g4⟩ := seqM_some g2
  obtain ⟨rfl, rfl⟩ := oks_some g4
  obtain ⟨z, q4, k1, k2⟩ := seqM_some g3
  obtain ⟨w, q5, k3, k4⟩ := seqM_some k2
  obtain ⟨rfl, rfl⟩ := oks_some k3
  obtain ⟨rfl, rfl⟩ := oks_some k4
  refine s pp S H σ E pl x _ _ I g1 fun v S1 H1 J a1 r1 => ?_
  refine s2 pp S1 H1 σ E _ z _ _ J k1 fun v2 S2 H2 J2 a2 r2 => ?_
  unfold lrg at e2
  split at e2
  · rename_i h; cases h
  · rename_i n m' h
    cases h
    split at e2 <;> cases e2
    rename_i hn
    simp only [Bool.and_eq_true, decide_eq_true_eq] at hn
    rw [rp_int] at r1 r2; subst r1 r2
    refine ⟨n, m', rfl, rfl, ⟨by omega, by omega, by omega, by omega, by omega⟩, fun l hl => ?_⟩
    have a12 := a1.trans a2
    exact q l _ S2 _ (J2.nw (nw_new J2.sub hl)) (a12.trans (nw_new J2.sub hl).ad) (none_ad a12 hl) (sb_none J2.sub hl) upd_same (rp_rg _ _)
  · cases e2
@[simp] theorem x_mRgL (m : AM) (E : Env) (pl : Option Pl) : mRgL m E pl = (m E pl).bind fun a => (lrg a.1).map fun d => (d, a.2) := by
  unfold mRgL seqM
  cases m E pl with
  | none => rfl
  | some r => unfold lftM; rfl
theorem x_lrg1 (n : Nat) (h : n ≤ 10000000) : lrg [.int (n : Int)] = some (rangeD 0 n) := by
  unfold lrg
  have e : (decide (0 ≤ (n : Int)) && decide ((n : Int) ≤ 10000000)) = true := by
    rw [decide_eq_true (by omega : (0 : Int) ≤ (n : Int)), decide_eq_true (by omega : (n : Int) ≤ 10000000)]; rfl
  dsimp only
  rw [if_pos e]; rfl
/-! for x in range(..): the own slots are seen and stay own -/
def ISp (K : PySem.W.Frag) (w : TI) (m : AM) : Prop := ∀ pp S H σ E pl ds pl' (R : It → Hp → Prop), ER K pp S H σ E pl → m E pl = some (ds, pl') → (∀ J S' H', ER K pp S' H' σ E pl' → Ad pp S H S' H' → (∀ S2, JS K S2 J ds) → R J H') → w σ H R
def IFp (X : Cx) (tg e : Expr) (m : AM) : Prop := ∃ w, PI X tg e w ∧ ISp X.K w m
theorem if_rng1p {X : Cx} {tg a : Expr} {m : AM} {p pos : Pos} (hg : Gl X "range") (hm : X.mg "range" = none) (ha : AF X [a] m) (hs : nst a = true := by rfl) : IFp X tg (.Call (.Name "range" p) [a] [] pos) (mRng rng1 m) := by
  obtain ⟨t, pa, s⟩ := ha
  refine ⟨_, pi_range1 hg hm pa (star_nst hs), fun pp S H σ E pl ds pl' R I e q => ?_⟩
  obtain ⟨x, q1, e1, f1⟩ := seqM_some e
  obtain ⟨e2, rfl⟩ := lftM_some f1
  refine s pp S H σ E pl x _ _ I e1 fun vs S1 H1 J a1 r1 => ?_
  unfold rng1 at e2
  split at e2 <;> try cases e2
  split at e2 <;> cases e2
  rename_i n hn
  obtain ⟨v, rfl, g⟩ := rpl_one r1
  rw [rp_int] at g; subst g
  have hn := of_decide_eq_true hn
  exact ⟨n, rfl, by omega, by omega, q _ S1 H1 J a1 fun _ => js_range⟩
theorem if_rng2p {X : Cx} {tg a b : Expr} {m : AM} {p pos : Pos} (hg : Gl X "range") (hm : X.mg "range" = none) (ha : AF X [a, b] m) (hs : nst a = true := by rfl) (hs2 : nst b = true := by rfl) : IFp X tg (.Call (.Name "range" p) [a, b] [] pos) (mRng rng2 m) := by
  obtain ⟨t, pa, s⟩ := ha
  refine ⟨_, pi_range2 hg hm pa (by rw [star_nst hs, star_nst hs2]; rfl) (star_nst hs2), fun pp S H σ E pl ds pl' R I e q => ?_⟩
  obtain ⟨x, q1, e1, f1⟩ := seqM_some e
  obtain ⟨e2, rfl⟩ := lftM_some f1
  refine s pp S H σ E pl x _ _ I e1 fun vs S1 H1 J a1 r1 => ?_
  unfold rng2 at e2
  split at e2 <;> try cases e2
  split at e2 <;> cases e2
  rename_i a b hn
  simp only [Bool.and_eq_true, decide_eq_true_eq] at hn
  obtain ⟨v, u, rfl, g1, g2⟩ := rpl_two r1
  rw [rp_int] at g1 g2; subst g1 g2
  exact ⟨a, b, rfl, ⟨by omega, by omega, by omega, by omega⟩, q _ S1 H1 J a1 fun _ => js_range⟩
def sForS (g : TM) (m : AM) (b : SM) : SM := fun E pl => match m E pl with
  | some (ds, p) => forL g b ds E p
  | none => none
theorem SS.forS {K : PySem.W.Frag} {w : TI} {g : TG} {tb : TS} {m : AM} {f : TM} {b : SM} (si : ISp K w m) (sg : GS K g f) (sb : SS K tb b) : SS K (tFor w g tb) (sForS f m b) := fun C pp S H σ E pl D' out I e q => by
  unfold sForS at e
  cases h : m E pl with
  | none => rw [h] at e; cases e
  | some r =>
    obtain ⟨ds, p⟩ := r
    rw [h] at e
    dsimp only at e
    refine si pp _ H σ _ pl ds p _ I.erA h fun J S0' H1 I1 a1 j0 => ?_
    have I2 := (I.back I1 a1).1
    generalize hS1 : Sminus S0' (allF E) E σ = S1 at I2
    have j1 := j0 S1
    have m0 : Sb C.S0 S1 := I2.s0
    have q' : PO' K ⟨S1, C.H0, C.pp0⟩ pp D' out := q.down m0 I2.new
    refine ⟨fun i n σ' H' => ∃ pp' S' E' pl', n = ds.length - i ∧ i ≤ ds.length ∧ PpS pp pp' ∧ SR K ⟨S1, C.H0, C.pp0⟩ pp' S' H' σ' E' pl' ∧ forL f b (ds.drop i) E' pl' = some out, ⟨ds.length, pp, S1, _, p, by simp, Nat.zero_le _, PpS.refl, I2.up (Sb.refl _) m0, by simpa using e⟩, ?_⟩
    rintro i n σ' H' ⟨pp', S', E', pl', rfl, hi, hp, I3, e3⟩
    by_cases hlt : i < ds.length
    · have hd : ds.drop i = ds[i] :: ds.drop (i + 1) := List.drop_eq_getElem_cons hlt
      rw [hd] at e3
      unfold forL at e3
      obtain ⟨go, yld⟩ := j1.go i ds[i] S' H' I3.s0 I3.sub (List.getElem?_eq_getElem hlt)
      cases hg : f ds[i] E' with
      | none => rw [hg] at e3; cases e3
      | some E1 =>
        rw [hg] at e3
        dsimp only at e3
        refine .inr ⟨go, fun σ2 H2 => ∃ pp2 S2 E2 pl2, PpS pp pp2 ∧ SR K ⟨S1, C.H0, C.pp0⟩ pp2 S2 H2 σ2 E2 pl2 ∧ forL f b (ds.drop (i + 1)) E2 pl2 = some out, fun σ2 H2 ⟨pp2, S2, E2, pl2, k1, k2, k3⟩ => ⟨ds.length - (i + 1), by omega, pp2, S2, E2, pl2, rfl, hlt, k1, k2, k3⟩, fun x H2 y => ?_⟩
        obtain ⟨S2, nw, rx⟩ := yld x H2 y
        refine sg _ pp' S2 H2 σ' E' pl' ds[i] x E1 _ (I3.nw nw) rx hg fun σ3 I4 => ?_
        cases hb : b E1 pl' with
        | none => rw [hb] at e3; cases e3
        | some o =>
          rw [hb] at e3
          refine sb _ pp' S2 H2 σ3 E1 pl' _ o I4 hb ?_
          cases o with
          | nx E2 p2 => exact fun pp4 S4 H4 σ4 k I5 => ⟨pp4, S4, E2, p2, hp.trans k, I5, e3⟩
          | ct E2 p2 => exact fun pp4 S4 H4 σ4 k I5 => ⟨pp4, S4, E2, p2, hp.trans k, I5, e3⟩
          | bk E2 p2 => cases e3; exact fun pp4 S4 H4 σ4 k I5 => q' pp4 S4 H4 σ4 (hp.trans k) I5
          | rt d E2 p2 => cases e3; exact fun pp4 S4 H4 σ4 v k I5 r5 => q' pp4 S4 H4 σ4 v (hp.trans k) I5 r5
          | rtl d E2 p2 => cases e3; exact fun pp4 S4 H4 σ4 a vs k I5 => q' pp4 S4 H4 σ4 a vs (hp.trans k) I5
    · have ei : i = ds.length := by omega
      subst ei
      rw [List.drop_length] at e3
      unfold forL at e3
      cases e3
      exact .inl ⟨j1.stop _ S' H' I3.s0 I3.sub (Nat.le_refl _), q' pp' S' H' σ' hp I3⟩
theorem sf_forS {X : Cx} {tg it : Expr} {body : List Stmt} {f : TM} {m : AM} {b : SM} {pos : Pos} (hp : PassesOwn (model X.prog X.w) X.A X.env X.xe) (hc : X.calm = true) (hi : IFp X tg it m) (hg : GF X tg f) (hb : BkF X body b)
    (hs : ∀ x, foldedSetIterable it X.env x = pure x := by intro _; rfl) : SF X (.For tg it body [] pos) (sForS f m b) :=
  let ⟨_, p1, s1⟩ := hi; let ⟨_, p2, s2⟩ := hg; let ⟨_, p3, s3⟩ := hb; ⟨_, ps_for hp hc p1 p2 p3 hs, SS.forS s1 s2 s3⟩
theorem x_sForS {g : TM} {m : AM} {b : SM} {E : Env} {pl p : Option Pl} {ds : List D} (h : m E pl = some (ds, p)) : sForS g m b E pl = forL g b ds E p := by unfold sForS; rw [h]
/-! equations -/
theorem swp_ok {i : Nat} {m1 m2 m3 m4 : EM} {E : Env} {pl p1 p2 p3 p4 : Option Pl} {k1 k2 k3 k4 : Int} {xs : List D} {d3 d4 : D} {j1 j2 : Nat} (h3 : m3 E pl = some (.int k3, p3)) (h4 : m4 E p3 = some (.int k4, p4)) (hx : E[i]? = some (.own xs))
    (hd3 : atI xs k3 = some d3) (hd4 : atI xs k4 = some d4) (h1 : m1 E p4 = some (.int k1, p1)) (hj1 : ixN xs.length k1 = some j1) (h2 : m2 (E.set i (.own (xs.set j1 d3))) p1 = some (.int k2, p2)) (hj2 : ixN xs.length k2 = some j2) :
    sSwp i m1 m2 m3 m4 E pl = some (.nx (E.set i (.own ((xs.set j1 d3).set j2 d4))) p2) := by
  simp only [sSwp, swOut, h3, h4, hx, hd3, hd4, h1, hj1, h2, hj2]
theorem setLS_ok {i : Nat} {mi : EM} {m : AM} {E : Env} {pl p p2 : Option Pl} {k : Int} {xs ys : List D} {j : Nat} (h : m E pl = some (ys, p)) (hk : mi E p = some (.int k, p2)) (hx : E[i]? = some (.own xs)) (hj : ixN xs.length k = some j) (hn : noLL ys = true) :
    sSetLS i mi m E pl = some (.nx (E.set i (.own (xs.set j (.lst ys)))) p2) := by
  simp only [sSetLS, h, hk, hx, hj, hn, bM_t]
theorem appLS_ok {i : Nat} {m : AM} {E : Env} {pl p : Option Pl} {xs ys : List D} (h : m E pl = some (ys, p)) (hx : E[i]? = some (.own xs)) (hn : noLL ys = true) (hz : sized xs.length = true) :
    sAppLS i m E pl = some (.nx (E.set i (.own (xs ++ [.lst ys]))) p) := by
  simp only [sAppLS, h, hx, hn, hz, Bool.and_self, bM_t]
theorem appPop_ok {i j : Nat} {m : EM} {E : Env} {pl p : Option Pl} {k : Int} {xs ys : List D} {n : Nat} {d : D} (h : m E pl = some (.int k, p)) (hx : E[i]? = some (.own xs)) (hy : E[j]? = some (.own ys)) (hk : seqIndex? k ys.length = some n) (hd : ys[n]? = some d) (hz : sized xs.length = true)
    (h1 : -(2 ^ 63) ≤ k) (h2 : k < 2 ^ 63) (hij : i ≠ j) : sAppPop i j m E pl = some (.nx ((E.set j (.own (ys.eraseIdx n))).set i (.own (xs ++ [d]))) p) := by
  have e : (sized xs.length && (decide (-(2 ^ 63) ≤ k) && (decide (k < 2 ^ 63) && (i != j)))) = true := by
    rw [hz, decide_eq_true h1, decide_eq_true h2, bne_iff_ne.mpr hij]; rfl
  simp only [sAppPop, h, hx, hy, hk, hd]
  rw [e, bM_t]
end Dn
set_option Elab.async false
set_option linter.all false
set_option maxRecDepth 100000
set_option maxHeartbeats 4000000
namespace Lw
open PySem PySem.Spec PyProof.Rows L2 Dn
def b__law_mixed : SM := sSeq (sAsgF [] (gN 2) (mOp dMod (mCall gInt (aCons (mOp dAdd (mOp dAdd (mOp dMul (mV 0) (mC (.int 48271))) (mOp dMul (mV 1) (mC (.int 69621)))) (mC (.int 11))) (aNil))) (mC (.int 618970019642690137449562111)))) (sSeq (sAsgF [] (gN 3) (mOp dMod (mCall gInt (aCons (mOp dAdd (mOp dAdd (mOp dMul (mV 2) (mV 2)) (mOp dMul (mC (.int 7)) (mV 2))) (mV 1)) (aNil))) (mC (.int 162259276829213363391578010288127)))) (sSeq (sAsgF [] (gN 4) (mOp dMod (mCall gInt (aCons (mOp dAdd (mOp dMul (mV 3) (mV 3)) (mV 2)) (aNil))) (mC (.int 618970019642690137449562111)))) (sRetF [] (mOp dAdd (mOp dMul (mV 3) (mC (.int 618970019642690137449562111))) (mV 4)))))
def m__law_mixed : List D → Option D := runF 5 b__law_mixed
def b__law_rest : SM := sSeq (sAsgF [] (gN 3) (mC (.int 0))) (sSeq (sIf (mTst (mOp dGt (mCall gLen (aCons (mV 0) (aNil))) (mC (.int 0)))) (sAsgF [] (gN 3) (mCall gInt (aCons (mOp dIx (mV 0) (mOp dMod (mCall gInt (aCons (mV 1) (aNil))) (mCall gLen (aCons (mV 0) (aNil))))) (aNil)))) (sNil)) (sSeq (sIf (mTst (mOp dLt (mV 3) (mC (.int 0)))) (sAsgF [] (gN 3) (mOp dSub (mC (.int 1)) (mOp dMul (mC (.int 2)) (mV 3)))) (sNil)) (sSeq (sIf (mAnd (mTst (mOp dEq (mV 2) (mC (.int 0)))) (mAnd (mTst (mOp dLt (mV 1) (mCall gLen (aCons (mV 0) (aNil))))) (mTst (mOp dGe (mV 3) (mOp dPow (mC (.int 10)) (mC (.int 18))))))) (sRetF [] (mOp dSub (mV 3) (mOp dPow (mC (.int 10)) (mC (.int 18))))) (sNil)) (sRetF [] (mCall m__law_mixed (aCons (mOp dAdd (mV 3) (mOp dMul (mV 2) (mC (.int 1000003)))) (aCons (mV 1) (aNil))))))))
def m__law_rest : List D → Option D := runF 4 b__law_rest
def b__law_pool : SM := sRetL [] (mLstL (aCons (mV 0) (aCons (mC (.int 0)) (aCons (mCall m__law_rest (aCons (mV 0) (aCons (mC (.int 0)) (aCons (mC (.int 0)) (aNil))))) (aCons (mC (.int 0)) (aNil))))))
def m__law_pool : List D → Option (List D) := runL 1 b__law_pool
def b__law_next : SM := sSeq (sPset 0 1 (mOp dAdd (mPix 0 1) (mC (.int 1)))) (sSeq (sPset 0 2 (mCall m__law_rest (aCons (mPix 0 0) (aCons (mPix 0 1) (aCons (mC (.int 0)) (aNil)))))) (sPset 0 3 (mC (.int 0))))
def m__law_next : Pl → List D → Option (D × Pl) := runP 1 b__law_next
def b__law_draw : SM := sSeq (sIf (mTst (mOp dLe (mPix 0 2) (mC (.int 1)))) (sSeq (sPset 0 3 (mOp dAdd (mPix 0 3) (mC (.int 1)))) (sPset 0 2 (mCall m__law_rest (aCons (mPix 0 0) (aCons (mPix 0 1) (aCons (mPix 0 3) (aNil))))))) (sNil)) (sSeq (sAsgF [] (gN 2) (mOp dMod (mCall gInt (aCons (mPix 0 2) (aNil))) (mV 1))) (sSeq (sPset 0 2 (mOp dFdiv (mCall gInt (aCons (mPix 0 2) (aNil))) (mV 1))) (sRetF [] (mV 2))))
def m__law_draw : Pl → List D → Option (D × Pl) := runP 3 b__law_draw
theorem log2_lt {a : Int} {n : Nat} (h0 : 0 ≤ a) (h : a < 2 ^ n) (hn : 0 < n) : a.natAbs.log2 < n := by
  have : a.natAbs < 2 ^ n := by
    have := Int.toNat_of_nonneg h0
    have e : ((a.natAbs : Nat) : Int) < ((2 ^ n : Nat) : Int) := by rw [Int.natAbs_of_nonneg h0]; simpa using h
    exact_mod_cast e
  exact PySem.Flt.log2_lt_of hn this
theorem mixed_ok (n p : Int) : ∃ z, m__law_mixed [.int n, .int p] = some (.int z) := by
  have h1 := Int.emod_nonneg (n * 48271 + p * 69621 + 11) (b := 618970019642690137449562111) (by decide)
  have h2 := Int.emod_lt_of_pos (n * 48271 + p * 69621 + 11) (b := 618970019642690137449562111) (by decide)
  generalize hf : (n * 48271 + p * 69621 + 11) % 618970019642690137449562111 = f at h1 h2
  have g1 := Int.emod_nonneg (f * f + 7 * f + p) (b := 162259276829213363391578010288127) (by decide)
  have g2 := Int.emod_lt_of_pos (f * f + 7 * f + p) (b := 162259276829213363391578010288127) (by decide)
  generalize hs : (f * f + 7 * f + p) % 162259276829213363391578010288127 = s at g1 g2
  have lf : f.natAbs.log2 < 490000 := Nat.lt_of_lt_of_le (log2_lt h1 (n := 100) (Int.lt_trans h2 (by decide)) (by decide)) (by decide)
  have ls : s.natAbs.log2 < 490000 := Nat.lt_of_lt_of_le (log2_lt g1 (n := 120) (Int.lt_trans g2 (by decide)) (by decide)) (by decide)
  have lc := x_mulW s 618970019642690137449562111 ls (by decide +kernel)
  refine ⟨s * 618970019642690137449562111 + (s * s + f) % 618970019642690137449562111, ?_⟩
  unfold m__law_mixed b__law_mixed
  simp [x_runF, env0, x_mulS2, x_mod, hf, hs, x_mulW, x_mulS1, lf, ls, lc]
theorem at_in {α : Type} {xs : List α} {i : Int} (h : 0 ≤ i) (g : i < xs.length) : ∃ x, atI xs i = some x := by
  obtain ⟨n, rfl⟩ := Int.eq_ofNat_of_zero_le h
  have hn : n < xs.length := by omega
  exact ⟨xs[n], atI_nat (List.getElem?_eq_getElem hn)⟩
theorem rest_ok (ns : List Int) (place fills : Int) : ∃ z, m__law_rest [.scr ns, .int place, .int fills] = some (.int z) := by
  have pw : dPow (.int 10) (.int 18) = some (.int 1000000000000000000) := by unfold dPow; simp
  have key : ∀ z, ∃ y, outF (sSeq (sIf (mTst (mOp dLt (mV 3) (mC (.int 0)))) (sAsgF [] (gN 3) (mOp dSub (mC (.int 1)) (mOp dMul (mC (.int 2)) (mV 3)))) (sNil)) (sSeq (sIf (mAnd (mTst (mOp dEq (mV 2) (mC (.int 0)))) (mAnd (mTst (mOp dLt (mV 1) (mCall gLen (aCons (mV 0) (aNil))))) (mTst (mOp dGe (mV 3) (mOp dPow (mC (.int 10)) (mC (.int 18))))))) (sRetF [] (mOp dSub (mV 3) (mOp dPow (mC (.int 10)) (mC (.int 18))))) (sNil)) (sRetF [] (mCall m__law_mixed (aCons (mOp dAdd (mV 3) (mOp dMul (mV 2) (mC (.int 1000003)))) (aCons (mV 1) (aNil)))))) [.val (.scr ns), .val (.int place), .val (.int fills), .val (.int z)] none) = some (.int y) := by
    intro z
    have k2 : ∀ z, ∃ y, outF (sSeq (sIf (mAnd (mTst (mOp dEq (mV 2) (mC (.int 0)))) (mAnd (mTst (mOp dLt (mV 1) (mCall gLen (aCons (mV 0) (aNil))))) (mTst (mOp dGe (mV 3) (mOp dPow (mC (.int 10)) (mC (.int 18))))))) (sRetF [] (mOp dSub (mV 3) (mOp dPow (mC (.int 10)) (mC (.int 18))))) (sNil)) (sRetF [] (mCall m__law_mixed (aCons (mOp dAdd (mV 3) (mOp dMul (mV 2) (mC (.int 1000003)))) (aCons (mV 1) (aNil))))) [.val (.scr ns), .val (.int place), .val (.int fills), .val (.int z)] none) = some (.int y) := by
      intro z
      obtain ⟨y, hy⟩ := mixed_ok (z + fills * 1000003) place
      by_cases h1 : fills = 0
      · by_cases h2 : place < ns.length
        · by_cases h3 : 1000000000000000000 ≤ z
          · exact ⟨z - 1000000000000000000, by simp [pw, h1, h2, h3]⟩
          · exact ⟨y, by subst h1; simp at hy; simp [pw, h2, h3, x_mulS2, hy]⟩
        · exact ⟨y, by subst h1; simp at hy; simp [pw, h2, x_mulS2, hy]⟩
      · exact ⟨y, by simp [pw, h1, x_mulS2, hy]⟩
    by_cases h0 : z < 0
    · obtain ⟨y, hy⟩ := k2 (1 - 2 * z)
      refine ⟨y, ?_⟩
      rw [← hy]
      simp [h0, x_mulS1]
    · obtain ⟨y, hy⟩ := k2 z
      refine ⟨y, ?_⟩
      rw [← hy]
      simp [h0]
  unfold m__law_rest b__law_rest
  by_cases hl : 0 < ns.length
  · have p0 : (0 : Int) < ns.length := by omega
    obtain ⟨z, hz⟩ := at_in (xs := ns) (Int.emod_nonneg place (b := ns.length) (by omega)) (Int.emod_lt_of_pos place p0)
    obtain ⟨y, hy⟩ := key z
    refine ⟨y, ?_⟩
    rw [← hy]
    simp [x_runF, env0, hl, x_mod, p0, hz]
  · obtain ⟨y, hy⟩ := key 0
    refine ⟨y, ?_⟩
    rw [← hy]
    simp [x_runF, env0, hl]
theorem pool_ok (ns : List Int) : ∃ z, m__law_pool [.scr ns] = some [.scr ns, .int 0, .int z, .int 0] := by
  obtain ⟨z, hz⟩ := rest_ok ns 0 0
  refine ⟨z, ?_⟩
  unfold m__law_pool b__law_pool
  simp [x_runL, env0, hz, x_sized]
theorem next_ok (P : Pl) : ∃ P', m__law_next P [] = some (.non, P') := by
  obtain ⟨z, hz⟩ := rest_ok P.scr (P.i + 1) 0
  unfold m__law_next b__law_next
  simp [x_runP, env0, hz]
theorem draw_ok (P : Pl) (n : Int) (h : 0 < n) (g : n < 2 ^ 60) : ∃ v P', m__law_draw P [.int n] = some (.int v, P') ∧ 0 ≤ v ∧ v < n := by
  have lg : n.natAbs.log2 < 9000 := Nat.lt_of_lt_of_le (log2_lt (by omega) g (by decide)) (by decide)
  obtain ⟨z, hz⟩ := rest_ok P.scr P.i (P.k + 1)
  unfold m__law_draw b__law_draw
  by_cases h1 : P.n ≤ 1
  · exact ⟨z % n, _, by simp [x_runP, env0, hz, h1, x_mod, x_fdiv, h, lg]; rfl, Int.emod_nonneg _ (by omega), Int.emod_lt_of_pos _ h⟩
  · exact ⟨P.n % n, _, by simp [x_runP, env0, hz, h1, x_mod, x_fdiv, h, lg]; rfl, Int.emod_nonneg _ (by omega), Int.emod_lt_of_pos _ h⟩
noncomputable instance : DecidableEq D := fun a b => Classical.propDecidable (a = b)
theorem for_all {g : TM} {b : SM} {α : Type} (f : α → D) (d : D) (p : α → Bool) (Pv : Dn.Env → Option Pl → Prop) : ∀ (xs : List α) (E : Dn.Env) (pl : Option Pl), Pv E pl →
    (∀ (x : α) (E : Dn.Env) (pl : Option Pl), x ∈ xs → Pv E pl → ∃ E1, g (f x) E = some E1 ∧ (p x = true → ∃ E2 p2, b E1 pl = some (.nx E2 p2) ∧ Pv E2 p2) ∧ (p x = false → ∃ E2, b E1 pl = some (.rt d E2 pl))) →
    (xs.all p = true → ∃ E' pl', forL g b (xs.map f) E pl = some (.nx E' pl') ∧ Pv E' pl') ∧ (xs.all p = false → ∃ E' pl', forL g b (xs.map f) E pl = some (.rt d E' pl'))
  | [], E, pl, h, _ => ⟨(fun _ => ⟨E, pl, rfl, h⟩), (fun z => by cases z)⟩
  | x :: xs, E, pl, h, hs => by
    obtain ⟨E1, e1, h1, h2⟩ := hs x E pl List.mem_cons_self h
    have ih := fun E pl hp => for_all f d p Pv xs E pl hp (fun y E pl hy hp => hs y E pl (List.mem_cons_of_mem _ hy) hp)
    rw [List.map_cons, List.all_cons]
    unfold forL
    rw [e1]
    dsimp only
    cases hx : p x with
    | true =>
      obtain ⟨E2, p2, e2, h3⟩ := h1 hx
      rw [e2]
      simp only [Bool.true_and]
      exact ih E2 p2 h3
    | false =>
      obtain ⟨E2, e2⟩ := h2 hx
      rw [e2]
      exact ⟨(fun z => by cases z), (fun _ => ⟨E2, pl, rfl⟩)⟩
theorem isTy_eq (T : String) (d : D) : isTy T d = isTyS (tyD d) T := rfl
@[simp] theorem y1 : isTyS "NoneType" "int" = false := by decide
@[simp] theorem y2 : isTyS "NoneType" "bool" = false := by decide
@[simp] theorem y3 : isTyS "NoneType" "str" = false := by decide
@[simp] theorem y4 : isTyS "NoneType" "dict" = false := by decide
@[simp] theorem y5 : isTyS "NoneType" "tuple" = false := by decide
@[simp] theorem y6 : isTyS "NoneType" "list" = false := by decide
@[simp] theorem yb1 : isTyS "bool" "int" = true := by decide
@[simp] theorem yb2 : isTyS "bool" "bool" = true := by decide
@[simp] theorem yb3 : isTyS "bool" "str" = false := by decide
@[simp] theorem yb4 : isTyS "bool" "dict" = false := by decide
@[simp] theorem yb5 : isTyS "bool" "tuple" = false := by decide
@[simp] theorem yb6 : isTyS "bool" "list" = false := by decide
@[simp] theorem yi1 : isTyS "int" "int" = true := by decide
@[simp] theorem yi2 : isTyS "int" "bool" = false := by decide
@[simp] theorem yi3 : isTyS "int" "str" = false := by decide
@[simp] theorem yi4 : isTyS "int" "dict" = false := by decide
@[simp] theorem yi5 : isTyS "int" "tuple" = false := by decide
@[simp] theorem yi6 : isTyS "int" "list" = false := by decide
@[simp] theorem ys1 : isTyS "str" "int" = false := by decide
@[simp] theorem ys2 : isTyS "str" "bool" = false := by decide
@[simp] theorem ys3 : isTyS "str" "str" = true := by decide
@[simp] theorem ys4 : isTyS "str" "dict" = false := by decide
@[simp] theorem ys5 : isTyS "str" "tuple" = false := by decide
@[simp] theorem ys6 : isTyS "str" "list" = false := by decide
@[simp] theorem yt1 : isTyS "tuple" "int" = false := by decide
@[simp] theorem yt2 : isTyS "tuple" "bool" = false := by decide
@[simp] theorem yt3 : isTyS "tuple" "str" = false := by decide
@[simp] theorem yt4 : isTyS "tuple" "dict" = false := by decide
@[simp] theorem yt5 : isTyS "tuple" "tuple" = true := by decide
@[simp] theorem yt6 : isTyS "tuple" "list" = false := by decide
@[simp] theorem yl1 : isTyS "list" "int" = false := by decide
@[simp] theorem yl2 : isTyS "list" "bool" = false := by decide
@[simp] theorem yl3 : isTyS "list" "str" = false := by decide
@[simp] theorem yl4 : isTyS "list" "dict" = false := by decide
@[simp] theorem yl5 : isTyS "list" "tuple" = false := by decide
@[simp] theorem yl6 : isTyS "list" "list" = true := by decide
@[simp] theorem yd1 : isTyS "dict" "int" = false := by decide
@[simp] theorem yd2 : isTyS "dict" "bool" = false := by decide
@[simp] theorem yd3 : isTyS "dict" "str" = false := by decide
@[simp] theorem yd4 : isTyS "dict" "dict" = true := by decide
@[simp] theorem yd5 : isTyS "dict" "tuple" = false := by decide
@[simp] theorem yd6 : isTyS "dict" "list" = false := by decide
@[simp] theorem tyN : tyD .non = "NoneType" := rfl
@[simp] theorem tyB (b : Bool) : tyD (.bl b) = "bool" := rfl
@[simp] theorem tyI (b : Int) : tyD (.int b) = "int" := rfl
@[simp] theorem tyS (b : Str) : tyD (.str b) = "str" := rfl
@[simp] theorem tyT (b : List D) : tyD (.tup b) = "tuple" := rfl
@[simp] theorem tyL (b : List D) : tyD (.lst b) = "list" := rfl
@[simp] theorem x_neB (a b : Bool) : dNe (.bl a) (.bl b) = some (.bl (!(a == b))) := by
  unfold dNe; rw [if_pos (by simp [fl_bl])]; simp only [eqd]
@[simp] theorem x_eqB (a b : Bool) : dEq (.bl a) (.bl b) = some (.bl (a == b)) := by
  unfold dEq; rw [if_pos (by simp [fl_bl])]; simp only [eqd]

/-- data that a law may compare -/
def pd : Nat → D → Bool
  | _, .non => true
  | _, .bl _ => true
  | _, .int _ => true
  | _, .str s => s.cps.all (· < 0x110000)
  | n + 1, .tup xs => decide (xs.length < 1000000) && xs.all (pd n)
  | n + 1, .lst xs => decide (xs.length < 1000000) && xs.all (pd n)
  | _, _ => false
theorem eqd_self_str (x : Str) (h : x.cps.all (· < 0x110000) = true) : dEq (.str x) (.str x) = some (.bl true) := by
  unfold dEq; rw [if_pos (by simp [fl_str, h])]; simp [eqd]
@[simp] theorem x_isBS' (b : Bool) (i : Str) : isB b (.str i) = false := rfl
/-- a loop over a range whose turns change nothing -/
theorem rng_stay {b : SM} {E : Dn.Env} {pl : Option Pl} {g : TM} (E1 : Nat → Dn.Env) : ∀ (n lo : Nat) (E0 : Dn.Env), (∀ k, lo ≤ k → k < lo + n → ∀ E0 : Dn.Env, (E0 = E ∨ ∃ j, E0 = E1 j) → g (.int (k : Nat)) E0 = some (E1 k) ∧ b (E1 k) pl = some (.nx (E1 k) pl)) → (E0 = E ∨ ∃ j, E0 = E1 j) → ∃ E', forL g b (rangeD lo n) E0 pl = some (.nx E' pl) ∧ (E' = E ∨ ∃ j, E' = E1 j)
  | 0, lo, E0, h, h0 => ⟨E0, rfl, h0⟩
  | n + 1, lo, E0, h, h0 => by
    obtain ⟨e1, e2⟩ := h lo (Nat.le_refl _) (by omega) E0 h0
    obtain ⟨E', e3, e4⟩ := rng_stay E1 n (lo + 1) (E1 lo) (fun k k1 k2 => h k (by omega) (by omega)) (.inr ⟨lo, rfl⟩)
    refine ⟨E', ?_, e4⟩
    have hr : rangeD (lo : Nat) (n + 1) = D.int (lo : Nat) :: rangeD ((lo + 1 : Nat) : Int) n := by
      unfold rangeD
      rw [List.range_succ_eq_map, List.map_cons, List.map_map]
      congr 1
      simp; intro a _; omega
    rw [hr, x_forC, e1]
    simp only [Option.bind_some, e2, x_afN, e3]
end Lw
set_option Elab.async false
set_option linter.all false
set_option maxRecDepth 100000
set_option maxHeartbeats 4000000
namespace Lw
open PySem PySem.Spec PyProof.Rows L2 Dn
def b__law_same (m_rec : List D → Option D) : SM := sSeq (sIf (mOr (mTst (mOp dIs (mV 1) (mC .non))) (mOr (mTst (mOp dIs (mV 1) (mC (.bl true)))) (mTst (mOp dIs (mV 1) (mC (.bl false)))))) (sRetF [] (mOrV (mAndV (mOp dIs (mV 1) (mC .non)) (mOp dIs (mV 0) (mC .non))) (mOrV (mAndV (mOp dIs (mV 1) (mC (.bl true))) (mOp dIs (mV 0) (mC (.bl true)))) (mAndV (mOp dIs (mV 1) (mC (.bl false))) (mOp dIs (mV 0) (mC (.bl false))))))) (sNil)) (sSeq (sIf (mTru (mIsi "int" (mV 1))) (sRetF [] (mAndV (mIsi "int" (mV 0)) (mAndV (mNotV (mIsi "bool" (mV 0))) (mOp dEq (mV 0) (mV 1))))) (sNil)) (sSeq (sIf (mTru (mIsi "str" (mV 1))) (sRetF [] (mAndV (mIsi "str" (mV 0)) (mOp dEq (mV 0) (mV 1)))) (sNil)) (sSeq (sIf (mTru (mIsi "dict" (mV 1))) (sSeq (sIf (mOr (mNot (mTru (mIsi "dict" (mV 0)))) (mTst (mOp dNe (mCall gLen (aCons (mV 0) (aNil))) (mCall gLen (aCons (mV 1) (aNil)))))) (sRetF [] (mC (.bl false))) (sNil)) (sSeq (sFor [] (gN 3) (mIt itD (mV 1)) (sIf (mOr (mTst (mOp dNotIn (mV 3) (mV 0))) (mNot (mTru (mCall m_rec (aCons (mOp dIx (mV 0) (mV 3)) (aCons (mOp dIx (mV 1) (mV 3)) (aNil))))))) (sRetF [] (mC (.bl false))) (sNil))) (sRetF [] (mC (.bl true))))) (sNil)) (sSeq (sIf (mAnd (mTru (mIsi "tuple" (mV 1))) (mNot (mTru (mIsi "tuple" (mV 0))))) (sRetF [] (mC (.bl false))) (sNil)) (sSeq (sIf (mAnd (mTru (mIsi "list" (mV 1))) (mNot (mTru (mIsi "list" (mV 0))))) (sRetF [] (mC (.bl false))) (sNil)) (sSeq (sIf (mTst (mOp dNe (mCall gLen (aCons (mV 0) (aNil))) (mCall gLen (aCons (mV 1) (aNil))))) (sRetF [] (mC (.bl false))) (sNil)) (sSeq (sFor [] (gN 2) (mRng rng1 (aCons (mCall gLen (aCons (mV 1) (aNil))) (aNil))) (sIf (mNot (mTru (mCall m_rec (aCons (mOp dIx (mV 0) (mV 2)) (aCons (mOp dIx (mV 1) (mV 2)) (aNil)))))) (sRetF [] (mC (.bl false))) (sNil))) (sRetF [] (mC (.bl true))))))))))
def m__law_same : Nat → List D → Option D
  | 0 => fun _ => none
  | n + 1 => runF 4 (b__law_same (m__law_same n))
theorem same_non (n : Nat) : m__law_same (n + 1) [.non, .non] = some (.bl true) := by
  simp [m__law_same, b__law_same, x_runF, env0]
theorem same_bl (n : Nat) (b : Bool) : m__law_same (n + 1) [.bl b, .bl b] = some (.bl true) := by
  cases b <;> simp [m__law_same, b__law_same, x_runF, env0]
theorem same_int (n : Nat) (i : Int) : m__law_same (n + 1) [.int i, .int i] = some (.bl true) := by
  simp [m__law_same, b__law_same, x_runF, env0, isTy_eq, tyD]
theorem same_seq (n : Nat) (xs : List D) (hl : xs.length < 2 ^ 59) (h : ∀ d ∈ xs, m__law_same n [d, d] = some (.bl true)) : m__law_same (n + 1) [.tup xs, .tup xs] = some (.bl true) ∧ m__law_same (n + 1) [.lst xs, .lst xs] = some (.bl true) := by
  have key : ∀ d : D, (d = .tup xs ∨ d = .lst xs) → ∃ E', forL (gN 2) (sIf (mNot (mTru (mCall (m__law_same n) (aCons (mOp dIx (mV 0) (mV 2)) (aCons (mOp dIx (mV 1) (mV 2)) (aNil)))))) (sRetF [] (mC (.bl false))) (sNil)) (rangeD 0 xs.length) [.val d, .val d, .un, .un] none = some (.nx E' none) := by
    intro d hd
    obtain ⟨E', e, _⟩ := rng_stay (b := (sIf (mNot (mTru (mCall (m__law_same n) (aCons (mOp dIx (mV 0) (mV 2)) (aCons (mOp dIx (mV 1) (mV 2)) (aNil)))))) (sRetF [] (mC (.bl false))) (sNil))) (E := [.val d, .val d, .un, .un]) (pl := none) (g := gN 2) (fun k => [.val d, .val d, .val (.int (k : Nat)), .un]) xs.length 0 _ (fun k _ k2 E0 h0 => by
      have hx : atI xs (k : Int) = some xs[k] := atI_nat (List.getElem?_eq_getElem (by omega))
      have hd' := h xs[k] (List.getElem_mem _)
      refine ⟨?_, ?_⟩
      · rcases h0 with rfl | ⟨j, rfl⟩ <;> simp
      · rcases hd with rfl | rfl <;> simp [hx, hd']) (.inl rfl)
    exact ⟨E', e⟩
  obtain ⟨E1, e1⟩ := key _ (.inl rfl)
  obtain ⟨E2, e2⟩ := key _ (.inr rfl)
  have hr := x_rng1 xs.length (by omega) (by omega)
  constructor <;> simp [m__law_same, b__law_same, x_runF, env0, isTy_eq, hr, e1, e2]
theorem same_refl : ∀ (n : Nat) (d : D), pd n d = true → m__law_same (n + 1) [d, d] = some (.bl true) := by
  intro n
  induction n with
  | zero =>
    intro d h
    cases d with
    | non => simp [same_non]
    | bl b => simp [same_bl]
    | int i => simp [same_int]
    | str s => simp [m__law_same, b__law_same, x_runF, env0, isTy_eq, eqd_self_str s (by simpa only [pd] using h)]
    | _ => simp [pd] at h
  | succ n ih =>
    intro d h
    cases d with
    | non => simp [same_non]
    | bl b => simp [same_bl]
    | int i => simp [same_int]
    | str s => simp [m__law_same, b__law_same, x_runF, env0, isTy_eq, eqd_self_str s (by simpa only [pd] using h)]
    | tup xs =>
      simp only [pd, Bool.and_eq_true, decide_eq_true_eq, List.all_eq_true] at h
      exact (same_seq (n + 1) xs (by have := h.1; omega) fun d hd => ih d (h.2 d hd)).1
    | lst xs =>
      simp only [pd, Bool.and_eq_true, decide_eq_true_eq, List.all_eq_true] at h
      exact (same_seq (n + 1) xs (by have := h.1; omega) fun d hd => ih d (h.2 d hd)).2
    | _ => simp [pd] at h
end Lw
set_option Elab.async false
set_option linter.all false
set_option maxRecDepth 100000
set_option maxHeartbeats 4000000
namespace Lw
open PySem PySem.Spec PyProof.Rows L2 Dn
def b_frac : SM := sSeq (sIf (mTst (mOp dLt (mV 1) (mC (.int 0)))) (sPar [] 0 1 (aCons (mUn dNeg (mV 0)) (aCons (mUn dNeg (mV 1)) (aNil)))) (sNil)) (sSeq (sAsgF [] (gN 2) (mCall gGcd (aCons (mV 0) (aCons (mV 1) (aNil))))) (sRetF [] (mTup (aCons (mOp dFdiv (mV 0) (mV 2)) (aCons (mOp dFdiv (mV 1) (mV 2)) (aNil))))))
def m_frac : List D → Option D := runF 3 b_frac
def b_plus : SM := sRetF [] (mCall m_frac (aCons (mOp dAdd (mOp dMul (mOp dIx (mV 0) (mC (.int 0))) (mOp dIx (mV 1) (mC (.int 1)))) (mOp dMul (mOp dIx (mV 1) (mC (.int 0))) (mOp dIx (mV 0) (mC (.int 1))))) (aCons (mOp dMul (mOp dIx (mV 0) (mC (.int 1))) (mOp dIx (mV 1) (mC (.int 1)))) (aNil))))
def m_plus : List D → Option D := runF 2 b_plus
def b_minus : SM := sRetF [] (mCall m_frac (aCons (mOp dSub (mOp dMul (mOp dIx (mV 0) (mC (.int 0))) (mOp dIx (mV 1) (mC (.int 1)))) (mOp dMul (mOp dIx (mV 1) (mC (.int 0))) (mOp dIx (mV 0) (mC (.int 1))))) (aCons (mOp dMul (mOp dIx (mV 0) (mC (.int 1))) (mOp dIx (mV 1) (mC (.int 1)))) (aNil))))
def m_minus : List D → Option D := runF 2 b_minus
def b_times : SM := sRetF [] (mCall m_frac (aCons (mOp dMul (mOp dIx (mV 0) (mC (.int 0))) (mOp dIx (mV 1) (mC (.int 0)))) (aCons (mOp dMul (mOp dIx (mV 0) (mC (.int 1))) (mOp dIx (mV 1) (mC (.int 1)))) (aNil))))
def m_times : List D → Option D := runF 2 b_times
def b_over : SM := sRetF [] (mCall m_frac (aCons (mOp dMul (mOp dIx (mV 0) (mC (.int 0))) (mOp dIx (mV 1) (mC (.int 1)))) (aCons (mOp dMul (mOp dIx (mV 0) (mC (.int 1))) (mOp dIx (mV 1) (mC (.int 0)))) (aNil))))
def m_over : List D → Option D := runF 2 b_over
def b_less : SM := sRetF [] (mOp dLt (mOp dMul (mOp dIx (mV 0) (mC (.int 0))) (mOp dIx (mV 1) (mC (.int 1)))) (mOp dMul (mOp dIx (mV 1) (mC (.int 0))) (mOp dIx (mV 0) (mC (.int 1)))))
def m_less : List D → Option D := runF 2 b_less
def b__law_gcd : SM := sSeq (sFor [] (gN 2) (mRng rng1 (aCons (mC (.int 400000)) (aNil))) (sSeq (sIf (mTst (mOp dEq (mV 1) (mC (.int 0)))) (sBrk) (sNil)) (sPar [] 0 1 (aCons (mV 1) (aCons (mOp dMod (mCall gInt (aCons (mV 0) (aNil))) (mV 1)) (aNil)))))) (sRetF [] (mV 0))
def m__law_gcd : List D → Option D := runF 3 b__law_gcd
def b__law_ratio : SM := sSeq (sIf (mTst (mOp dLt (mV 1) (mC (.int 0)))) (sPar [] 0 1 (aCons (mUn dNeg (mV 0)) (aCons (mUn dNeg (mV 1)) (aNil)))) (sNil)) (sSeq (sAsgF [] (gN 2) (mCall m__law_gcd (aCons (mCall gAbs (aCons (mV 0) (aNil))) (aCons (mV 1) (aNil))))) (sRetF [] (mTup (aCons (mOp dFdiv (mV 0) (mV 2)) (aCons (mOp dFdiv (mV 1) (mV 2)) (aNil))))))
def m__law_ratio : List D → Option D := runF 3 b__law_ratio
def b__law_add : SM := sRetF [] (mCall m__law_ratio (aCons (mOp dAdd (mOp dMul (mOp dIx (mV 0) (mC (.int 0))) (mOp dIx (mV 1) (mC (.int 1)))) (mOp dMul (mOp dIx (mV 1) (mC (.int 0))) (mOp dIx (mV 0) (mC (.int 1))))) (aCons (mOp dMul (mOp dIx (mV 0) (mC (.int 1))) (mOp dIx (mV 1) (mC (.int 1)))) (aNil))))
def m__law_add : List D → Option D := runF 2 b__law_add
def b__law_sub : SM := sRetF [] (mCall m__law_ratio (aCons (mOp dSub (mOp dMul (mOp dIx (mV 0) (mC (.int 0))) (mOp dIx (mV 1) (mC (.int 1)))) (mOp dMul (mOp dIx (mV 1) (mC (.int 0))) (mOp dIx (mV 0) (mC (.int 1))))) (aCons (mOp dMul (mOp dIx (mV 0) (mC (.int 1))) (mOp dIx (mV 1) (mC (.int 1)))) (aNil))))
def m__law_sub : List D → Option D := runF 2 b__law_sub
def b__law_mul : SM := sRetF [] (mCall m__law_ratio (aCons (mOp dMul (mOp dIx (mV 0) (mC (.int 0))) (mOp dIx (mV 1) (mC (.int 0)))) (aCons (mOp dMul (mOp dIx (mV 0) (mC (.int 1))) (mOp dIx (mV 1) (mC (.int 1)))) (aNil))))
def m__law_mul : List D → Option D := runF 2 b__law_mul
def b__law_div : SM := sRetF [] (mCall m__law_ratio (aCons (mOp dMul (mOp dIx (mV 0) (mC (.int 0))) (mOp dIx (mV 1) (mC (.int 1)))) (aCons (mOp dMul (mOp dIx (mV 0) (mC (.int 1))) (mOp dIx (mV 1) (mC (.int 0)))) (aNil))))
def m__law_div : List D → Option D := runF 2 b__law_div
def b__law_less : SM := sRetF [] (mOp dLt (mOp dMul (mOp dIx (mV 0) (mC (.int 0))) (mOp dIx (mV 1) (mC (.int 1)))) (mOp dMul (mOp dIx (mV 1) (mC (.int 0))) (mOp dIx (mV 0) (mC (.int 1)))))
def m__law_less : List D → Option D := runF 2 b__law_less
def b__law_frac : SM := sSeq (sAsgF [] (gN 2) (mCall gAbs (aCons (mV 0) (aNil)))) (sSeq (sAsgF [] (gN 3) (mCall gAbs (aCons (mV 1) (aNil)))) (sSeq (sFor [] (gN 4) (mRng rng1 (aCons (mC (.int 400000)) (aNil))) (sSeq (sIf (mTst (mOp dEq (mV 3) (mC (.int 0)))) (sBrk) (sNil)) (sPar [] 2 3 (aCons (mV 3) (aCons (mOp dMod (mCall gInt (aCons (mV 2) (aNil))) (mV 3)) (aNil)))))) (sSeq (sAsgF [] (gN 5) (mIte (mTst (mOp dLt (mV 1) (mC (.int 0)))) (mUn dNeg (mC (.int 1))) (mC (.int 1)))) (sRetF [] (mTup (aCons (mOp dFdiv (mOp dMul (mV 5) (mV 0)) (mV 2)) (aCons (mOp dFdiv (mOp dMul (mV 5) (mV 1)) (mV 2)) (aNil))))))))
def m__law_frac : List D → Option D := runF 6 b__law_frac
def b__law_plus : SM := sRetF [] (mCall m__law_frac (aCons (mOp dAdd (mOp dMul (mOp dIx (mV 0) (mC (.int 0))) (mOp dIx (mV 1) (mC (.int 1)))) (mOp dMul (mOp dIx (mV 1) (mC (.int 0))) (mOp dIx (mV 0) (mC (.int 1))))) (aCons (mOp dMul (mOp dIx (mV 0) (mC (.int 1))) (mOp dIx (mV 1) (mC (.int 1)))) (aNil))))
def m__law_plus : List D → Option D := runF 2 b__law_plus
def b__law_minus : SM := sRetF [] (mCall m__law_frac (aCons (mOp dSub (mOp dMul (mOp dIx (mV 0) (mC (.int 0))) (mOp dIx (mV 1) (mC (.int 1)))) (mOp dMul (mOp dIx (mV 1) (mC (.int 0))) (mOp dIx (mV 0) (mC (.int 1))))) (aCons (mOp dMul (mOp dIx (mV 0) (mC (.int 1))) (mOp dIx (mV 1) (mC (.int 1)))) (aNil))))
def m__law_minus : List D → Option D := runF 2 b__law_minus
def b__law_times : SM := sRetF [] (mCall m__law_frac (aCons (mOp dMul (mOp dIx (mV 0) (mC (.int 0))) (mOp dIx (mV 1) (mC (.int 0)))) (aCons (mOp dMul (mOp dIx (mV 0) (mC (.int 1))) (mOp dIx (mV 1) (mC (.int 1)))) (aNil))))
def m__law_times : List D → Option D := runF 2 b__law_times
def b__law_over : SM := sRetF [] (mCall m__law_frac (aCons (mOp dMul (mOp dIx (mV 0) (mC (.int 0))) (mOp dIx (mV 1) (mC (.int 1)))) (aCons (mOp dMul (mOp dIx (mV 0) (mC (.int 1))) (mOp dIx (mV 1) (mC (.int 0)))) (aNil))))
def m__law_over : List D → Option D := runF 2 b__law_over
def b__law_under : SM := sRetF [] (mOp dLt (mOp dMul (mOp dIx (mV 0) (mC (.int 0))) (mOp dIx (mV 1) (mC (.int 1)))) (mOp dMul (mOp dIx (mV 1) (mC (.int 0))) (mOp dIx (mV 0) (mC (.int 1)))))
def m__law_under : List D → Option D := runF 2 b__law_under

/-! ### exact numbers -/
def rD (r : Rat) : D := .tup [.int r.num, .int r.den]
/-- less than 2^n above and below -/
def Sm (n : Nat) (r : Rat) : Prop := r.num.natAbs < 2 ^ n ∧ r.den < 2 ^ n
theorem Sm.mono {m n : Nat} {r : Rat} (h : Sm m r) (hn : m ≤ n) : Sm n r :=
  ⟨Nat.lt_of_lt_of_le h.1 (Nat.pow_le_pow_right (by decide) hn), Nat.lt_of_lt_of_le h.2 (Nat.pow_le_pow_right (by decide) hn)⟩
theorem natAbs_div_le (a : Int) (b : Nat) : (a / (b : Int)).natAbs ≤ a.natAbs := by
  exact Int.natAbs_ediv_le_natAbs a b
theorem sign_natAbs (a b : Int) : (a.sign * b).natAbs ≤ b.natAbs := by
  rw [Int.natAbs_mul, Int.natAbs_sign]
  split <;> simp
theorem sm_div {n : Nat} {p q : Int} (hp : p.natAbs < 2 ^ n) (hq : q.natAbs < 2 ^ n) (h0 : q ≠ 0) : Sm n ((p : Rat) / (q : Rat)) := by
  rw [← Rat.divInt_eq_div]
  constructor
  · rw [Rat.num_divInt]
    exact Nat.lt_of_le_of_lt (Nat.le_trans (natAbs_div_le _ _) (sign_natAbs _ _)) hp
  · rw [Rat.den_divInt, if_neg h0]
    exact Nat.lt_of_le_of_lt (Nat.div_le_self _ _) hq
theorem rat_eq (a : Rat) : a = (a.num : Rat) / ((a.den : Int) : Rat) := by
  rw [← Rat.divInt_eq_div]; exact (Rat.num_divInt_den a).symm
theorem den_ne (a : Rat) : ((a.den : Int) : Rat) ≠ 0 := by
  have := a.den_nz
  intro h
  have h2 : (a.den : Int) = 0 := by exact_mod_cast h
  omega
theorem den_ne' (a : Rat) : (a.den : Int) ≠ 0 := by have := a.den_nz; omega
theorem num_ne {a : Rat} (h : a ≠ 0) : a.num ≠ 0 := fun e => h (Rat.num_eq_zero.mp e)
theorem num_neR {a : Rat} (h : a ≠ 0) : (a.num : Rat) ≠ 0 := by
  intro e
  have e2 : a.num = 0 := by exact_mod_cast e
  exact num_ne h e2
theorem c_add (p q r s : Rat) (hq : q ≠ 0) (hs : s ≠ 0) : (p * s + r * q) / (q * s) = p / q + r / s := by grind
theorem c_sub (p q r s : Rat) (hq : q ≠ 0) (hs : s ≠ 0) : (p * s - r * q) / (q * s) = p / q - r / s := by grind
theorem c_mul (p q r s : Rat) (hq : q ≠ 0) (hs : s ≠ 0) : (p * r) / (q * s) = p / q * (r / s) := by grind
theorem c_div (p q r s : Rat) (hq : q ≠ 0) (hs : s ≠ 0) (hr : r ≠ 0) : (p * s) / (q * r) = p / q / (r / s) := by grind
theorem add_eq (a b : Rat) : ((a.num * b.den + b.num * a.den : Int) : Rat) / ((a.den * b.den : Int) : Rat) = a + b := by
  rw [Rat.intCast_add, Rat.intCast_mul, Rat.intCast_mul, Rat.intCast_mul, c_add _ _ _ _ (den_ne a) (den_ne b), ← rat_eq a, ← rat_eq b]
theorem sub_eq (a b : Rat) : ((a.num * b.den - b.num * a.den : Int) : Rat) / ((a.den * b.den : Int) : Rat) = a - b := by
  rw [Rat.intCast_sub, Rat.intCast_mul, Rat.intCast_mul, Rat.intCast_mul, c_sub _ _ _ _ (den_ne a) (den_ne b), ← rat_eq a, ← rat_eq b]
theorem mul_eq (a b : Rat) : ((a.num * b.num : Int) : Rat) / ((a.den * b.den : Int) : Rat) = a * b := by
  rw [Rat.intCast_mul, Rat.intCast_mul, c_mul _ _ _ _ (den_ne a) (den_ne b), ← rat_eq a, ← rat_eq b]
theorem div_eq (a b : Rat) (hb : b ≠ 0) : ((a.num * b.den : Int) : Rat) / ((a.den * b.num : Int) : Rat) = a / b := by
  rw [Rat.intCast_mul, Rat.intCast_mul, c_div _ _ _ _ (den_ne a) (den_ne b) (num_neR hb), ← rat_eq a, ← rat_eq b]
theorem pow_mul_lt {a b m n : Nat} (h : a < 2 ^ m) (g : b < 2 ^ n) : a * b < 2 ^ (m + n) := by
  rw [Nat.pow_add]
  exact Nat.mul_lt_mul'' h g
theorem Sm.add {m n : Nat} {a b : Rat} (h : Sm m a) (g : Sm n b) : Sm (m + n + 1) (a + b) := by
  rw [← add_eq]
  refine sm_div ?_ ?_ (Int.mul_ne_zero (den_ne' a) (den_ne' b))
  · have h1 := pow_mul_lt h.1 g.2
    have h2 := pow_mul_lt h.2 g.1
    have := Int.natAbs_add_le (a.num * b.den) (b.num * a.den)
    rw [Int.natAbs_mul, Int.natAbs_mul, Int.natAbs_natCast, Int.natAbs_natCast, Nat.mul_comm b.num.natAbs] at this
    rw [Nat.pow_succ]; omega
  · rw [Int.natAbs_mul, Int.natAbs_natCast, Int.natAbs_natCast]
    have := pow_mul_lt h.2 g.2
    rw [Nat.pow_succ]; omega
theorem Sm.sub {m n : Nat} {a b : Rat} (h : Sm m a) (g : Sm n b) : Sm (m + n + 1) (a - b) := by
  rw [← sub_eq]
  refine sm_div ?_ ?_ (Int.mul_ne_zero (den_ne' a) (den_ne' b))
  · have h1 := pow_mul_lt h.1 g.2
    have h2 := pow_mul_lt h.2 g.1
    have := Int.natAbs_sub_le (a.num * b.den) (b.num * a.den)
    rw [Int.natAbs_mul, Int.natAbs_mul, Int.natAbs_natCast, Int.natAbs_natCast, Nat.mul_comm b.num.natAbs] at this
    rw [Nat.pow_succ]; omega
  · rw [Int.natAbs_mul, Int.natAbs_natCast, Int.natAbs_natCast]
    have := pow_mul_lt h.2 g.2
    rw [Nat.pow_succ]; omega
theorem Sm.mul {m n : Nat} {a b : Rat} (h : Sm m a) (g : Sm n b) : Sm (m + n) (a * b) := by
  rw [← mul_eq]
  refine sm_div ?_ ?_ (Int.mul_ne_zero (den_ne' a) (den_ne' b))
  · rw [Int.natAbs_mul]; exact pow_mul_lt h.1 g.1
  · rw [Int.natAbs_mul, Int.natAbs_natCast, Int.natAbs_natCast]; exact pow_mul_lt h.2 g.2
theorem Sm.div {m n : Nat} {a b : Rat} (h : Sm m a) (g : Sm n b) (hb : b ≠ 0) : Sm (m + n) (a / b) := by
  rw [← div_eq a b hb]
  refine sm_div ?_ ?_ (Int.mul_ne_zero (den_ne' a) (num_ne hb))
  · rw [Int.natAbs_mul, Int.natAbs_natCast]; exact pow_mul_lt h.1 g.2
  · rw [Int.natAbs_mul, Int.natAbs_natCast]; exact pow_mul_lt h.2 g.1
theorem Sm.neg {m : Nat} {a : Rat} (h : Sm m a) : Sm m (-a) := ⟨by rw [Rat.neg_num, Int.natAbs_neg]; exact h.1, h.2⟩
theorem Sm.int {m : Nat} {z : Int} (h : z.natAbs < 2 ^ m) (hm : 0 < m) : Sm m (z : Rat) := ⟨h, by
  show 1 < 2 ^ m
  exact Nat.one_lt_two_pow (by omega)⟩
theorem lg {a n : Nat} (h : a < 2 ^ n) : a.log2 ≤ n := by
  by_cases h0 : a = 0
  · subst h0; simp
  · exact Nat.le_of_lt ((Nat.log2_lt h0).mpr h)
/-! frac -/
theorem frac_core {p q : Int} (hq : q ≠ 0) : (rD ((p : Rat) / (q : Rat))) = .tup [.int ((if q < 0 then -p else p) / (Nat.gcd p.natAbs q.natAbs : Nat)), .int ((if q < 0 then -q else q) / (Nat.gcd p.natAbs q.natAbs : Nat))] := by
  unfold rD
  rw [← Rat.divInt_eq_div, Rat.num_divInt, Rat.den_divInt, if_neg hq]
  have e : Int.gcd q p = Nat.gcd p.natAbs q.natAbs := by unfold Int.gcd; exact Nat.gcd_comm _ _
  rw [e]
  by_cases h : q < 0
  · rw [if_pos h, if_pos h, Int.sign_eq_neg_one_of_neg h, show -1 * p = -p by omega]
    have : ((q.natAbs / Nat.gcd p.natAbs q.natAbs : Nat) : Int) = -q / (Nat.gcd p.natAbs q.natAbs : Nat) := by
      rw [Int.natCast_ediv]; congr 1; omega
    rw [this]
  · rw [if_neg h, if_neg h, Int.sign_eq_one_of_pos (by omega), show 1 * p = p by omega]
    have : ((q.natAbs / Nat.gcd p.natAbs q.natAbs : Nat) : Int) = q / (Nat.gcd p.natAbs q.natAbs : Nat) := by
      rw [Int.natCast_ediv]; congr 1; omega
    rw [this]
theorem frac_ok {p q : Int} (hq : q ≠ 0) (h : q.natAbs < 2 ^ 8900) : m_frac [.int p, .int q] = some (rD ((p : Rat) / (q : Rat))) := by
  have hg : 0 < Nat.gcd p.natAbs q.natAbs := Nat.gcd_pos_of_pos_right _ (by omega)
  have hle : Nat.gcd p.natAbs q.natAbs ≤ q.natAbs := Nat.gcd_le_right _ (by omega)
  have hl : (Nat.gcd p.natAbs q.natAbs).log2 < 9000 := Nat.lt_of_le_of_lt (lg (Nat.lt_of_le_of_lt hle h)) (by decide)
  have hd := fun a : Int => x_fdiv a (Nat.gcd p.natAbs q.natAbs : Nat) (by omega) (by rw [Int.natAbs_natCast]; exact hl)
  rw [frac_core hq]
  unfold m_frac b_frac
  by_cases h0 : q < 0
  · simp [x_runF, env0, h0, hd]
  · simp [x_runF, env0, h0, hd]
theorem s63 {a : Nat} (h : a < 2 ^ 4000) : a.log2 < 490000 := Nat.lt_of_le_of_lt (lg h) (by decide)
theorem rmul (a b : Int) (h : a.natAbs < 2 ^ 4000) (g : b.natAbs < 2 ^ 4000) : dMul (.int a) (.int b) = some (.int (a * b)) := x_mulW a b (s63 h) (s63 g)
theorem p8 {a b : Nat} (h : a < 2 ^ 4000) (g : b < 2 ^ 4000) : a * b < 2 ^ 8900 := Nat.lt_of_lt_of_le (pow_mul_lt h g) (Nat.pow_le_pow_right (by decide) (by decide))
abbrev Ok (r : Rat) : Prop := Sm 4000 r
theorem plus_ok {a b : Rat} (h : Ok a) (g : Ok b) : m_plus [rD a, rD b] = some (rD (a + b)) := by
  have e := frac_ok (p := a.num * b.den + b.num * a.den) (q := a.den * b.den) (Int.mul_ne_zero (den_ne' a) (den_ne' b)) (by rw [Int.natAbs_mul]; exact p8 h.2 g.2)
  rw [add_eq] at e
  have m1 := rmul a.num b.den h.1 g.2
  have m2 := rmul b.num a.den g.1 h.2
  have m3 := rmul a.den b.den h.2 g.2
  unfold m_plus b_plus
  rw [rD, rD]
  simp [x_runF, env0, m1, m2, m3, e]
theorem minus_ok {a b : Rat} (h : Ok a) (g : Ok b) : m_minus [rD a, rD b] = some (rD (a - b)) := by
  have e := frac_ok (p := a.num * b.den - b.num * a.den) (q := a.den * b.den) (Int.mul_ne_zero (den_ne' a) (den_ne' b)) (by rw [Int.natAbs_mul]; exact p8 h.2 g.2)
  rw [sub_eq] at e
  have m1 := rmul a.num b.den h.1 g.2
  have m2 := rmul b.num a.den g.1 h.2
  have m3 := rmul a.den b.den h.2 g.2
  unfold m_minus b_minus
  rw [rD, rD]
  simp [x_runF, env0, m1, m2, m3, e]
theorem times_ok {a b : Rat} (h : Ok a) (g : Ok b) : m_times [rD a, rD b] = some (rD (a * b)) := by
  have e := frac_ok (p := a.num * b.num) (q := a.den * b.den) (Int.mul_ne_zero (den_ne' a) (den_ne' b)) (by rw [Int.natAbs_mul]; exact p8 h.2 g.2)
  rw [mul_eq] at e
  have m1 := rmul a.num b.num h.1 g.1
  have m3 := rmul a.den b.den h.2 g.2
  unfold m_times b_times
  rw [rD, rD]
  simp [x_runF, env0, m1, m3, e]
theorem over_ok {a b : Rat} (h : Ok a) (g : Ok b) (hb : b ≠ 0) : m_over [rD a, rD b] = some (rD (a / b)) := by
  have e := frac_ok (p := a.num * b.den) (q := a.den * b.num) (Int.mul_ne_zero (den_ne' a) (num_ne hb)) (by rw [Int.natAbs_mul]; exact p8 h.2 g.1)
  rw [div_eq a b hb] at e
  have m1 := rmul a.num b.den h.1 g.2
  have m3 := rmul a.den b.num h.2 g.1
  unfold m_over b_over
  rw [rD, rD]
  simp [x_runF, env0, m1, m3, e]
theorem lt_dec (a b : Rat) : decide (a.num * b.den < b.num * a.den) = decide (a < b) := by
  simp only [Rat.lt_iff]
theorem less_ok {a b : Rat} (h : Ok a) (g : Ok b) : m_less [rD a, rD b] = some (.bl (decide (a < b))) := by
  have m1 := rmul a.num b.den h.1 g.2
  have m2 := rmul b.num a.den g.1 h.2
  rw [← lt_dec]
  unfold m_less b_less
  rw [rD, rD]
  simp [x_runF, env0, m1, m2]
/-! the law's own -/
def euc : Nat → Nat → Nat → Nat
  | 0, a, _ => a
  | n + 1, a, b => if b = 0 then a else euc n b (a % b)
theorem euc_ok : ∀ (k n a b : Nat), b < 2 ^ k → 2 * k < n → euc n a b = Nat.gcd a b
  | 0, n, a, b, h, hn => by
    obtain ⟨n, rfl⟩ := Nat.exists_eq_succ_of_ne_zero (show n ≠ 0 by omega)
    have : b = 0 := by simpa using h
    subst this; simp [euc]
  | k + 1, n, a, b, h, hn => by
    obtain ⟨n, rfl⟩ : ∃ m, n = m + 2 := ⟨n - 2, by omega⟩
    unfold euc
    by_cases hb : b = 0
    · subst hb; simp
    rw [if_neg hb]
    unfold euc
    have h1 := Nat.mod_lt a (Nat.pos_of_ne_zero hb)
    by_cases hr : a % b = 0
    · rw [if_pos hr, Nat.gcd_comm, Nat.gcd_rec, hr]; simp
    rw [if_neg hr]
    have h2 := Nat.mod_lt b (Nat.pos_of_ne_zero hr)
    have h3 : b % (a % b) < 2 ^ k := by
      have e := Nat.div_add_mod b (a % b)
      have : 1 ≤ b / (a % b) := (Nat.le_div_iff_mul_le (by omega)).mpr (by omega)
      have : a % b ≤ (a % b) * (b / (a % b)) := Nat.le_mul_of_pos_right _ this
      rw [Nat.pow_succ] at h; omega
    rw [euc_ok k n (a % b) (b % (a % b)) h3 (by omega)]
    rw [Nat.gcd_comm a b, Nat.gcd_rec b a, Nat.gcd_rec (a % b) b, Nat.gcd_comm]
theorem gcd_turns {b : SM} (hb : b = sSeq (sIf (mTst (mOp dEq (mV 1) (mC (.int 0)))) (sBrk) (sNil)) (sPar [] 0 1 (aCons (mV 1) (aCons (mOp dMod (mCall gInt (aCons (mV 0) (aNil))) (mV 1)) (aNil))))) : ∀ (ds : List D) (x y : Nat) (z : Sl), ∃ u v, forL (gN 2) b ds [.val (.int x), .val (.int y), z] none = some (.nx [.val (.int (euc ds.length x y : Nat)), u, v] none)
  | [], x, y, z => ⟨_, _, rfl⟩
  | d :: ds, x, y, z => by
    rw [x_forC]
    by_cases h : y = 0
    · subst h; exact ⟨.val (.int 0), .val d, by simp [hb, euc]⟩
    · obtain ⟨u, v, e⟩ := gcd_turns hb ds y (x % y) (.val d)
      refine ⟨u, v, ?_⟩
      have e' : euc (d :: ds).length x y = euc ds.length y (x % y) := by simp [euc, h]
      rw [e', ← e, hb]
      simp [h, x_mod, Nat.pos_of_ne_zero h]
theorem gcd_ok (x y : Nat) (h : y < 2 ^ 8900) : m__law_gcd [.int x, .int y] = some (.int (Nat.gcd x y : Nat)) := by
  have hl : (rangeD 0 400000).length = 400000 := by unfold rangeD; rw [List.length_map, List.length_range]
  obtain ⟨u, v, e⟩ := gcd_turns rfl (rangeD 0 400000) x y .un
  rw [hl, euc_ok 8900 _ _ _ h (by decide)] at e
  have r := x_rng1 400000 (by decide) (by decide)
  have t : (400000 : Int).toNat = 400000 := by decide
  rw [t] at r
  unfold m__law_gcd b__law_gcd
  simp only [x_runF, env0, x_sSeq, x_sFor, x_mRng, x_aCons, x_aNil, x_mC, Option.bind_some, r, Option.map_some, x_frz0, x_vw0, List.map_cons, List.map_nil, List.length_cons, List.length_nil, List.replicate, List.cons_append, List.nil_append]
  rw [e]
  simp
theorem abs_nat (z : Int) : (if z < 0 then -z else z) = (z.natAbs : Int) := by split <;> omega
theorem ratio_tail (x : Int) (m : Nat) (hm : 0 < m) (h : m < 2 ^ 8900) : outF (sSeq (sAsgF [] (gN 2) (mCall m__law_gcd (aCons (mCall gAbs (aCons (mV 0) (aNil))) (aCons (mV 1) (aNil))))) (sRetF [] (mTup (aCons (mOp dFdiv (mV 0) (mV 2)) (aCons (mOp dFdiv (mV 1) (mV 2)) (aNil))))) [.val (.int x), .val (.int m), .un] none) = some (.tup [.int (x / (Nat.gcd x.natAbs m : Nat)), .int ((m : Int) / (Nat.gcd x.natAbs m : Nat))]) := by
  have hg : 0 < Nat.gcd x.natAbs m := Nat.gcd_pos_of_pos_right _ hm
  have hle : Nat.gcd x.natAbs m ≤ m := Nat.gcd_le_right _ hm
  have hl : (Nat.gcd x.natAbs m).log2 < 9000 := Nat.lt_of_le_of_lt (lg (Nat.lt_of_le_of_lt hle h)) (by decide)
  have hd := fun a : Int => x_fdiv a (Nat.gcd x.natAbs m : Nat) (by omega) (by rw [Int.natAbs_natCast]; exact hl)
  have gk := gcd_ok x.natAbs m h
  have ga : gAbs [.int x] = some (.int (x.natAbs : Int)) := by rw [x_abs, abs_nat]
  simp only [x_sSeq, x_sAsgF, x_mCall, x_aCons, x_aNil, x_mVr, x_vw0, List.map_cons, List.map_nil, x_h1v, x_h1u, List.getElem?_cons_zero, List.getElem?_cons_succ, x_rdV, Option.bind_some, ga, Option.map_some, gk]
  simp [hd]
theorem ratio_ok {p q : Int} (hq : q ≠ 0) (h : q.natAbs < 2 ^ 8900) : m__law_ratio [.int p, .int q] = some (rD ((p : Rat) / (q : Rat))) := by
  rw [frac_core hq]
  unfold m__law_ratio b__law_ratio
  by_cases h0 : q < 0
  · obtain ⟨m, hm⟩ := Int.eq_ofNat_of_zero_le (show 0 ≤ -q by omega)
    have e := ratio_tail (-p) m (by omega) (by omega)
    have e1 : q.natAbs = m := by omega
    rw [Int.natAbs_neg] at e
    rw [if_pos h0, if_pos h0, e1, hm, ← e]
    simp only [x_runF, e0c, e0n, e00]
    rw [x_sSeq]
    have : (sIf (mTst (mOp dLt (mV 1) (mC (.int 0)))) (sPar [] 0 1 (aCons (mUn dNeg (mV 0)) (aCons (mUn dNeg (mV 1)) (aNil)))) (sNil)) [.val (.int p), .val (.int q), .un] none = some (.nx [.val (.int (-p)), .val (.int m), .un] none) := by
      simp [h0, hm]
    rw [this, x_nxN]
  · obtain ⟨m, hm⟩ := Int.eq_ofNat_of_zero_le (show 0 ≤ q by omega)
    have e := ratio_tail p m (by omega) (by omega)
    have e1 : q.natAbs = m := by omega
    rw [if_neg h0, if_neg h0, e1]
    subst hm
    rw [← e]
    simp only [x_runF, e0c, e0n, e00]
    rw [x_sSeq]
    have : (sIf (mTst (mOp dLt (mV 1) (mC (.int 0)))) (sPar [] 0 1 (aCons (mUn dNeg (mV 0)) (aCons (mUn dNeg (mV 1)) (aNil)))) (sNil)) [.val (.int p), .val (.int (m : Int)), .un] none = some (.nx [.val (.int p), .val (.int m), .un] none) := by
      have : decide ((m : Int) < 0) = false := by simp
      simp only [x_sIf, x_mTst, x_mOp, x_mVr, x_mC, List.getElem?_cons_succ, List.getElem?_cons_zero, x_rdV, Option.bind_some, x_lt, this, Option.map_some, x_blD, x_bF, x_sNil]
    rw [this, x_nxN]
theorem _law_add_ok {a b : Rat} (h : Ok a) (g : Ok b) : m__law_add [rD a, rD b] = some (rD (a + b)) := by
  have e := ratio_ok (p := a.num * b.den + b.num * a.den) (q := a.den * b.den) (Int.mul_ne_zero (den_ne' a) (den_ne' b)) (by rw [Int.natAbs_mul]; exact p8 h.2 g.2)
  rw [add_eq] at e
  have m1 := rmul a.num b.den h.1 g.2
  have m2 := rmul b.num a.den g.1 h.2
  have m3 := rmul a.den b.den h.2 g.2
  unfold m__law_add b__law_add
  rw [rD, rD]
  simp [x_runF, env0, m1, m2, m3, e]
theorem _law_sub_ok {a b : Rat} (h : Ok a) (g : Ok b) : m__law_sub [rD a, rD b] = some (rD (a - b)) := by
  have e := ratio_ok (p := a.num * b.den - b.num * a.den) (q := a.den * b.den) (Int.mul_ne_zero (den_ne' a) (den_ne' b)) (by rw [Int.natAbs_mul]; exact p8 h.2 g.2)
  rw [sub_eq] at e
  have m1 := rmul a.num b.den h.1 g.2
  have m2 := rmul b.num a.den g.1 h.2
  have m3 := rmul a.den b.den h.2 g.2
  unfold m__law_sub b__law_sub
  rw [rD, rD]
  simp [x_runF, env0, m1, m2, m3, e]
theorem _law_mul_ok {a b : Rat} (h : Ok a) (g : Ok b) : m__law_mul [rD a, rD b] = some (rD (a * b)) := by
  have e := ratio_ok (p := a.num * b.num) (q := a.den * b.den) (Int.mul_ne_zero (den_ne' a) (den_ne' b)) (by rw [Int.natAbs_mul]; exact p8 h.2 g.2)
  rw [mul_eq] at e
  have m1 := rmul a.num b.num h.1 g.1
  have m3 := rmul a.den b.den h.2 g.2
  unfold m__law_mul b__law_mul
  rw [rD, rD]
  simp [x_runF, env0, m1, m3, e]
theorem _law_div_ok {a b : Rat} (h : Ok a) (g : Ok b) (hb : b ≠ 0) : m__law_div [rD a, rD b] = some (rD (a / b)) := by
  have e := ratio_ok (p := a.num * b.den) (q := a.den * b.num) (Int.mul_ne_zero (den_ne' a) (num_ne hb)) (by rw [Int.natAbs_mul]; exact p8 h.2 g.1)
  rw [div_eq a b hb] at e
  have m1 := rmul a.num b.den h.1 g.2
  have m3 := rmul a.den b.num h.2 g.1
  unfold m__law_div b__law_div
  rw [rD, rD]
  simp [x_runF, env0, m1, m3, e]
theorem _law_less_ok {a b : Rat} (h : Ok a) (g : Ok b) : m__law_less [rD a, rD b] = some (.bl (decide (a < b))) := by
  have m1 := rmul a.num b.den h.1 g.2
  have m2 := rmul b.num a.den g.1 h.2
  rw [← lt_dec]
  unfold m__law_less b__law_less
  rw [rD, rD]
  simp [x_runF, env0, m1, m2]
theorem _law_under_ok {a b : Rat} (h : Ok a) (g : Ok b) : m__law_under [rD a, rD b] = some (.bl (decide (a < b))) := by
  have m1 := rmul a.num b.den h.1 g.2
  have m2 := rmul b.num a.den g.1 h.2
  rw [← lt_dec]
  unfold m__law_under b__law_under
  rw [rD, rD]
  simp [x_runF, env0, m1, m2]
end Lw
set_option Elab.async false
set_option linter.all false
set_option maxRecDepth 100000
set_option maxHeartbeats 4000000
namespace Lw
open PySem PySem.Spec PyProof.Rows L2 Dn
def c_NOUGHT : D := .tup [.int 0, .int 1]
def b_sum_of : SM := sSeq (sAsgF [] (gN 1) (mC c_NOUGHT)) (sSeq (sFor [] (gN 2) (mIt itD (mV 0)) (sAsgF [] (gN 1) (mCall m_plus (aCons (mV 1) (aCons (mV 2) (aNil)))))) (sRetF [] (mV 1)))
def m_sum_of : List D → Option D := runF 3 b_sum_of
def b__law_pick : SM := sRetF [] (mOp dIx (mV 1) (mCallP 0 m__law_draw (aCons (mCall gLen (aCons (mV 1) (aNil))) (aNil))))
def m__law_pick : Pl → List D → Option (D × Pl) := runP 2 b__law_pick
theorem nought : c_NOUGHT = rD 0 := rfl
theorem tup01 : D.tup [.int 0, .int 1] = rD 0 := rfl
theorem Sm.zero {n : Nat} (h : 0 < n) : Sm n 0 := Sm.int (z := 0) (by simpa using Nat.two_pow_pos n) h
/-- a sum, from the left -/
def sumR (a : Rat) (rs : List Rat) : Rat := rs.foldl (· + ·) a
theorem sumR_cons (a r : Rat) (rs : List Rat) : sumR a (r :: rs) = sumR (a + r) rs := rfl
theorem sumR_eq (a : Rat) : ∀ rs : List Rat, sumR a rs = a + sumR 0 rs := by
  intro rs
  induction rs generalizing a with
  | nil => simp [sumR, Rat.add_zero]
  | cons r rs ih => rw [sumR_cons, sumR_cons, ih (a + r), ih (0 + r)]; grind
theorem sm_sum {n k : Nat} : ∀ {rs : List Rat} {a : Rat}, Sm k a → (∀ r ∈ rs, Sm n r) → Sm (k + rs.length * (n + 1)) (sumR a rs)
  | [], a, h, _ => by simpa [sumR] using h
  | r :: rs, a, h, hr => by
    have := sm_sum (rs := rs) (h.add (hr r List.mem_cons_self)) (fun x hx => hr x (List.mem_cons_of_mem _ hx))
    rw [sumR_cons, List.length_cons]
    refine this.mono ?_
    rw [Nat.succ_mul]; omega
theorem sum_turns (l : D) {n : Nat} : ∀ (rs : List Rat) (a : Rat) (k : Nat) (x : Sl), Sm k a → (∀ r ∈ rs, Sm n r) → n ≤ 4000 → k + rs.length * (n + 1) ≤ 4000 →
    ∃ y, forL (gN 2) (sAsgF [] (gN 1) (mCall m_plus (aCons (mV 1) (aCons (mV 2) (aNil))))) (rs.map rD) [.val l, .val (rD a), x] none = some (.nx [.val l, .val (rD (sumR a rs)), y] none)
  | [], a, k, x, _, _, _, _ => ⟨x, rfl⟩
  | r :: rs, a, k, x, ha, hr, hn, hk => by
    rw [List.length_cons, Nat.succ_mul] at hk
    have p := plus_ok (ha.mono (by omega)) ((hr r List.mem_cons_self).mono hn)
    obtain ⟨y, e⟩ := sum_turns l rs (a + r) (k + n + 1) (.val (rD r)) (ha.add (hr r List.mem_cons_self)) (fun x hx => hr x (List.mem_cons_of_mem _ hx)) hn (by omega)
    refine ⟨y, ?_⟩
    rw [List.map_cons, x_forC, x_gN, sumR_cons, ← e]
    simp [p]
theorem sum_ok {n : Nat} (rs : List Rat) (hr : ∀ r ∈ rs, Sm n r) (hn : n ≤ 4000) (hk : rs.length * (n + 1) ≤ 3990) : m_sum_of [.lst (rs.map rD)] = some (rD (sumR 0 rs)) := by
  obtain ⟨y, e⟩ := sum_turns (.lst (rs.map rD)) rs 0 1 .un (Sm.zero (by decide)) hr hn (by omega)
  unfold m_sum_of b_sum_of
  simp [x_runF, nought, e]
theorem pick_ok (P : Pl) (xs : List D) (h : xs ≠ []) (hl : xs.length < 1000000) : ∃ d P', m__law_pick P [.lst xs] = some (d, P') ∧ d ∈ xs := by
  have hp : 0 < xs.length := List.length_pos_iff.mpr h
  obtain ⟨v, P', e, h1, h2⟩ := draw_ok P xs.length (by omega) (by omega)
  obtain ⟨m, rfl⟩ := Int.eq_ofNat_of_zero_le h1
  have hm : m < xs.length := by omega
  refine ⟨xs[m], P', ?_, List.getElem_mem _⟩
  have ha : atI xs (m : Int) = some xs[m] := atI_nat (List.getElem?_eq_getElem hm)
  unfold m__law_pick b__law_pick
  simp [x_runP, e, ha]
end Lw
set_option Elab.async false
set_option linter.all false
set_option maxRecDepth 100000
set_option maxHeartbeats 4000000
namespace Lw
open PySem PySem.Spec PyProof.Rows L2 Dn
/-! the law's other exact numbers: _law_frac, _law_plus .. -/
theorem gcd_turns2 {b : SM} (hb : b = sSeq (sIf (mTst (mOp dEq (mV 3) (mC (.int 0)))) (sBrk) (sNil)) (sPar [] 2 3 (aCons (mV 3) (aCons (mOp dMod (mCall gInt (aCons (mV 2) (aNil))) (mV 3)) (aNil))))) (p q : D) (w : Sl) : ∀ (ds : List D) (x y : Nat) (z : Sl), ∃ u v, forL (gN 4) b ds [.val p, .val q, .val (.int x), .val (.int y), z, w] none = some (.nx [.val p, .val q, .val (.int (euc ds.length x y : Nat)), u, v, w] none)
  | [], x, y, z => ⟨_, _, rfl⟩
  | d :: ds, x, y, z => by
    rw [x_forC]
    by_cases h : y = 0
    · subst h; exact ⟨.val (.int 0), .val d, by simp [hb, euc]⟩
    · obtain ⟨u, v, e⟩ := gcd_turns2 hb p q w ds y (x % y) (.val d)
      refine ⟨u, v, ?_⟩
      have e' : euc (d :: ds).length x y = euc ds.length y (x % y) := by simp [euc, h]
      rw [e', ← e, hb]
      simp [h, x_mod, Nat.pos_of_ne_zero h]
theorem frac2_ok {p q : Int} (hq : q ≠ 0) (h : q.natAbs < 2 ^ 8900) : m__law_frac [.int p, .int q] = some (rD ((p : Rat) / (q : Rat))) := by
  have hl : (rangeD 0 400000).length = 400000 := by unfold rangeD; rw [List.length_map, List.length_range]
  obtain ⟨u, v, e⟩ := gcd_turns2 rfl (.int p) (.int q) .un (rangeD 0 400000) p.natAbs q.natAbs .un
  rw [hl, euc_ok 8900 _ _ _ h (by decide)] at e
  have r := x_rng1 400000 (by decide) (by decide)
  have t : (400000 : Int).toNat = 400000 := by decide
  rw [t] at r
  have hg : 0 < Nat.gcd p.natAbs q.natAbs := Nat.gcd_pos_of_pos_right _ (by omega)
  have hle : Nat.gcd p.natAbs q.natAbs ≤ q.natAbs := Nat.gcd_le_right _ (by omega)
  have hlg : (Nat.gcd p.natAbs q.natAbs).log2 < 9000 := Nat.lt_of_le_of_lt (lg (Nat.lt_of_le_of_lt hle h)) (by decide)
  have hd := fun a : Int => x_fdiv a (Nat.gcd p.natAbs q.natAbs : Nat) (by omega) (by rw [Int.natAbs_natCast]; exact hlg)
  have ga : ∀ z : Int, gAbs [.int z] = some (.int (z.natAbs : Int)) := fun z => by rw [x_abs, abs_nat]
  rw [frac_core hq]
  generalize Nat.gcd p.natAbs q.natAbs = g at *
  unfold m__law_frac b__law_frac
  simp only [x_runF, e0c, e0n, e00]
  have k1 : sAsgF [] (gN 2) (mCall gAbs (aCons (mV 0) (aNil))) [.val (.int p), .val (.int q), .un, .un, .un, .un] none = some (.nx [.val (.int p), .val (.int q), .val (.int (p.natAbs : Int)), .un, .un, .un] none) := by simp [ga, -x_abs]
  have k2 : sAsgF [] (gN 3) (mCall gAbs (aCons (mV 1) (aNil))) [.val (.int p), .val (.int q), .val (.int (p.natAbs : Int)), .un, .un, .un] none = some (.nx [.val (.int p), .val (.int q), .val (.int (p.natAbs : Int)), .val (.int (q.natAbs : Int)), .un, .un] none) := by simp [ga, -x_abs]
  rw [x_sSeq, k1, x_nxN, x_sSeq, k2, x_nxN, x_sSeq, x_sFor]
  simp only [x_mRng, x_aCons, x_aNil, x_mC, Option.bind_some, r, Option.map_some, x_frz0]
  rw [e, x_nxN]
  have m1 : ∀ z : Int, dMul (.int 1) (.int z) = some (.int z) := fun z => by rw [x_mulS1 1 z (by decide), Int.one_mul]
  have m2 : ∀ z : Int, dMul (.int (-1)) (.int z) = some (.int (-z)) := fun z => by rw [x_mulS1 (-1) z (by decide), Int.neg_one_mul]
  by_cases h0 : q < 0
  · simp [h0, m2, hd]
  · simp [h0, m1, hd]
theorem _law_plus_ok {a b : Rat} (h : Ok a) (g : Ok b) : m__law_plus [rD a, rD b] = some (rD (a + b)) := by
  have e := frac2_ok (p := a.num * b.den + b.num * a.den) (q := a.den * b.den) (Int.mul_ne_zero (den_ne' a) (den_ne' b)) (by rw [Int.natAbs_mul]; exact p8 h.2 g.2)
  rw [add_eq] at e
  have m1 := rmul a.num b.den h.1 g.2
  have m2 := rmul b.num a.den g.1 h.2
  have m3 := rmul a.den b.den h.2 g.2
  unfold m__law_plus b__law_plus
  rw [rD, rD]
  simp [x_runF, env0, m1, m2, m3, e]
theorem _law_minus_ok {a b : Rat} (h : Ok a) (g : Ok b) : m__law_minus [rD a, rD b] = some (rD (a - b)) := by
  have e := frac2_ok (p := a.num * b.den - b.num * a.den) (q := a.den * b.den) (Int.mul_ne_zero (den_ne' a) (den_ne' b)) (by rw [Int.natAbs_mul]; exact p8 h.2 g.2)
  rw [sub_eq] at e
  have m1 := rmul a.num b.den h.1 g.2
  have m2 := rmul b.num a.den g.1 h.2
  have m3 := rmul a.den b.den h.2 g.2
  unfold m__law_minus b__law_minus
  rw [rD, rD]
  simp [x_runF, env0, m1, m2, m3, e]
theorem _law_times_ok {a b : Rat} (h : Ok a) (g : Ok b) : m__law_times [rD a, rD b] = some (rD (a * b)) := by
  have e := frac2_ok (p := a.num * b.num) (q := a.den * b.den) (Int.mul_ne_zero (den_ne' a) (den_ne' b)) (by rw [Int.natAbs_mul]; exact p8 h.2 g.2)
  rw [mul_eq] at e
  have m1 := rmul a.num b.num h.1 g.1
  have m3 := rmul a.den b.den h.2 g.2
  unfold m__law_times b__law_times
  rw [rD, rD]
  simp [x_runF, env0, m1, m3, e]
theorem _law_over_ok {a b : Rat} (h : Ok a) (g : Ok b) (hb : b ≠ 0) : m__law_over [rD a, rD b] = some (rD (a / b)) := by
  have e := frac2_ok (p := a.num * b.den) (q := a.den * b.num) (Int.mul_ne_zero (den_ne' a) (num_ne hb)) (by rw [Int.natAbs_mul]; exact p8 h.2 g.1)
  rw [div_eq a b hb] at e
  have m1 := rmul a.num b.den h.1 g.2
  have m3 := rmul a.den b.num h.2 g.1
  unfold m__law_over b__law_over
  rw [rD, rD]
  simp [x_runF, env0, m1, m3, e]

/-- each item and each partial sum is of a size that adds -/
def OkS : Rat → List Rat → Prop
  | _, [] => True
  | a, r :: rs => Ok r ∧ Ok (a + r) ∧ OkS (a + r) rs
theorem oks_all {n : Nat} : ∀ {rs : List Rat} {a : Rat} {k : Nat}, Sm k a → (∀ r ∈ rs, Sm n r) → k + rs.length * (n + 1) ≤ 4000 → OkS a rs
  | [], _, _, _, _, _ => trivial
  | r :: rs, a, k, h, hr, hk => by
    rw [List.length_cons, Nat.succ_mul] at hk
    have h1 := hr r List.mem_cons_self
    have h2 := h.add h1
    exact ⟨h1.mono (by omega), h2.mono (by omega), oks_all h2 (fun x hx => hr x (List.mem_cons_of_mem _ hx)) (by omega)⟩
/-- .. the last one longer -/
theorem oks_last {n m : Nat} (hn : n ≤ m) : ∀ {rs : List Rat} {a : Rat} {k : Nat}, Sm k a → (∀ r ∈ rs.dropLast, Sm n r) → (∀ r ∈ rs, Sm m r) → k + rs.length * (n + 1) + m + 1 ≤ 4000 → OkS a rs
  | [], _, _, _, _, _, _ => trivial
  | [r], a, k, h, _, hm, hk => by
    have h1 := hm r List.mem_cons_self
    exact ⟨h1.mono (by omega), (h.add h1).mono (by omega), trivial⟩
  | r :: q :: rs, a, k, h, hr, hm, hk => by
    rw [List.length_cons, Nat.succ_mul] at hk
    have h1 := hr r (by rw [List.dropLast_cons_cons]; exact List.mem_cons_self)
    have h2 := h.add h1
    exact ⟨h1.mono (by omega), h2.mono (by omega), oks_last hn h2 (fun x hx => hr x (by rw [List.dropLast_cons_cons]; exact List.mem_cons_of_mem _ hx)) (fun x hx => hm x (List.mem_cons_of_mem _ hx)) (by omega)⟩
theorem sm_last {n m : Nat} (hn : n ≤ m) : ∀ {rs : List Rat} {a : Rat} {k : Nat}, Sm k a → (∀ r ∈ rs.dropLast, Sm n r) → (∀ r ∈ rs, Sm m r) → Sm (k + rs.length * (n + 1) + m + 1) (sumR a rs)
  | [], a, k, h, _, _ => h.mono (by omega)
  | [r], a, k, h, _, hm => by
    have h1 := hm r List.mem_cons_self
    exact (h.add h1).mono (by rw [List.length_singleton]; omega)
  | r :: q :: rs, a, k, h, hr, hm => by
    have h1 := hr r (by rw [List.dropLast_cons_cons]; exact List.mem_cons_self)
    have h2 := h.add h1
    have := sm_last hn (rs := q :: rs) h2 (fun x hx => hr x (by rw [List.dropLast_cons_cons]; exact List.mem_cons_of_mem _ hx)) (fun x hx => hm x (List.mem_cons_of_mem _ hx))
    rw [sumR_cons, List.length_cons, Nat.succ_mul]
    exact this.mono (by omega)
theorem sum_turnsS (l : D) : ∀ (rs : List Rat) (a : Rat) (x : Sl), Ok a → OkS a rs →
    ∃ y, forL (gN 2) (sAsgF [] (gN 1) (mCall m_plus (aCons (mV 1) (aCons (mV 2) (aNil))))) (rs.map rD) [.val l, .val (rD a), x] none = some (.nx [.val l, .val (rD (sumR a rs)), y] none)
  | [], a, x, _, _ => ⟨x, rfl⟩
  | r :: rs, a, x, ha, hr => by
    have p := plus_ok ha hr.1
    obtain ⟨y, e⟩ := sum_turnsS l rs (a + r) (.val (rD r)) hr.2.1 hr.2.2
    refine ⟨y, ?_⟩
    rw [List.map_cons, x_forC, x_gN, sumR_cons, ← e]
    simp [p]
theorem sum_okS (rs : List Rat) (hr : OkS 0 rs) : m_sum_of [.lst (rs.map rD)] = some (rD (sumR 0 rs)) := by
  obtain ⟨y, e⟩ := sum_turnsS (.lst (rs.map rD)) rs 0 .un (Sm.zero (by decide)) hr
  unfold m_sum_of b_sum_of
  simp [x_runF, nought, e]
theorem eq_rat (a b : Rat) : dEq (rD a) (rD b) = some (.bl (decide (a = b))) := by
  unfold dEq rD
  rw [if_pos (by simp [fl_tup, fl_int])]
  have : (a = b) ↔ (a.num = b.num ∧ (a.den : Int) = b.den) := by
    constructor
    · intro h; subst h; exact ⟨rfl, rfl⟩
    · intro h; exact Rat.ext h.1 (by have := h.2; omega)
  simp only [eqd, eqdL, this]
  congr 2
  rw [Bool.eq_iff_iff]; simp
theorem ne_rat (a b : Rat) : dNe (rD a) (rD b) = some (.bl (!decide (a = b))) := by
  have h := eq_rat a b
  have f : (fl 20 (rD a) && fl 20 (rD b)) = true := by simp [rD, fl_tup, fl_int]
  unfold dEq at h
  unfold dNe
  rw [if_pos f] at h ⊢
  simp only [Option.some.injEq, D.bl.injEq] at h
  rw [h]
theorem num_lt0 (r : Rat) : r.num < 0 ↔ r < 0 := by rw [← Int.not_le, Rat.num_nonneg, Rat.not_le]
mutual
theorem eqd_self : ∀ (n : Nat) (d : D), fl n d = true → eqd d d = true
  | _, .non, _ => by simp only [eqd]
  | _, .bl b, _ => by simp [eqd]
  | _, .int i, _ => by simp [eqd]
  | _, .str x, _ => by simp [eqd]
  | n + 1, .tup xs, h => by simp only [eqd]; exact eqd_selfL n xs (by simpa only [fl_tup] using h)
  | n + 1, .lst xs, h => by simp only [eqd]; exact eqd_selfL n xs (by simpa only [fl_lst] using h)
  | 0, .tup xs, h => by simp [fl] at h
  | 0, .lst xs, h => by simp [fl] at h
  | n, .dct k v, h => by simp [fl_dct] at h
  | n, .scr k, h => by simp [fl_scr] at h
theorem eqd_selfL : ∀ (n : Nat) (xs : List D), xs.all (fl n) = true → eqdL xs xs = true
  | _, [], _ => by simp only [eqdL]
  | n, x :: xs, h => by
    rw [List.all_cons, Bool.and_eq_true] at h
    simp only [eqdL]
    rw [eqd_self n x h.1, eqd_selfL n xs h.2]; rfl
end
theorem eq_self {d : D} (h : fl 20 d = true) : dEq d d = some (.bl true) := by
  unfold dEq; rw [h, if_pos (by rfl), eqd_self 20 d h]
theorem ne_self {d : D} (h : fl 20 d = true) : dNe d d = some (.bl false) := by
  unfold dNe; rw [h, if_pos (by rfl), eqd_self 20 d h]; rfl
@[simp] theorem fl_rat (n : Nat) (r : Rat) : fl (n + 2) (rD r) = true := by simp [rD, fl_tup, fl_int]
def b__law_total : SM := sSeq (sAsgF [] (gN 1) (mTup (aCons (mC (.int 0)) (aCons (mC (.int 1)) (aNil))))) (sSeq (sFor [] (gN 2) (mIt itD (mV 0)) (sAsgF [] (gN 1) (mCall m__law_plus (aCons (mV 1) (aCons (mV 2) (aNil)))))) (sRetF [] (mV 1)))
def m__law_total : List D → Option D := runF 3 b__law_total
theorem total_turns (l : D) : ∀ (rs : List Rat) (a : Rat) (x : Sl), Ok a → OkS a rs →
    ∃ y, forL (gN 2) (sAsgF [] (gN 1) (mCall m__law_plus (aCons (mV 1) (aCons (mV 2) (aNil))))) (rs.map rD) [.val l, .val (rD a), x] none = some (.nx [.val l, .val (rD (sumR a rs)), y] none)
  | [], a, x, _, _ => ⟨x, rfl⟩
  | r :: rs, a, x, ha, hr => by
    have p := _law_plus_ok ha hr.1
    obtain ⟨y, e⟩ := total_turns l rs (a + r) (.val (rD r)) hr.2.1 hr.2.2
    refine ⟨y, ?_⟩
    rw [List.map_cons, x_forC, x_gN, sumR_cons, ← e]
    simp [p]
theorem total_okS (rs : List Rat) (hr : OkS 0 rs) : m__law_total [.lst (rs.map rD)] = some (rD (sumR 0 rs)) := by
  obtain ⟨y, e⟩ := total_turns (.lst (rs.map rD)) rs 0 .un (Sm.zero (by decide)) hr
  unfold m__law_total b__law_total
  simp [x_runF, tup01, e]
end Lw
set_option Elab.async false
set_option linter.all false
set_option maxRecDepth 100000
set_option maxHeartbeats 4000000
namespace Lw
open PySem PySem.Spec PyProof.Rows L2 Dn
namespace Bm
/-! numbers over one denominator -/
/-- z / N, z below B -/
def InB (N B : Nat) (r : Rat) : Prop := 0 < N ∧ ∃ z : Int, r = (z : Rat) / ((N : Int) : Rat) ∧ z.natAbs < B
abbrev In (N n : Nat) (r : Rat) : Prop := InB N (2 ^ n) r
theorem nz {N : Nat} (h : 0 < N) : ((N : Int) : Rat) ≠ 0 := by
  intro e
  have : (N : Int) = 0 := by exact_mod_cast e
  omega
theorem InB.mono {N B C : Nat} {r : Rat} (h : InB N B r) (hc : B ≤ C) : InB N C r := by
  obtain ⟨h0, z, e, l⟩ := h
  exact ⟨h0, z, e, by omega⟩
theorem In.mono {N m n : Nat} {r : Rat} (h : In N m r) (hn : m ≤ n) : In N n r := InB.mono h (Nat.pow_le_pow_right (by decide) hn)
theorem InB.add {N A B : Nat} {a b : Rat} (h : InB N A a) (g : InB N B b) : InB N (A + B) (a + b) := by
  obtain ⟨h0, z, e, l⟩ := h
  obtain ⟨_, w, f, m⟩ := g
  refine ⟨h0, z + w, ?_, by omega⟩
  rw [e, f, Rat.intCast_add, Rat.div_def, Rat.div_def, Rat.div_def]; grind
theorem InB.neg {N A : Nat} {a : Rat} (h : InB N A a) : InB N A (-a) := by
  obtain ⟨h0, z, e, l⟩ := h
  refine ⟨h0, -z, ?_, by omega⟩
  rw [e, Rat.intCast_neg, Rat.div_def, Rat.div_def]; grind
theorem InB.sub {N A B : Nat} {a b : Rat} (h : InB N A a) (g : InB N B b) : InB N (A + B) (a - b) := by
  rw [Rat.sub_eq_add_neg]; exact h.add g.neg
theorem pw2 (n : Nat) : 2 ^ n + 2 ^ n = 2 ^ (n + 1) := by rw [Nat.pow_succ]; omega
theorem In.add {N n : Nat} {a b : Rat} (h : In N n a) (g : In N n b) : In N (n + 1) (a + b) := by
  have := InB.add h g; rw [pw2] at this; exact this
theorem In.sub {N n : Nat} {a b : Rat} (h : In N n a) (g : In N n b) : In N (n + 1) (a - b) := by
  have := InB.sub h g; rw [pw2] at this; exact this
theorem In.neg {N n : Nat} {a : Rat} (h : In N n a) : In N n (-a) := InB.neg h
theorem In.mul {N M n m : Nat} {a b : Rat} (h : In N n a) (g : In M m b) : In (N * M) (n + m) (a * b) := by
  obtain ⟨h0, z, e, l⟩ := h
  obtain ⟨h1, w, f, k⟩ := g
  refine ⟨Nat.mul_pos h0 h1, z * w, ?_, by rw [Int.natAbs_mul]; exact pow_mul_lt l k⟩
  have n0 := nz h0
  have n1 := nz h1
  rw [e, f, Rat.intCast_mul, Int.natCast_mul, Rat.intCast_mul]
  generalize ((N : Int) : Rat) = x at *
  generalize ((M : Int) : Rat) = y at *
  grind
theorem In.up {N n : Nat} {a : Rat} (h : In N n a) {M m K : Nat} (hM : 0 < M) (hm : M ≤ 2 ^ m) (hK : K = N * M) : In K (n + m) a := by
  subst hK
  obtain ⟨h0, z, e, l⟩ := h
  refine ⟨Nat.mul_pos h0 hM, z * M, ?_, ?_⟩
  · have n0 := nz h0
    have n1 := nz hM
    rw [e, Rat.intCast_mul, Int.natCast_mul, Rat.intCast_mul]
    generalize ((N : Int) : Rat) = x at *
    generalize ((M : Int) : Rat) = y at *
    grind
  · rw [Int.natAbs_mul, Int.natAbs_natCast, Nat.pow_add]
    exact Nat.lt_of_lt_of_le (Nat.mul_lt_mul_of_pos_right l hM) (Nat.mul_le_mul_left _ hm)
theorem In.int {n : Nat} {z : Int} (h : z.natAbs < 2 ^ n) : In 1 n (z : Rat) := ⟨by decide, z, by rw [show (((1 : Nat) : Int) : Rat) = 1 from rfl]; grind, h⟩
theorem In.zero {N n : Nat} (h : 0 < N) : In N n 0 := ⟨h, 0, by rw [show ((0 : Int) : Rat) = 0 from rfl, Rat.div_def, Rat.zero_mul], by simpa using Nat.two_pow_pos n⟩
/-- a denominator that holds a quotient's -/
theorem In.div {M k m : Nat} {b : Rat} (h : In M k b) (hb : b ≠ 0) (hm : M ≤ 2 ^ m) : ∃ W, 0 < W ∧ W < 2 ^ k ∧ ∀ {N n : Nat} {a : Rat}, In N n a → In (N * W) (n + m) (a / b) := by
  obtain ⟨h0, w, e, l⟩ := h
  have hw : w ≠ 0 := by rintro rfl; apply hb; rw [e, show ((0 : Int) : Rat) = 0 from rfl, Rat.div_def, Rat.zero_mul]
  refine ⟨w.natAbs, by omega, l, fun {N n a} ha => ?_⟩
  obtain ⟨g0, z, f, j⟩ := ha
  refine ⟨Nat.mul_pos g0 (by omega), z * M * w.sign, ?_, ?_⟩
  · have n0 := nz h0
    have n1 := nz g0
    have nw : (w : Rat) ≠ 0 := by intro q; have : w = 0 := by exact_mod_cast q
                                  exact hw this
    have s : (w : Rat) * ((w.sign : Int) : Rat) = ((w.natAbs : Int) : Rat) := by
      rw [← Rat.intCast_mul, Int.mul_sign_self]
    have s2 : ((w.sign : Int) : Rat) * ((w.sign : Int) : Rat) = 1 := by
      rw [← Rat.intCast_mul]
      have : w.sign * w.sign = 1 := by
        rcases Int.lt_trichotomy w 0 with h | h | h
        · rw [Int.sign_eq_neg_one_of_neg h]; rfl
        · exact absurd h hw
        · rw [Int.sign_eq_one_of_pos h]; rfl
      rw [this]; rfl
    rw [e, f, Rat.intCast_mul, Rat.intCast_mul, Int.natCast_mul, Rat.intCast_mul, ← s]
    generalize ((N : Int) : Rat) = x at *
    generalize ((M : Int) : Rat) = y at *
    generalize ((w.sign : Int) : Rat) = sg at *
    generalize (w : Rat) = ww at *
    generalize (z : Rat) = zz at *
    have : sg ≠ 0 := by intro q; rw [q] at s2; grind
    grind
  · have : (z * M * w.sign).natAbs = z.natAbs * M := by
      rw [Int.natAbs_mul, Int.natAbs_mul, Int.natAbs_natCast, Int.natAbs_sign, if_neg hw, Nat.mul_one]
    rw [this, Nat.pow_add]
    exact Nat.lt_of_lt_of_le (Nat.mul_lt_mul_of_pos_right j h0) (Nat.mul_le_mul_left _ hm)
theorem InB.sm {N B n : Nat} {r : Rat} (h : InB N B r) (hN : N < 2 ^ n) (hB : B ≤ 2 ^ n) : Sm n r := by
  obtain ⟨h0, z, e, l⟩ := h
  rw [e]
  exact sm_div (by omega) (by rw [Int.natAbs_natCast]; exact hN) (by omega)
theorem In.sm {N n : Nat} {r : Rat} (h : In N n r) {k : Nat} (hN : N < 2 ^ k) (hk : n ≤ k) : Sm k r := InB.sm h hN (Nat.pow_le_pow_right (by decide) hk)
theorem in_sum {N B : Nat} : ∀ {rs : List Rat} {a : Rat} {A : Nat}, InB N A a → (∀ r ∈ rs, InB N B r) → InB N (A + rs.length * B) (sumR a rs)
  | [], a, A, h, _ => by simpa [sumR] using h
  | r :: rs, a, A, h, hr => by
    have := in_sum (rs := rs) (h.add (hr r List.mem_cons_self)) fun x hx => hr x (List.mem_cons_of_mem _ hx)
    rw [sumR_cons, List.length_cons, Nat.succ_mul]
    exact this.mono (by omega)
theorem in_oks {N B : Nat} (hN : N < 2 ^ 4000) : ∀ {rs : List Rat} {a : Rat} {A : Nat}, InB N A a → (∀ r ∈ rs, InB N B r) → A + (rs.length + 1) * B ≤ 2 ^ 4000 → OkS a rs
  | [], _, _, _, _, _ => trivial
  | r :: rs, a, A, h, hr, hk => by
    rw [List.length_cons, Nat.succ_mul, Nat.succ_mul] at hk
    have h1 := hr r List.mem_cons_self
    have h2 := h.add h1
    exact ⟨h1.sm hN (by omega), h2.sm hN (by omega), in_oks hN h2 (fun x hx => hr x (List.mem_cons_of_mem _ hx)) (by rw [Nat.succ_mul]; omega)⟩
/-- .. short sums -/
theorem in_sum16 {N n : Nat} {rs : List Rat} (hr : ∀ r ∈ rs, In N n r) (hN : 0 < N) (hl : rs.length ≤ 15) : In N (n + 4) (sumR 0 rs) := by
  have := in_sum (In.zero (n := n) hN) hr
  refine InB.mono this ?_
  rw [Nat.pow_add]
  have : rs.length * 2 ^ n ≤ 15 * 2 ^ n := Nat.mul_le_mul_right _ hl
  omega
theorem in_oks16 {N n : Nat} {rs : List Rat} (hr : ∀ r ∈ rs, In N n r) (hN : 0 < N) (hN' : N < 2 ^ 4000) (hl : rs.length ≤ 15) (hn : n ≤ 3990) : OkS 0 rs := by
  refine in_oks hN' (In.zero (n := n) hN) hr ?_
  have h1 : (rs.length + 1) * 2 ^ n ≤ 16 * 2 ^ n := Nat.mul_le_mul_right _ (by omega)
  have h2 : (2 : Nat) ^ n ≤ 2 ^ 3990 := Nat.pow_le_pow_right (by decide) hn
  have h3 : (2 : Nat) ^ 4000 = 1024 * 2 ^ 3990 := by rw [show 4000 = 10 + 3990 from rfl, Nat.pow_add]
  omega
/-! loads -/
inductive Ld where
  | pt (x f : Rat)
  | sp (a b f : Rat)
def Ld.d : Ld → D
  | .pt x f => .tup [.str "point", rD x, rD f]
  | .sp a b f => .tup [.str "spread", rD a, rD b, rD f]
def Ld.w : Ld → Rat
  | .pt _ f => f
  | .sp a b f => f * (b - a)
def Ld.m : Ld → Rat
  | .pt x _ => x
  | .sp a b _ => 1 / 2 * (a + b)
def Ld.ps : Ld → List Rat
  | .pt x _ => [x]
  | .sp a b _ => [a, b]
/-- places and forces as drawn -/
abbrev Po (r : Rat) : Prop := In 3024 20 r
abbrev Fo (r : Rat) : Prop := In 6 6 r
def Ld.G (L : Rat) : Ld → Prop
  | .pt x f => Po x ∧ Fo f ∧ 0 ≤ x ∧ x ≤ L
  | .sp a b f => Po a ∧ Po b ∧ Fo f ∧ 0 ≤ a ∧ a < b ∧ b ≤ L
def Ld.t (x : Rat) : Ld → Rat
  | .pt y f => if x < y then 0 else f * (x - y)
  | .sp a b f => if x < a then 0 else f * ((if x < b then x else b) - a) * (x - 1 / 2 * (a + (if x < b then x else b)))
/-! polynomials -/
abbrev P3 := Rat × Rat × Rat
def pev (c : P3) (x : Rat) : Rat := ((0 * x + c.2.2) * x + c.2.1) * x + c.1
def padd (a b : P3) : P3 := (a.1 + b.1, a.2.1 + b.2.1, a.2.2 + b.2.2)
theorem pev_add (a b : P3) (x : Rat) : pev (padd a b) x = pev a x + pev b x := by unfold pev padd; dsimp only; grind
def momP (f y : Rat) : P3 := (0 - f * y, f, 0)
theorem pev_mom (f y x : Rat) : pev (momP f y) x = f * (x - y) := by unfold pev momP; dsimp only; grind
def Ld.c (u : Rat) : Ld → P3
  | .pt y f => if u < y then (0, 0, 0) else momP (0 - f) y
  | .sp a b f => if u < a then (0, 0, 0) else if u < b then (0 - 1 / 2 * f * (a * a), f * a, 0 - 1 / 2 * f) else momP (0 - f * (b - a)) (1 / 2 * (a + b))
/-- without a break between, the piece's polynomial is the turning -/
theorem c_t {u x : Rat} (h : u ≤ x) {l : Ld} (hl : ∀ z ∈ l.ps, z ≤ u ∨ x ≤ z) (ho : ∀ a b f, l = .sp a b f → a < b) : pev (l.c u) x = 0 - l.t x := by
  cases l with
  | pt y f =>
    have := hl y (by simp [Ld.ps])
    unfold Ld.c Ld.t
    dsimp only
    by_cases g : u < y
    · rw [if_pos g]
      by_cases e : x < y
      · rw [if_pos e]; unfold pev; dsimp only; grind
      · rw [if_neg e]
        have : x = y := by grind
        subst this; unfold pev; dsimp only; grind
    · rw [if_neg g, if_neg (by grind), pev_mom]; grind
  | sp a b f =>
    have h1 := hl a (by simp [Ld.ps])
    have h2 := hl b (by simp [Ld.ps])
    have h3 := ho a b f rfl
    unfold Ld.c Ld.t
    dsimp only
    by_cases g : u < a
    · rw [if_pos g]
      by_cases e : x < a
      · rw [if_pos e]; unfold pev; dsimp only; grind
      · have : x = a := by grind
        subst this
        rw [if_neg e, if_pos h3]; unfold pev; dsimp only; grind
    · rw [if_neg g]
      by_cases g2 : u < b
      · rw [if_pos g2, if_neg (by grind)]
        by_cases e : x < b
        · rw [if_pos e]; unfold pev; dsimp only; grind
        · have : x = b := by grind
          subst this
          rw [if_neg e]; unfold pev; dsimp only; grind
      · rw [if_neg g2, if_neg (by grind), if_neg (by grind), pev_mom]; grind
def tsum (x : Rat) : List Ld → Rat
  | [] => 0
  | l :: ls => l.t x + tsum x ls
def supR (s p x : Rat) : Rat := if x < s then 0 else p * (x - s)
/-- the moment: a list of supports with pushes -/
def ssum (x : Rat) : List (Rat × Rat) → Rat
  | [] => 0
  | q :: qs => supR q.1 q.2 x + ssum x qs
def MR (qs : List (Rat × Rat)) (ls : List Ld) (x : Rat) : Rat := ssum x qs - tsum x ls
def supC (u : Rat) (c : P3) (q : Rat × Rat) : P3 := if u < q.1 then c else padd c (momP q.2 q.1)
def cof (qs : List (Rat × Rat)) (ls : List Ld) (u : Rat) : P3 := ls.foldl (fun c l => padd c (l.c u)) (qs.foldl (supC u) (0, 0, 0))
theorem pev_ls {u x : Rat} (h : u ≤ x) : ∀ (ls : List Ld) (c : P3), (∀ l ∈ ls, (∀ z ∈ l.ps, z ≤ u ∨ x ≤ z) ∧ ∀ a b f, l = .sp a b f → a < b) → pev (ls.foldl (fun c l => padd c (l.c u)) c) x = pev c x - tsum x ls
  | [], c, _ => by unfold tsum; simp only [List.foldl_nil]; grind
  | l :: ls, c, hl => by
    rw [List.foldl_cons, pev_ls h ls _ fun z hz => hl z (List.mem_cons_of_mem _ hz), pev_add, c_t h (hl l List.mem_cons_self).1 (hl l List.mem_cons_self).2]
    show _ = pev c x - (l.t x + tsum x ls)
    grind
theorem pev_qs {u x : Rat} (h : u ≤ x) : ∀ (qs : List (Rat × Rat)) (c : P3), (∀ q ∈ qs, q.1 ≤ u ∨ x ≤ q.1) → pev (qs.foldl (supC u) c) x = pev c x + ssum x qs
  | [], c, _ => by unfold ssum; simp only [List.foldl_nil]; grind
  | q :: qs, c, hq => by
    rw [List.foldl_cons, pev_qs h qs _ fun z hz => hq z (List.mem_cons_of_mem _ hz)]
    have := hq q List.mem_cons_self
    show _ = pev c x + (supR q.1 q.2 x + ssum x qs)
    unfold supC supR
    by_cases g : u < q.1
    · rw [if_pos g]
      by_cases e : x < q.1
      · rw [if_pos e]; grind
      · have : x = q.1 := by grind
        rw [if_neg e, this]; grind
    · rw [if_neg g, if_neg (by grind), pev_add, pev_mom]; grind
theorem pev_cof {qs : List (Rat × Rat)} {ls : List Ld} {u x : Rat} (h : u ≤ x) (hq : ∀ q ∈ qs, q.1 ≤ u ∨ x ≤ q.1) (hl : ∀ l ∈ ls, (∀ z ∈ l.ps, z ≤ u ∨ x ≤ z) ∧ ∀ a b f, l = .sp a b f → a < b) : pev (cof qs ls u) x = MR qs ls x := by
  unfold cof MR
  rw [pev_ls h ls _ hl, pev_qs h qs _ hq]
  unfold pev; dsimp only; grind
/-! breaks -/
def insU (x : Rat) : List Rat → List Rat
  | [] => [x]
  | y :: ys => if y < x then y :: insU x ys else if y = x then y :: ys else x :: y :: ys
def brk (ps : List Rat) : List Rat := ps.foldl (fun xs x => insU x xs) []
theorem insU_mem (x z : Rat) : ∀ xs : List Rat, z ∈ insU x xs ↔ z = x ∨ z ∈ xs
  | [] => by simp [insU]
  | y :: ys => by
    unfold insU
    split
    · rw [List.mem_cons, insU_mem x z ys, List.mem_cons]
      constructor
      · rintro (h | h | h)
        · exact .inr (.inl h)
        · exact .inl h
        · exact .inr (.inr h)
      · rintro (h | h | h)
        · exact .inr (.inl h)
        · exact .inl h
        · exact .inr (.inr h)
    · split
      · rename_i e
        rw [List.mem_cons]
        constructor
        · exact fun h => .inr h
        · rintro (h | h)
          · exact .inl (h.trans e.symm)
          · exact h
      · rw [List.mem_cons]
theorem insU_sorted (x : Rat) : ∀ xs : List Rat, xs.Pairwise (· < ·) → (insU x xs).Pairwise (· < ·)
  | [], _ => by simp [insU]
  | y :: ys, h => by
    rw [List.pairwise_cons] at h
    unfold insU
    split
    · rename_i g
      rw [List.pairwise_cons]
      refine ⟨fun z hz => ?_, insU_sorted x ys h.2⟩
      rcases (insU_mem x z ys).mp hz with rfl | hz
      · exact g
      · exact h.1 z hz
    · split
      · rw [List.pairwise_cons]; exact h
      · rw [List.pairwise_cons, List.pairwise_cons]
        refine ⟨fun z hz => ?_, h⟩
        rcases List.mem_cons.mp hz with rfl | hz
        · grind
        · have := h.1 z hz; grind
theorem insU_len (x : Rat) : ∀ xs : List Rat, (insU x xs).length ≤ xs.length + 1
  | [] => by simp [insU]
  | y :: ys => by
    unfold insU
    split
    · have := insU_len x ys; simp only [List.length_cons]; omega
    · split <;> simp only [List.length_cons] <;> omega
theorem brk_facts : ∀ (ps xs : List Rat), xs.Pairwise (· < ·) → (ps.foldl (fun xs x => insU x xs) xs).Pairwise (· < ·) ∧ (∀ z, z ∈ ps.foldl (fun xs x => insU x xs) xs ↔ z ∈ ps ∨ z ∈ xs) ∧ (ps.foldl (fun xs x => insU x xs) xs).length ≤ xs.length + ps.length
  | [], xs, h => ⟨h, by simp, by simp⟩
  | p :: ps, xs, h => by
    obtain ⟨h1, h2, h3⟩ := brk_facts ps (insU p xs) (insU_sorted p xs h)
    refine ⟨h1, fun z => ?_, ?_⟩
    · rw [List.foldl_cons, h2, insU_mem, List.mem_cons]
      constructor
      · rintro (h | h | h)
        · exact .inl (.inr h)
        · exact .inl (.inl h)
        · exact .inr h
      · rintro ((h | h) | h)
        · exact .inr (.inl h)
        · exact .inl h
        · exact .inr (.inr h)
    · have := insU_len p xs
      rw [List.foldl_cons, List.length_cons]; omega
theorem brk_sorted (ps : List Rat) : (brk ps).Pairwise (· < ·) := (brk_facts ps [] List.Pairwise.nil).1
theorem brk_mem (ps : List Rat) (z : Rat) : z ∈ brk ps ↔ z ∈ ps := by rw [brk, (brk_facts ps [] List.Pairwise.nil).2.1]; simp
theorem brk_len (ps : List Rat) : (brk ps).length ≤ ps.length := by have := (brk_facts ps [] List.Pairwise.nil).2.2; unfold brk; simpa using this
/-- how many are less -/
def cnt (x : Rat) (xs : List Rat) : Nat := (xs.filter fun y => decide (y < x)).length
theorem cnt_le (x : Rat) (xs : List Rat) : cnt x xs ≤ xs.length := List.length_filter_le _ _
theorem cnt_cons {x y : Rat} {ys : List Rat} : cnt x (y :: ys) = if y < x then cnt x ys + 1 else cnt x ys := by
  unfold cnt
  by_cases h : y < x
  · rw [if_pos h, List.filter_cons_of_pos (by simp [h]), List.length_cons]
  · rw [if_neg h, List.filter_cons_of_neg (by simp [h])]
theorem cnt_zero {x : Rat} {ys : List Rat} (h : ∀ z ∈ ys, ¬ z < x) : cnt x ys = 0 := by
  unfold cnt
  rw [List.length_eq_zero_iff, List.filter_eq_nil_iff]
  intro a ha; simp [h a ha]
/-- in ascending lists the lesser ones stand first -/
theorem cnt_at (x : Rat) : ∀ xs : List Rat, xs.Pairwise (· < ·) → (∀ j y, xs[j]? = some y → (y < x ↔ j < cnt x xs)) ∧
    (x ∈ xs → xs[cnt x xs]? = some x ∧ insU x xs = xs) ∧ (x ∉ xs → insU x xs = xs.take (cnt x xs) ++ [x] ++ xs.drop (cnt x xs))
  | [], _ => ⟨by simp, by simp, fun _ => by simp [insU, cnt]⟩
  | y :: ys, h => by
    rw [List.pairwise_cons] at h
    obtain ⟨i1, i2, i3⟩ := cnt_at x ys h.2
    by_cases g : y < x
    · rw [cnt_cons, if_pos g]
      refine ⟨fun j z hz => ?_, fun hm => ?_, fun hm => ?_⟩
      · cases j with
        | zero => simp at hz; subst hz; exact ⟨fun _ => by omega, fun _ => g⟩
        | succ j => rw [List.getElem?_cons_succ] at hz; rw [i1 j z hz]; omega
      · rcases List.mem_cons.mp hm with rfl | hm
        · exact absurd g (by grind)
        · obtain ⟨k1, k2⟩ := i2 hm
          refine ⟨by rw [List.getElem?_cons_succ]; exact k1, ?_⟩
          unfold insU; rw [if_pos g, k2]
      · unfold insU
        rw [if_pos g, i3 fun q => hm (List.mem_cons_of_mem _ q)]; simp
    · have z0 : cnt x ys = 0 := cnt_zero fun z hz => by have := h.1 z hz; grind
      rw [cnt_cons, if_neg g, z0]
      refine ⟨fun j z hz => ⟨fun q => ?_, fun q => absurd q (by omega)⟩, fun hm => ?_, fun hm => ?_⟩
      · exfalso
        cases j with
        | zero => simp at hz; subst hz; exact g q
        | succ j =>
          rw [List.getElem?_cons_succ] at hz
          have := h.1 z (List.mem_of_getElem? hz); grind
      · rcases List.mem_cons.mp hm with rfl | hm
        · refine ⟨rfl, ?_⟩
          unfold insU; rw [if_neg g, if_pos rfl]
        · have := h.1 x hm; exact absurd this g
      · unfold insU
        rw [if_neg g, if_neg (fun e : y = x => hm (by rw [e]; exact List.mem_cons_self))]; simp
/-! pieces -/
theorem gap : ∀ (bs : List Rat), bs.Pairwise (· < ·) → ∀ q ∈ bs.zip bs.tail, q.1 < q.2 ∧ q.1 ∈ bs ∧ q.2 ∈ bs ∧ ∀ z ∈ bs, z ≤ q.1 ∨ q.2 ≤ z
  | [], _, q, hq => by simp at hq
  | [b], _, q, hq => by simp at hq
  | b :: c :: bs, h, q, hq => by
    rw [List.tail_cons, List.zip_cons_cons] at hq
    have h' := h
    rw [List.pairwise_cons] at h
    rcases List.mem_cons.mp hq with rfl | hq
    · refine ⟨h.1 c List.mem_cons_self, List.mem_cons_self, List.mem_cons_of_mem _ List.mem_cons_self, fun z hz => ?_⟩
      rcases List.mem_cons.mp hz with rfl | hz
      · exact .inl Rat.le_refl
      · rcases List.mem_cons.mp hz with rfl | hz
        · exact .inr Rat.le_refl
        · exact .inr (Rat.le_of_lt ((List.pairwise_cons.mp h.2).1 z hz))
    · obtain ⟨k1, k2, k3, k4⟩ := gap (c :: bs) h.2 q (by rw [List.tail_cons]; exact hq)
      refine ⟨k1, List.mem_cons_of_mem _ k2, List.mem_cons_of_mem _ k3, fun z hz => ?_⟩
      rcases List.mem_cons.mp hz with rfl | hz
      · have := h.1 q.1 k2; exact .inl (Rat.le_of_lt this)
      · exact k4 z hz
theorem piece_at {x : Rat} : ∀ (bs : List Rat) (b : Rat), (b :: bs).Pairwise (· < ·) → b ≤ x → (∃ z ∈ bs, x ≤ z) → ∃ pre q post, (b :: bs).zip bs = pre ++ q :: post ∧ (∀ r ∈ pre, r.2 < x) ∧ ¬ q.2 < x ∧ q.1 ≤ x
  | [], b, _, _, h => by obtain ⟨z, hz, _⟩ := h; cases hz
  | c :: bs, b, hs, hb, h => by
    rw [List.zip_cons_cons]
    by_cases g : c < x
    · have hs2 := (List.pairwise_cons.mp hs).2
      obtain ⟨z, hz, hzx⟩ := h
      have hz' : z ∈ bs := by
        rcases List.mem_cons.mp hz with rfl | hz
        · exact absurd g (by grind)
        · exact hz
      obtain ⟨pre, q, post, e, h1, h2, h3⟩ := piece_at bs c hs2 (Rat.le_of_lt g) ⟨z, hz', hzx⟩
      refine ⟨(b, c) :: pre, q, post, by rw [e]; rfl, fun r hr => ?_, h2, h3⟩
      rcases List.mem_cons.mp hr with rfl | hr
      · exact g
      · exact h1 r hr
    · exact ⟨[], (b, c), _, rfl, by simp, g, hb⟩
end Bm
end Lw
set_option Elab.async false
set_option linter.all false
set_option maxRecDepth 100000
set_option maxHeartbeats 4000000
namespace Lw
open PySem PySem.Spec PyProof.Rows L2 Dn
def c_UNIT : D := .tup [.int 1, .int 1]
def c_HALF : D := .tup [.int 1, .int 2]
def b_value_at : SM := sSeq (sAsgF [] (gN 2) (mC c_NOUGHT)) (sSeq (sFor [] (gN 3) (mIt itD (mFrz (mRevL (mV 0)))) (sAsgF [] (gN 2) (mCall m_plus (aCons (mCall m_times (aCons (mV 2) (aCons (mV 1) (aNil)))) (aCons (mV 3) (aNil)))))) (sRetF [] (mV 2)))
def m_value_at : List D → Option D := runF 4 b_value_at
def b_whole_of : SM := sSeq (sIf (mTst (mOp dEq (mOp dIx (mV 0) (mC (.int 0))) (mC (.str "point")))) (sRetF [] (mTup (aCons (mOp dIx (mV 0) (mC (.int 2))) (aCons (mOp dIx (mV 0) (mC (.int 1))) (aNil))))) (sNil)) (sRetF [] (mTup (aCons (mCall m_times (aCons (mOp dIx (mV 0) (mC (.int 3))) (aCons (mCall m_minus (aCons (mOp dIx (mV 0) (mC (.int 2))) (aCons (mOp dIx (mV 0) (mC (.int 1))) (aNil)))) (aNil)))) (aCons (mCall m_times (aCons (mC c_HALF) (aCons (mCall m_plus (aCons (mOp dIx (mV 0) (mC (.int 1))) (aCons (mOp dIx (mV 0) (mC (.int 2))) (aNil)))) (aNil)))) (aNil)))))
def m_whole_of : List D → Option D := runF 1 b_whole_of
def b_two_pushes : SM := sSeq (sAsgF [] (gTL 2 (gsC (gN 6) (gsC (gN 7) (gsN)))) (mV 1)) (sSeq (sAsgF [] (gN 3) (mFrz (mLc [8] (mIt itD (mV 2)) (gN 8) (tYesM) (mCall m_whole_of (aCons (mV 8) (aNil)))))) (sSeq (sAsgF [] (gN 4) (mCall m_sum_of (aCons (mFrz (mLc [9, 10] (mIt itD (mV 3)) (gTL 2 (gsC (gN 9) (gsC (gN 10) (gsN)))) (tYesM) (mCall m_times (aCons (mV 9) (aCons (mCall m_minus (aCons (mV 10) (aCons (mV 6) (aNil)))) (aNil)))))) (aNil)))) (sSeq (sAsgF [] (gN 5) (mCall m_over (aCons (mV 4) (aCons (mCall m_minus (aCons (mV 7) (aCons (mV 6) (aNil)))) (aNil))))) (sRetL [] (mLstL (aCons (mCall m_minus (aCons (mCall m_sum_of (aCons (mFrz (mLc [9, 11] (mIt itD (mV 3)) (gTL 2 (gsC (gN 9) (gsC (gN 11) (gsN)))) (tYesM) (mV 9))) (aNil))) (aCons (mV 5) (aNil)))) (aCons (mV 5) (aNil))))))))
def m_two_pushes : List D → Option (List D) := runL 12 b_two_pushes
def b_places_in : SM := sSeq (sOwn [] 3 (mOpL catL (mFrz (mLstL (aCons (mC c_NOUGHT) (aCons (mV 0) (aNil))))) (mFrz (mCallL gList (aCons (mV 1) (aNil)))))) (sSeq (sFor [] (gN 4) (mIt itD (mV 2)) (sExtF [] 3 (mFrz (mCallL gList (aCons (mIte (mTst (mOp dEq (mOp dIx (mV 4) (mC (.int 0))) (mC (.str "point")))) (mSl (mV 4) (oSome (mC (.int 1))) (oSome (mC (.int 2)))) (mSl (mV 4) (oSome (mC (.int 1))) (oSome (mC (.int 3))))) (aNil)))))) (sSeq (sOwn [] 5 (mLstL (aNil))) (sSeq (sFor [3] (gN 6) (mIt itD (mV 3)) (sSeq (sAsgF [] (gN 7) (mC (.int 0))) (sSeq (whL (mAnd (mTst (mOp dLt (mV 7) (mCall gLen (aCons (mV 5) (aNil))))) (mTru (mCall m_less (aCons (mOp dIx (mV 5) (mV 7)) (aCons (mV 6) (aNil)))))) (sAsgF [] (gN 7) (mOp dAdd (mV 7) (mC (.int 1)))) 1000000) (sIf (mOr (mTst (mOp dEq (mV 7) (mCall gLen (aCons (mV 5) (aNil))))) (mTst (mOp dNe (mOp dIx (mV 5) (mV 7)) (mV 6)))) (sInsF 5 (aCons (mV 7) (aCons (mV 6) (aNil)))) (sNil))))) (sRetO 5))))
def m_places_in : List D → Option (List D) := runL 8 b_places_in
def b_moment_of : SM := sRetL [] (mLstL (aCons (mCall m_minus (aCons (mC c_NOUGHT) (aCons (mCall m_times (aCons (mV 0) (aCons (mV 1) (aNil)))) (aNil)))) (aCons (mV 0) (aCons (mC c_NOUGHT) (aNil)))))
def m_moment_of : List D → Option (List D) := runL 2 b_moment_of
def b_spread_moment : SM := sSeq (sAsgF [] (gTL 4 (gsC (gN 3) (gsC (gN 4) (gsC (gN 5) (gsC (gN 6) (gsN)))))) (mV 0)) (sSeq (sIf (mTru (mCall m_less (aCons (mV 1) (aCons (mV 4) (aNil))))) (sRetL [] (mOpL repL (mFrz (mLstL (aCons (mC c_NOUGHT) (aNil)))) (mC (.int 3)))) (sNil)) (sSeq (sIf (mNot (mTru (mCall m_less (aCons (mV 1) (aCons (mV 5) (aNil)))))) (sSeq (sAsgF [] (gTL 2 (gsC (gN 7) (gsC (gN 8) (gsN)))) (mCall m_whole_of (aCons (mV 0) (aNil)))) (sRetL [] (mCallL m_moment_of (aCons (mCall m_minus (aCons (mC c_NOUGHT) (aCons (mV 7) (aNil)))) (aCons (mV 8) (aNil)))))) (sNil)) (sSeq (sAsgF [] (gN 2) (mCall m_times (aCons (mC c_HALF) (aCons (mV 6) (aNil))))) (sRetL [] (mLstL (aCons (mCall m_minus (aCons (mC c_NOUGHT) (aCons (mCall m_times (aCons (mV 2) (aCons (mCall m_times (aCons (mV 4) (aCons (mV 4) (aNil)))) (aNil)))) (aNil)))) (aCons (mCall m_times (aCons (mV 6) (aCons (mV 4) (aNil)))) (aCons (mCall m_minus (aCons (mC c_NOUGHT) (aCons (mV 2) (aNil)))) (aNil)))))))))
def m_spread_moment : List D → Option (List D) := runL 9 b_spread_moment
def b_pieces : SM := sSeq (sAsgF [] (gN 4) (mFrz (mCallL m_places_in (aCons (mV 0) (aCons (mV 1) (aCons (mV 2) (aNil))))))) (sSeq (sOwn [] 5 (mLstL (aNil))) (sSeq (sFor [] (gTL 2 (gsC (gN 6) (gsC (gN 7) (gsN)))) (mRng zipF (aCons (mV 4) (aCons (mSl (mV 4) (oSome (mC (.int 1))) (oNo)) (aNil)))) (sSeq (sAsgF [] (gN 8) (mOp dMul (mFrz (mLstL (aCons (mC c_NOUGHT) (aNil)))) (mC (.int 3)))) (sSeq (sFor [] (gTL 2 (gsC (gN 10) (gsC (gN 11) (gsN)))) (mRng zipI (aCons (mV 1) (aCons (mV 3) (aNil)))) (sIf (mNot (mTru (mCall m_less (aCons (mV 6) (aCons (mV 10) (aNil)))))) (sAsgF [] (gN 8) (mFrz (mLc [13, 14] (mRng zipI (aCons (mV 8) (aCons (mFrz (mCallL m_moment_of (aCons (mV 11) (aCons (mV 10) (aNil))))) (aNil)))) (gTL 2 (gsC (gN 13) (gsC (gN 14) (gsN)))) (tYesM) (mCall m_plus (aCons (mV 13) (aCons (mV 14) (aNil))))))) (sNil))) (sSeq (sFor [] (gN 9) (mIt itD (mV 2)) (sSeq (sIf (mTst (mOp dEq (mOp dIx (mV 9) (mC (.int 0))) (mC (.str "spread")))) (sAsgF [] (gN 12) (mFrz (mCallL m_spread_moment (aCons (mV 9) (aCons (mV 6) (aNil)))))) (sAsgF [] (gN 12) (mIte (mNot (mTru (mCall m_less (aCons (mV 6) (aCons (mOp dIx (mV 9) (mC (.int 1))) (aNil)))))) (mFrz (mCallL m_moment_of (aCons (mCall m_minus (aCons (mC c_NOUGHT) (aCons (mOp dIx (mV 9) (mC (.int 2))) (aNil)))) (aCons (mOp dIx (mV 9) (mC (.int 1))) (aNil))))) (mOp dMul (mFrz (mLstL (aCons (mC c_NOUGHT) (aNil)))) (mC (.int 3)))))) (sAsgF [] (gN 8) (mFrz (mLc [13, 14] (mRng zipI (aCons (mV 8) (aCons (mV 12) (aNil)))) (gTL 2 (gsC (gN 13) (gsC (gN 14) (gsN)))) (tYesM) (mCall m_plus (aCons (mV 13) (aCons (mV 14) (aNil))))))))) (sAppF [] 5 (mTup (aCons (mV 6) (aCons (mV 7) (aCons (mV 8) (aNil)))))))))) (sRetO 5)))
def m_pieces : List D → Option (List D) := runL 15 b_pieces
def b_moment_at : SM := sSeq (sFor [] (gTL 3 (gsC (gN 2) (gsC (gN 3) (gsC (gN 4) (gsN))))) (mIt itD (mV 0)) (sIf (mNot (mTru (mCall m_less (aCons (mV 3) (aCons (mV 1) (aNil)))))) (sRetF [] (mCall m_value_at (aCons (mV 4) (aCons (mV 1) (aNil))))) (sNil))) (sRetF [] (mC c_NOUGHT))
def m_moment_at : List D → Option D := runF 5 b_moment_at
def b_hinged : SM := sSeq (sAsgF [] (gN 2) (mFrz (mLstL (aCons (mC c_NOUGHT) (aCons (mV 0) (aNil)))))) (sRetL [] (mCallL m_pieces (aCons (mV 0) (aCons (mV 2) (aCons (mV 1) (aCons (mFrz (mCallL m_two_pushes (aCons (mV 0) (aCons (mV 2) (aCons (mV 1) (aNil)))))) (aNil)))))))
def m_hinged : List D → Option (List D) := runL 3 b_hinged
def b_product : SM := sSeq (sOwn [] 2 (mOpL repL (mFrz (mLstL (aCons (mC c_NOUGHT) (aNil)))) (mOp dSub (mOp dAdd (mCall gLen (aCons (mV 0) (aNil))) (mCall gLen (aCons (mV 1) (aNil)))) (mC (.int 1))))) (sSeq (sFor [] (gTL 2 (gsC (gN 3) (gsC (gN 4) (gsN)))) (mRng enumI (aCons (mV 0) (aNil))) (sFor [] (gTL 2 (gsC (gN 5) (gsC (gN 6) (gsN)))) (mRng enumI (aCons (mV 1) (aNil))) (sSetS 2 (mOp dAdd (mV 3) (mV 5)) (mCall m_plus (aCons (mOp dIx (mV 2) (mOp dAdd (mV 3) (mV 5))) (aCons (mCall m_times (aCons (mV 4) (aCons (mV 6) (aNil)))) (aNil))))))) (sRetO 2))
def m_product : List D → Option (List D) := runL 7 b_product
def b_integral : SM := sSeq (sAsgF [] (gN 3) (mOp dAdd (mFrz (mLstL (aCons (mC c_NOUGHT) (aNil)))) (mFrz (mLc [4, 5] (mRng enumI (aCons (mV 0) (aNil))) (gTL 2 (gsC (gN 4) (gsC (gN 5) (gsN)))) (tYesM) (mCall m_frac (aCons (mOp dIx (mV 5) (mC (.int 0))) (aCons (mOp dMul (mOp dIx (mV 5) (mC (.int 1))) (mOp dAdd (mV 4) (mC (.int 1)))) (aNil)))))))) (sRetF [] (mCall m_minus (aCons (mCall m_value_at (aCons (mV 3) (aCons (mV 2) (aNil)))) (aCons (mCall m_value_at (aCons (mV 3) (aCons (mV 1) (aNil)))) (aNil)))))
def m_integral : List D → Option D := runF 6 b_integral
def b__law_length : SM := sRetF [] (mCall m__law_ratio (aCons (mOp dAdd (mC (.int 1)) (mCallP 0 m__law_draw (aCons (mC (.int 24)) (aNil)))) (aCons (mOp dAdd (mC (.int 1)) (mCallP 0 m__law_draw (aCons (mC (.int 3)) (aNil)))) (aNil))))
def m__law_length : Pl → List D → Option (D × Pl) := runP 1 b__law_length
def b__law_part : SM := sRetF [] (mCall m__law_ratio (aCons (mOp dMul (mOp dIx (mV 1) (mC (.int 0))) (mCallP 0 m__law_draw (aCons (mOp dAdd (mV 2) (mC (.int 1))) (aNil)))) (aCons (mOp dMul (mOp dIx (mV 1) (mC (.int 1))) (mV 2)) (aNil))))
def m__law_part : Pl → List D → Option (D × Pl) := runP 3 b__law_part
def b__law_points : SM := sSeq (sOwn [] 3 (mLstL (aNil))) (sSeq (sFor [] (gN 4) (mRng rng1 (aCons (mOp dAdd (mC (.int 1)) (mCallP 0 m__law_draw (aCons (mV 2) (aNil)))) (aNil))) (sSeq (sIf (mTst (mOp dEq (mOp dMod (mCall gInt (aCons (mV 4) (aNil))) (mC (.int 3))) (mC (.int 2)))) (sDrop (mCallP 0 m__law_next (aNil))) (sNil)) (sAppF [] 3 (mTup (aCons (mC (.str "point")) (aCons (mCallP 0 m__law_part (aCons (mV 1) (aCons (mC (.int 8)) (aNil)))) (aCons (mCall m__law_ratio (aCons (mCallP 0 m__law_draw (aCons (mC (.int 9)) (aNil))) (aCons (mOp dAdd (mC (.int 1)) (mCallP 0 m__law_draw (aCons (mC (.int 3)) (aNil)))) (aNil)))) (aNil)))))))) (sRetO 3))
def m__law_points : Pl → List D → Option (List D × Pl) := runPL 5 b__law_points
def b__law_loads : SM := sSeq (sOwn [] 3 (mLstL (aNil))) (sSeq (sFor [] (gN 4) (mRng rng1 (aCons (mCallP 0 m__law_draw (aCons (mOp dAdd (mV 2) (mC (.int 1))) (aNil))) (aNil))) (sSeq (sIf (mTst (mOp dEq (mOp dMod (mCall gInt (aCons (mV 4) (aNil))) (mC (.int 2))) (mC (.int 1)))) (sDrop (mCallP 0 m__law_next (aNil))) (sNil)) (sSeq (sAsgF [] (gN 5) (mCall m__law_ratio (aCons (mOp dSub (mCallP 0 m__law_draw (aCons (mC (.int 13)) (aNil))) (mC (.int 4))) (aCons (mOp dAdd (mC (.int 1)) (mCallP 0 m__law_draw (aCons (mC (.int 3)) (aNil)))) (aNil))))) (sSeq (sAsgF [] (gN 6) (mCallP 0 m__law_part (aCons (mV 1) (aCons (mC (.int 6)) (aNil))))) (sSeq (sAsgF [] (gN 7) (mCallP 0 m__law_part (aCons (mV 1) (aCons (mC (.int 6)) (aNil))))) (sIf (mOr (mTst (mOp dEq (mCallP 0 m__law_draw (aCons (mC (.int 2)) (aNil))) (mC (.int 0)))) (mTst (mOp dEq (mV 6) (mV 7)))) (sAppF [] 3 (mTup (aCons (mC (.str "point")) (aCons (mV 6) (aCons (mV 5) (aNil)))))) (sIf (mTru (mCall m__law_less (aCons (mV 6) (aCons (mV 7) (aNil))))) (sAppF [] 3 (mTup (aCons (mC (.str "spread")) (aCons (mV 6) (aCons (mV 7) (aCons (mV 5) (aNil))))))) (sAppF [] 3 (mTup (aCons (mC (.str "spread")) (aCons (mV 7) (aCons (mV 6) (aCons (mV 5) (aNil)))))))))))))) (sRetO 3))
def m__law_loads : Pl → List D → Option (List D × Pl) := runPL 8 b__law_loads
def b__law_force : SM := sSeq (sIf (mTst (mOp dEq (mOp dIx (mV 0) (mC (.int 0))) (mC (.str "point")))) (sRetF [] (mOp dIx (mV 0) (mC (.int 2)))) (sNil)) (sRetF [] (mCall m__law_mul (aCons (mOp dIx (mV 0) (mC (.int 3))) (aCons (mCall m__law_sub (aCons (mOp dIx (mV 0) (mC (.int 2))) (aCons (mOp dIx (mV 0) (mC (.int 1))) (aNil)))) (aNil)))))
def m__law_force : List D → Option D := runF 1 b__law_force
def b__law_totalB : SM := sSeq (sAsgF [] (gN 1) (mTup (aCons (mC (.int 0)) (aCons (mC (.int 1)) (aNil))))) (sSeq (sFor [] (gN 2) (mIt itD (mV 0)) (sAsgF [] (gN 1) (mCall m__law_add (aCons (mV 1) (aCons (mV 2) (aNil)))))) (sRetF [] (mV 1)))
def m__law_totalB : List D → Option D := runF 3 b__law_totalB
def b__law_simple : SM := sSeq (sAsgF [] (gN 2) (mTup (aCons (mC (.int 0)) (aCons (mC (.int 1)) (aNil))))) (sSeq (sFor [] (gN 3) (mIt itD (mV 1)) (sSeq (sAsgF [] (gN 5) (mIte (mTst (mOp dEq (mOp dIx (mV 3) (mC (.int 0))) (mC (.str "point")))) (mOp dIx (mV 3) (mC (.int 1))) (mCall m__law_mul (aCons (mTup (aCons (mC (.int 1)) (aCons (mC (.int 2)) (aNil)))) (aCons (mCall m__law_add (aCons (mOp dIx (mV 3) (mC (.int 1))) (aCons (mOp dIx (mV 3) (mC (.int 2))) (aNil)))) (aNil)))))) (sAsgF [] (gN 2) (mCall m__law_add (aCons (mV 2) (aCons (mCall m__law_mul (aCons (mCall m__law_force (aCons (mV 3) (aNil))) (aCons (mV 5) (aNil)))) (aNil))))))) (sSeq (sAsgF [] (gN 4) (mCall m__law_div (aCons (mV 2) (aCons (mV 0) (aNil))))) (sRetL [] (mLstL (aCons (mCall m__law_sub (aCons (mCall m__law_totalB (aCons (mFrz (mLc [3] (mIt itD (mV 1)) (gN 3) (tYesM) (mCall m__law_force (aCons (mV 3) (aNil))))) (aNil))) (aCons (mV 4) (aNil)))) (aCons (mV 4) (aNil)))))))
def m__law_simple : List D → Option (List D) := runL 6 b__law_simple
def b__law_turning : SM := sSeq (sIf (mTst (mOp dEq (mOp dIx (mV 0) (mC (.int 0))) (mC (.str "point")))) (sRetF [] (mIte (mNot (mTru (mCall m__law_less (aCons (mV 1) (aCons (mOp dIx (mV 0) (mC (.int 1))) (aNil)))))) (mCall m__law_mul (aCons (mOp dIx (mV 0) (mC (.int 2))) (aCons (mCall m__law_sub (aCons (mV 1) (aCons (mOp dIx (mV 0) (mC (.int 1))) (aNil)))) (aNil)))) (mTup (aCons (mC (.int 0)) (aCons (mC (.int 1)) (aNil)))))) (sNil)) (sSeq (sPar [] 4 5 (aCons (mOp dIx (mV 0) (mC (.int 1))) (aCons (mOp dIx (mV 0) (mC (.int 2))) (aNil)))) (sSeq (sIf (mTru (mCall m__law_less (aCons (mV 1) (aCons (mV 4) (aNil))))) (sRetF [] (mTup (aCons (mC (.int 0)) (aCons (mC (.int 1)) (aNil))))) (sNil)) (sSeq (sAsgF [] (gN 2) (mIte (mTru (mCall m__law_less (aCons (mV 1) (aCons (mV 5) (aNil))))) (mV 1) (mV 5))) (sSeq (sAsgF [] (gN 3) (mCall m__law_mul (aCons (mTup (aCons (mC (.int 1)) (aCons (mC (.int 2)) (aNil)))) (aCons (mCall m__law_add (aCons (mV 4) (aCons (mV 2) (aNil)))) (aNil))))) (sRetF [] (mCall m__law_mul (aCons (mCall m__law_mul (aCons (mOp dIx (mV 0) (mC (.int 3))) (aCons (mCall m__law_sub (aCons (mV 2) (aCons (mV 4) (aNil)))) (aNil)))) (aCons (mCall m__law_sub (aCons (mV 1) (aCons (mV 3) (aNil)))) (aNil)))))))))
def m__law_turning : List D → Option D := runF 6 b__law_turning
def b__law_moment : SM := sSeq (sAsgF [] (gN 4) (mTup (aCons (mC (.int 0)) (aCons (mC (.int 1)) (aNil))))) (sSeq (sFor [] (gN 5) (mRng rng1 (aCons (mCall gLen (aCons (mV 0) (aNil))) (aNil))) (sIf (mNot (mTru (mCall m__law_less (aCons (mV 3) (aCons (mOp dIx (mV 0) (mV 5)) (aNil)))))) (sAsgF [] (gN 4) (mCall m__law_add (aCons (mV 4) (aCons (mCall m__law_mul (aCons (mOp dIx (mV 2) (mV 5)) (aCons (mCall m__law_sub (aCons (mV 3) (aCons (mOp dIx (mV 0) (mV 5)) (aNil)))) (aNil)))) (aNil))))) (sNil))) (sSeq (sFor [] (gN 6) (mIt itD (mV 1)) (sAsgF [] (gN 4) (mCall m__law_sub (aCons (mV 4) (aCons (mCall m__law_turning (aCons (mV 6) (aCons (mV 3) (aNil)))) (aNil)))))) (sRetF [] (mV 4))))
def m__law_moment : List D → Option D := runF 7 b__law_moment
def b__law_breaks : SM := sSeq (sOwn [] 3 (mOpL catL (mFrz (mLstL (aCons (mTup (aCons (mC (.int 0)) (aCons (mC (.int 1)) (aNil)))) (aCons (mV 0) (aNil))))) (mV 1))) (sSeq (sFor [] (gN 4) (mIt itD (mV 2)) (sSeq (sAppF [] 3 (mOp dIx (mV 4) (mC (.int 1)))) (sIf (mTst (mOp dEq (mOp dIx (mV 4) (mC (.int 0))) (mC (.str "spread")))) (sAppF [] 3 (mOp dIx (mV 4) (mC (.int 2)))) (sNil)))) (sSeq (sAsgF [] (gN 5) (mFrz (mLstL (aNil)))) (sSeq (sFor [3] (gN 6) (mIt itD (mV 3)) (sSeq (sAsgF [] (gN 7) (mCall gLen (aCons (mFrz (mLc [8] (mIt itD (mV 5)) (gN 8) (mTru (mCall m__law_less (aCons (mV 8) (aCons (mV 6) (aNil))))) (mV 8))) (aNil)))) (sIf (mTst (mOp dNotIn (mV 6) (mV 5))) (sAsgF [] (gN 5) (mOp dAdd (mOp dAdd (mSl (mV 5) (oNo) (oSome (mV 7))) (mFrz (mLstL (aCons (mV 6) (aNil))))) (mSl (mV 5) (oSome (mV 7)) (oNo)))) (sNil)))) (sRetF [] (mV 5)))))
def m__law_breaks : List D → Option D := runF 9 b__law_breaks
namespace Bm
def va_0 : SM := sAsgF [] (gN 2) (mC c_NOUGHT)
def va_1_0 : SM := sAsgF [] (gN 2) (mCall m_plus (aCons (mCall m_times (aCons (mV 2) (aCons (mV 1) (aNil)))) (aCons (mV 3) (aNil))))
def va_1_b : SM := va_1_0
def va_1 : SM := sFor [] (gN 3) (mIt itD (mFrz (mRevL (mV 0)))) va_1_b
def va_2 : SM := sRetF [] (mV 2)
theorem va_eq : b_value_at = sSeq va_0 (sSeq va_1 va_2) := rfl
def wh_0 : SM := sIf (mTst (mOp dEq (mOp dIx (mV 0) (mC (.int 0))) (mC (.str "point")))) (sRetF [] (mTup (aCons (mOp dIx (mV 0) (mC (.int 2))) (aCons (mOp dIx (mV 0) (mC (.int 1))) (aNil))))) (sNil)
def wh_1 : SM := sRetF [] (mTup (aCons (mCall m_times (aCons (mOp dIx (mV 0) (mC (.int 3))) (aCons (mCall m_minus (aCons (mOp dIx (mV 0) (mC (.int 2))) (aCons (mOp dIx (mV 0) (mC (.int 1))) (aNil)))) (aNil)))) (aCons (mCall m_times (aCons (mC c_HALF) (aCons (mCall m_plus (aCons (mOp dIx (mV 0) (mC (.int 1))) (aCons (mOp dIx (mV 0) (mC (.int 2))) (aNil)))) (aNil)))) (aNil))))
theorem wh_eq : b_whole_of = sSeq wh_0 wh_1 := rfl
def tp_0 : SM := sAsgF [] (gTL 2 (gsC (gN 6) (gsC (gN 7) (gsN)))) (mV 1)
def tp_1 : SM := sAsgF [] (gN 3) (mFrz (mLc [8] (mIt itD (mV 2)) (gN 8) (tYesM) (mCall m_whole_of (aCons (mV 8) (aNil)))))
def tp_2 : SM := sAsgF [] (gN 4) (mCall m_sum_of (aCons (mFrz (mLc [9, 10] (mIt itD (mV 3)) (gTL 2 (gsC (gN 9) (gsC (gN 10) (gsN)))) (tYesM) (mCall m_times (aCons (mV 9) (aCons (mCall m_minus (aCons (mV 10) (aCons (mV 6) (aNil)))) (aNil)))))) (aNil)))
def tp_3 : SM := sAsgF [] (gN 5) (mCall m_over (aCons (mV 4) (aCons (mCall m_minus (aCons (mV 7) (aCons (mV 6) (aNil)))) (aNil))))
def tp_4 : SM := sRetL [] (mLstL (aCons (mCall m_minus (aCons (mCall m_sum_of (aCons (mFrz (mLc [9, 11] (mIt itD (mV 3)) (gTL 2 (gsC (gN 9) (gsC (gN 11) (gsN)))) (tYesM) (mV 9))) (aNil))) (aCons (mV 5) (aNil)))) (aCons (mV 5) (aNil))))
theorem tp_eq : b_two_pushes = sSeq tp_0 (sSeq tp_1 (sSeq tp_2 (sSeq tp_3 tp_4))) := rfl
def pl_0 : SM := sOwn [] 3 (mOpL catL (mFrz (mLstL (aCons (mC c_NOUGHT) (aCons (mV 0) (aNil))))) (mFrz (mCallL gList (aCons (mV 1) (aNil)))))
def pl_1_0 : SM := sExtF [] 3 (mFrz (mCallL gList (aCons (mIte (mTst (mOp dEq (mOp dIx (mV 4) (mC (.int 0))) (mC (.str "point")))) (mSl (mV 4) (oSome (mC (.int 1))) (oSome (mC (.int 2)))) (mSl (mV 4) (oSome (mC (.int 1))) (oSome (mC (.int 3))))) (aNil))))
def pl_1_b : SM := pl_1_0
def pl_1 : SM := sFor [] (gN 4) (mIt itD (mV 2)) pl_1_b
def pl_2 : SM := sOwn [] 5 (mLstL (aNil))
def pl_3_0 : SM := sAsgF [] (gN 7) (mC (.int 0))
def pl_3_1 : SM := whL (mAnd (mTst (mOp dLt (mV 7) (mCall gLen (aCons (mV 5) (aNil))))) (mTru (mCall m_less (aCons (mOp dIx (mV 5) (mV 7)) (aCons (mV 6) (aNil)))))) (sAsgF [] (gN 7) (mOp dAdd (mV 7) (mC (.int 1)))) 1000000
def pl_3_2 : SM := sIf (mOr (mTst (mOp dEq (mV 7) (mCall gLen (aCons (mV 5) (aNil))))) (mTst (mOp dNe (mOp dIx (mV 5) (mV 7)) (mV 6)))) (sInsF 5 (aCons (mV 7) (aCons (mV 6) (aNil)))) (sNil)
def pl_3_b : SM := sSeq pl_3_0 (sSeq pl_3_1 pl_3_2)
def pl_3 : SM := sFor [3] (gN 6) (mIt itD (mV 3)) pl_3_b
def pl_4 : SM := sRetO 5
theorem pl_eq : b_places_in = sSeq pl_0 (sSeq pl_1 (sSeq pl_2 (sSeq pl_3 pl_4))) := rfl
def mo_0 : SM := sRetL [] (mLstL (aCons (mCall m_minus (aCons (mC c_NOUGHT) (aCons (mCall m_times (aCons (mV 0) (aCons (mV 1) (aNil)))) (aNil)))) (aCons (mV 0) (aCons (mC c_NOUGHT) (aNil)))))
theorem mo_eq : b_moment_of = mo_0 := rfl
def sm_0 : SM := sAsgF [] (gTL 4 (gsC (gN 3) (gsC (gN 4) (gsC (gN 5) (gsC (gN 6) (gsN)))))) (mV 0)
def sm_1 : SM := sIf (mTru (mCall m_less (aCons (mV 1) (aCons (mV 4) (aNil))))) (sRetL [] (mOpL repL (mFrz (mLstL (aCons (mC c_NOUGHT) (aNil)))) (mC (.int 3)))) (sNil)
def sm_2 : SM := sIf (mNot (mTru (mCall m_less (aCons (mV 1) (aCons (mV 5) (aNil)))))) (sSeq (sAsgF [] (gTL 2 (gsC (gN 7) (gsC (gN 8) (gsN)))) (mCall m_whole_of (aCons (mV 0) (aNil)))) (sRetL [] (mCallL m_moment_of (aCons (mCall m_minus (aCons (mC c_NOUGHT) (aCons (mV 7) (aNil)))) (aCons (mV 8) (aNil)))))) (sNil)
def sm_3 : SM := sAsgF [] (gN 2) (mCall m_times (aCons (mC c_HALF) (aCons (mV 6) (aNil))))
def sm_4 : SM := sRetL [] (mLstL (aCons (mCall m_minus (aCons (mC c_NOUGHT) (aCons (mCall m_times (aCons (mV 2) (aCons (mCall m_times (aCons (mV 4) (aCons (mV 4) (aNil)))) (aNil)))) (aNil)))) (aCons (mCall m_times (aCons (mV 6) (aCons (mV 4) (aNil)))) (aCons (mCall m_minus (aCons (mC c_NOUGHT) (aCons (mV 2) (aNil)))) (aNil)))))
theorem sm_eq : b_spread_moment = sSeq sm_0 (sSeq sm_1 (sSeq sm_2 (sSeq sm_3 sm_4))) := rfl
def pc_0 : SM := sAsgF [] (gN 4) (mFrz (mCallL m_places_in (aCons (mV 0) (aCons (mV 1) (aCons (mV 2) (aNil))))))
def pc_1 : SM := sOwn [] 5 (mLstL (aNil))
def pc_2_0 : SM := sAsgF [] (gN 8) (mOp dMul (mFrz (mLstL (aCons (mC c_NOUGHT) (aNil)))) (mC (.int 3)))
def pc_2_1_0 : SM := sIf (mNot (mTru (mCall m_less (aCons (mV 6) (aCons (mV 10) (aNil)))))) (sAsgF [] (gN 8) (mFrz (mLc [13, 14] (mRng zipI (aCons (mV 8) (aCons (mFrz (mCallL m_moment_of (aCons (mV 11) (aCons (mV 10) (aNil))))) (aNil)))) (gTL 2 (gsC (gN 13) (gsC (gN 14) (gsN)))) (tYesM) (mCall m_plus (aCons (mV 13) (aCons (mV 14) (aNil))))))) (sNil)
def pc_2_1_b : SM := pc_2_1_0
def pc_2_1 : SM := sFor [] (gTL 2 (gsC (gN 10) (gsC (gN 11) (gsN)))) (mRng zipI (aCons (mV 1) (aCons (mV 3) (aNil)))) pc_2_1_b
def pc_2_2_0 : SM := sIf (mTst (mOp dEq (mOp dIx (mV 9) (mC (.int 0))) (mC (.str "spread")))) (sAsgF [] (gN 12) (mFrz (mCallL m_spread_moment (aCons (mV 9) (aCons (mV 6) (aNil)))))) (sAsgF [] (gN 12) (mIte (mNot (mTru (mCall m_less (aCons (mV 6) (aCons (mOp dIx (mV 9) (mC (.int 1))) (aNil)))))) (mFrz (mCallL m_moment_of (aCons (mCall m_minus (aCons (mC c_NOUGHT) (aCons (mOp dIx (mV 9) (mC (.int 2))) (aNil)))) (aCons (mOp dIx (mV 9) (mC (.int 1))) (aNil))))) (mOp dMul (mFrz (mLstL (aCons (mC c_NOUGHT) (aNil)))) (mC (.int 3)))))
def pc_2_2_1 : SM := sAsgF [] (gN 8) (mFrz (mLc [13, 14] (mRng zipI (aCons (mV 8) (aCons (mV 12) (aNil)))) (gTL 2 (gsC (gN 13) (gsC (gN 14) (gsN)))) (tYesM) (mCall m_plus (aCons (mV 13) (aCons (mV 14) (aNil))))))
def pc_2_2_b : SM := sSeq pc_2_2_0 pc_2_2_1
def pc_2_2 : SM := sFor [] (gN 9) (mIt itD (mV 2)) pc_2_2_b
def pc_2_3 : SM := sAppF [] 5 (mTup (aCons (mV 6) (aCons (mV 7) (aCons (mV 8) (aNil)))))
def pc_2_b : SM := sSeq pc_2_0 (sSeq pc_2_1 (sSeq pc_2_2 pc_2_3))
def pc_2 : SM := sFor [] (gTL 2 (gsC (gN 6) (gsC (gN 7) (gsN)))) (mRng zipF (aCons (mV 4) (aCons (mSl (mV 4) (oSome (mC (.int 1))) (oNo)) (aNil)))) pc_2_b
def pc_3 : SM := sRetO 5
theorem pc_eq : b_pieces = sSeq pc_0 (sSeq pc_1 (sSeq pc_2 pc_3)) := rfl
def ma_0_0 : SM := sIf (mNot (mTru (mCall m_less (aCons (mV 3) (aCons (mV 1) (aNil)))))) (sRetF [] (mCall m_value_at (aCons (mV 4) (aCons (mV 1) (aNil))))) (sNil)
def ma_0_b : SM := ma_0_0
def ma_0 : SM := sFor [] (gTL 3 (gsC (gN 2) (gsC (gN 3) (gsC (gN 4) (gsN))))) (mIt itD (mV 0)) ma_0_b
def ma_1 : SM := sRetF [] (mC c_NOUGHT)
theorem ma_eq : b_moment_at = sSeq ma_0 ma_1 := rfl
def hi_0 : SM := sAsgF [] (gN 2) (mFrz (mLstL (aCons (mC c_NOUGHT) (aCons (mV 0) (aNil)))))
def hi_1 : SM := sRetL [] (mCallL m_pieces (aCons (mV 0) (aCons (mV 2) (aCons (mV 1) (aCons (mFrz (mCallL m_two_pushes (aCons (mV 0) (aCons (mV 2) (aCons (mV 1) (aNil)))))) (aNil))))))
theorem hi_eq : b_hinged = sSeq hi_0 hi_1 := rfl
def po_0 : SM := sOwn [] 3 (mLstL (aNil))
def po_1_0 : SM := sIf (mTst (mOp dEq (mOp dMod (mCall gInt (aCons (mV 4) (aNil))) (mC (.int 3))) (mC (.int 2)))) (sDrop (mCallP 0 m__law_next (aNil))) (sNil)
def po_1_1 : SM := sAppF [] 3 (mTup (aCons (mC (.str "point")) (aCons (mCallP 0 m__law_part (aCons (mV 1) (aCons (mC (.int 8)) (aNil)))) (aCons (mCall m__law_ratio (aCons (mCallP 0 m__law_draw (aCons (mC (.int 9)) (aNil))) (aCons (mOp dAdd (mC (.int 1)) (mCallP 0 m__law_draw (aCons (mC (.int 3)) (aNil)))) (aNil)))) (aNil)))))
def po_1_b : SM := sSeq po_1_0 po_1_1
def po_1 : SM := sFor [] (gN 4) (mRng rng1 (aCons (mOp dAdd (mC (.int 1)) (mCallP 0 m__law_draw (aCons (mV 2) (aNil)))) (aNil))) po_1_b
def po_2 : SM := sRetO 3
theorem po_eq : b__law_points = sSeq po_0 (sSeq po_1 po_2) := rfl
def ll_0 : SM := sOwn [] 3 (mLstL (aNil))
def ll_1_0 : SM := sIf (mTst (mOp dEq (mOp dMod (mCall gInt (aCons (mV 4) (aNil))) (mC (.int 2))) (mC (.int 1)))) (sDrop (mCallP 0 m__law_next (aNil))) (sNil)
def ll_1_1 : SM := sAsgF [] (gN 5) (mCall m__law_ratio (aCons (mOp dSub (mCallP 0 m__law_draw (aCons (mC (.int 13)) (aNil))) (mC (.int 4))) (aCons (mOp dAdd (mC (.int 1)) (mCallP 0 m__law_draw (aCons (mC (.int 3)) (aNil)))) (aNil))))
def ll_1_2 : SM := sAsgF [] (gN 6) (mCallP 0 m__law_part (aCons (mV 1) (aCons (mC (.int 6)) (aNil))))
def ll_1_3 : SM := sAsgF [] (gN 7) (mCallP 0 m__law_part (aCons (mV 1) (aCons (mC (.int 6)) (aNil))))
def ll_1_4 : SM := sIf (mOr (mTst (mOp dEq (mCallP 0 m__law_draw (aCons (mC (.int 2)) (aNil))) (mC (.int 0)))) (mTst (mOp dEq (mV 6) (mV 7)))) (sAppF [] 3 (mTup (aCons (mC (.str "point")) (aCons (mV 6) (aCons (mV 5) (aNil)))))) (sIf (mTru (mCall m__law_less (aCons (mV 6) (aCons (mV 7) (aNil))))) (sAppF [] 3 (mTup (aCons (mC (.str "spread")) (aCons (mV 6) (aCons (mV 7) (aCons (mV 5) (aNil))))))) (sAppF [] 3 (mTup (aCons (mC (.str "spread")) (aCons (mV 7) (aCons (mV 6) (aCons (mV 5) (aNil))))))))
def ll_1_b : SM := sSeq ll_1_0 (sSeq ll_1_1 (sSeq ll_1_2 (sSeq ll_1_3 ll_1_4)))
def ll_1 : SM := sFor [] (gN 4) (mRng rng1 (aCons (mCallP 0 m__law_draw (aCons (mOp dAdd (mV 2) (mC (.int 1))) (aNil))) (aNil))) ll_1_b
def ll_2 : SM := sRetO 3
theorem ll_eq : b__law_loads = sSeq ll_0 (sSeq ll_1 ll_2) := rfl
def vf_0 : SM := sIf (mTst (mOp dEq (mOp dIx (mV 0) (mC (.int 0))) (mC (.str "point")))) (sRetF [] (mOp dIx (mV 0) (mC (.int 2)))) (sNil)
def vf_1 : SM := sRetF [] (mCall m__law_mul (aCons (mOp dIx (mV 0) (mC (.int 3))) (aCons (mCall m__law_sub (aCons (mOp dIx (mV 0) (mC (.int 2))) (aCons (mOp dIx (mV 0) (mC (.int 1))) (aNil)))) (aNil))))
theorem vf_eq : b__law_force = sSeq vf_0 vf_1 := rfl
def vs_0 : SM := sAsgF [] (gN 1) (mTup (aCons (mC (.int 0)) (aCons (mC (.int 1)) (aNil))))
def vs_1_0 : SM := sAsgF [] (gN 1) (mCall m__law_add (aCons (mV 1) (aCons (mV 2) (aNil))))
def vs_1_b : SM := vs_1_0
def vs_1 : SM := sFor [] (gN 2) (mIt itD (mV 0)) vs_1_b
def vs_2 : SM := sRetF [] (mV 1)
theorem vs_eq : b__law_totalB = sSeq vs_0 (sSeq vs_1 vs_2) := rfl
def vp_0 : SM := sAsgF [] (gN 2) (mTup (aCons (mC (.int 0)) (aCons (mC (.int 1)) (aNil))))
def vp_1_0 : SM := sAsgF [] (gN 5) (mIte (mTst (mOp dEq (mOp dIx (mV 3) (mC (.int 0))) (mC (.str "point")))) (mOp dIx (mV 3) (mC (.int 1))) (mCall m__law_mul (aCons (mTup (aCons (mC (.int 1)) (aCons (mC (.int 2)) (aNil)))) (aCons (mCall m__law_add (aCons (mOp dIx (mV 3) (mC (.int 1))) (aCons (mOp dIx (mV 3) (mC (.int 2))) (aNil)))) (aNil)))))
def vp_1_1 : SM := sAsgF [] (gN 2) (mCall m__law_add (aCons (mV 2) (aCons (mCall m__law_mul (aCons (mCall m__law_force (aCons (mV 3) (aNil))) (aCons (mV 5) (aNil)))) (aNil))))
def vp_1_b : SM := sSeq vp_1_0 vp_1_1
def vp_1 : SM := sFor [] (gN 3) (mIt itD (mV 1)) vp_1_b
def vp_2 : SM := sAsgF [] (gN 4) (mCall m__law_div (aCons (mV 2) (aCons (mV 0) (aNil))))
def vp_3 : SM := sRetL [] (mLstL (aCons (mCall m__law_sub (aCons (mCall m__law_totalB (aCons (mFrz (mLc [3] (mIt itD (mV 1)) (gN 3) (tYesM) (mCall m__law_force (aCons (mV 3) (aNil))))) (aNil))) (aCons (mV 4) (aNil)))) (aCons (mV 4) (aNil))))
theorem vp_eq : b__law_simple = sSeq vp_0 (sSeq vp_1 (sSeq vp_2 vp_3)) := rfl
def vt_0 : SM := sIf (mTst (mOp dEq (mOp dIx (mV 0) (mC (.int 0))) (mC (.str "point")))) (sRetF [] (mIte (mNot (mTru (mCall m__law_less (aCons (mV 1) (aCons (mOp dIx (mV 0) (mC (.int 1))) (aNil)))))) (mCall m__law_mul (aCons (mOp dIx (mV 0) (mC (.int 2))) (aCons (mCall m__law_sub (aCons (mV 1) (aCons (mOp dIx (mV 0) (mC (.int 1))) (aNil)))) (aNil)))) (mTup (aCons (mC (.int 0)) (aCons (mC (.int 1)) (aNil)))))) (sNil)
def vt_1 : SM := sPar [] 4 5 (aCons (mOp dIx (mV 0) (mC (.int 1))) (aCons (mOp dIx (mV 0) (mC (.int 2))) (aNil)))
def vt_2 : SM := sIf (mTru (mCall m__law_less (aCons (mV 1) (aCons (mV 4) (aNil))))) (sRetF [] (mTup (aCons (mC (.int 0)) (aCons (mC (.int 1)) (aNil))))) (sNil)
def vt_3 : SM := sAsgF [] (gN 2) (mIte (mTru (mCall m__law_less (aCons (mV 1) (aCons (mV 5) (aNil))))) (mV 1) (mV 5))
def vt_4 : SM := sAsgF [] (gN 3) (mCall m__law_mul (aCons (mTup (aCons (mC (.int 1)) (aCons (mC (.int 2)) (aNil)))) (aCons (mCall m__law_add (aCons (mV 4) (aCons (mV 2) (aNil)))) (aNil))))
def vt_5 : SM := sRetF [] (mCall m__law_mul (aCons (mCall m__law_mul (aCons (mOp dIx (mV 0) (mC (.int 3))) (aCons (mCall m__law_sub (aCons (mV 2) (aCons (mV 4) (aNil)))) (aNil)))) (aCons (mCall m__law_sub (aCons (mV 1) (aCons (mV 3) (aNil)))) (aNil))))
theorem vt_eq : b__law_turning = sSeq vt_0 (sSeq vt_1 (sSeq vt_2 (sSeq vt_3 (sSeq vt_4 vt_5)))) := rfl
def vm_0 : SM := sAsgF [] (gN 4) (mTup (aCons (mC (.int 0)) (aCons (mC (.int 1)) (aNil))))
def vm_1_0 : SM := sIf (mNot (mTru (mCall m__law_less (aCons (mV 3) (aCons (mOp dIx (mV 0) (mV 5)) (aNil)))))) (sAsgF [] (gN 4) (mCall m__law_add (aCons (mV 4) (aCons (mCall m__law_mul (aCons (mOp dIx (mV 2) (mV 5)) (aCons (mCall m__law_sub (aCons (mV 3) (aCons (mOp dIx (mV 0) (mV 5)) (aNil)))) (aNil)))) (aNil))))) (sNil)
def vm_1_b : SM := vm_1_0
def vm_1 : SM := sFor [] (gN 5) (mRng rng1 (aCons (mCall gLen (aCons (mV 0) (aNil))) (aNil))) vm_1_b
def vm_2_0 : SM := sAsgF [] (gN 4) (mCall m__law_sub (aCons (mV 4) (aCons (mCall m__law_turning (aCons (mV 6) (aCons (mV 3) (aNil)))) (aNil))))
def vm_2_b : SM := vm_2_0
def vm_2 : SM := sFor [] (gN 6) (mIt itD (mV 1)) vm_2_b
def vm_3 : SM := sRetF [] (mV 4)
theorem vm_eq : b__law_moment = sSeq vm_0 (sSeq vm_1 (sSeq vm_2 vm_3)) := rfl
def vb_0 : SM := sOwn [] 3 (mOpL catL (mFrz (mLstL (aCons (mTup (aCons (mC (.int 0)) (aCons (mC (.int 1)) (aNil)))) (aCons (mV 0) (aNil))))) (mV 1))
def vb_1_0 : SM := sAppF [] 3 (mOp dIx (mV 4) (mC (.int 1)))
def vb_1_1 : SM := sIf (mTst (mOp dEq (mOp dIx (mV 4) (mC (.int 0))) (mC (.str "spread")))) (sAppF [] 3 (mOp dIx (mV 4) (mC (.int 2)))) (sNil)
def vb_1_b : SM := sSeq vb_1_0 vb_1_1
def vb_1 : SM := sFor [] (gN 4) (mIt itD (mV 2)) vb_1_b
def vb_2 : SM := sAsgF [] (gN 5) (mFrz (mLstL (aNil)))
def vb_3_0 : SM := sAsgF [] (gN 7) (mCall gLen (aCons (mFrz (mLc [8] (mIt itD (mV 5)) (gN 8) (mTru (mCall m__law_less (aCons (mV 8) (aCons (mV 6) (aNil))))) (mV 8))) (aNil)))
def vb_3_1 : SM := sIf (mTst (mOp dNotIn (mV 6) (mV 5))) (sAsgF [] (gN 5) (mOp dAdd (mOp dAdd (mSl (mV 5) (oNo) (oSome (mV 7))) (mFrz (mLstL (aCons (mV 6) (aNil))))) (mSl (mV 5) (oSome (mV 7)) (oNo)))) (sNil)
def vb_3_b : SM := sSeq vb_3_0 vb_3_1
def vb_3 : SM := sFor [3] (gN 6) (mIt itD (mV 3)) vb_3_b
def vb_4 : SM := sRetF [] (mV 5)
theorem vb_eq : b__law_breaks = sSeq vb_0 (sSeq vb_1 (sSeq vb_2 (sSeq vb_3 vb_4))) := rfl

abbrev plS (x : Str) : Bool := x.cps.all (· < 0x110000)
theorem plP : plS "point" = true := by decide +kernel
theorem plQ : plS "spread" = true := by decide +kernel
theorem ePP : dEq (.str "point") (.str "point") = some (.bl true) := by
  unfold dEq
  have h := plP
  have q : (("point" : Str) == ("point" : Str)) = true := by decide +kernel
  simp only [fl_str, h, Bool.and_true, if_true, eqd, q]
theorem eSS : dEq (.str "spread") (.str "spread") = some (.bl true) := by
  unfold dEq
  have h := plQ
  have q : (("spread" : Str) == ("spread" : Str)) = true := by decide +kernel
  simp only [fl_str, h, Bool.and_true, if_true, eqd, q]
theorem eSP : dEq (.str "spread") (.str "point") = some (.bl false) := by
  unfold dEq
  have h := plP
  have h2 := plQ
  have q : (("spread" : Str) == ("point" : Str)) = false := by decide +kernel
  simp only [fl_str, h, h2, Bool.and_true, if_true, eqd, q]
theorem ePS : dEq (.str "point") (.str "spread") = some (.bl false) := by
  unfold dEq
  have h := plP
  have h2 := plQ
  have q : (("point" : Str) == ("spread" : Str)) = false := by decide +kernel
  simp only [fl_str, h, h2, Bool.and_true, if_true, eqd, q]
theorem frac_rD {p q : Int} (hq : q ≠ 0) (d : D) (h : D.tup [.int ((if q < 0 then -p else p) / (Nat.gcd p.natAbs q.natAbs : Nat)), .int ((if q < 0 then -q else q) / (Nat.gcd p.natAbs q.natAbs : Nat))] = d) : d = rD ((p : Rat) / (q : Rat)) := by
  rw [← h, frac_core hq]
theorem r12 : D.tup [.int 1, .int 2] = rD (1 / 2) := frac_rD (p := 1) (q := 2) (by decide) _ (by rfl)
theorem half : c_HALF = rD (1 / 2) := r12
theorem one : D.tup [.int 1, .int 1] = rD 1 := rfl
theorem unit : c_UNIT = rD 1 := rfl
theorem sm1 : Sm 1 (1 : Rat) := Sm.int (z := 1) (by decide) (by decide)
theorem smh : Sm 2 (1 / 2 : Rat) := sm_div (p := 1) (q := 2) (by decide) (by decide) (by decide)
theorem inh : In 2 1 (1 / 2 : Rat) := ⟨by decide, 1, rfl, by decide⟩
theorem po_sm {r : Rat} (h : Po r) : Sm 20 r := In.sm h (by decide) (by decide)
theorem fo_sm {r : Rat} (h : Fo r) : Sm 6 r := In.sm h (by decide) (by decide)
theorem w_in {L : Rat} {l : Ld} (h : l.G L) : In 18144 27 l.w := by
  cases l with
  | pt x f => exact (In.up h.2.1 (M := 3024) (m := 12) (by decide) (by decide) (by decide)).mono (by decide)
  | sp a b f => exact (In.mul h.2.2.1 (In.sub h.2.1 h.1)).mono (by decide)
theorem m_in {L : Rat} {l : Ld} (h : l.G L) : In 6048 22 l.m := by
  cases l with
  | pt x f => exact (In.up h.1 (M := 2) (m := 1) (by decide) (by decide) (by decide)).mono (by decide)
  | sp a b f => exact (In.mul inh (In.add h.1 h.2.1)).mono (by decide)
theorem w_sm {L : Rat} {l : Ld} (h : l.G L) : Sm 27 l.w := (w_in h).sm (by decide) (by decide)
theorem m_sm {L : Rat} {l : Ld} (h : l.G L) : Sm 22 l.m := (m_in h).sm (by decide) (by decide)
theorem wh_ok {L : Rat} {l : Ld} (h : l.G L) : m_whole_of [l.d] = some (.tup [rD l.w, rD l.m]) := by
  unfold m_whole_of
  rw [wh_eq]
  cases l with
  | pt x f => simp [x_runF, wh_0, Ld.d, Ld.w, Ld.m, ePP]
  | sp a b f =>
    have sa := po_sm h.1
    have sb := po_sm h.2.1
    have sf := fo_sm h.2.2.1
    have t1 := minus_ok (sb.mono (by omega)) (sa.mono (by omega : 20 ≤ 4000))
    have t2 := times_ok (sf.mono (by omega)) ((sb.sub sa).mono (by omega : _ ≤ 4000))
    have t3 := plus_ok (sa.mono (by omega)) (sb.mono (by omega : 20 ≤ 4000))
    have t4 := times_ok (smh.mono (by omega)) ((sa.add sb).mono (by omega : _ ≤ 4000))
    simp [x_runF, wh_0, wh_1, Ld.d, Ld.w, Ld.m, eSP, half, t1, t2, t3, t4]
/-! the value of a polynomial -/
def horn (x a : Rat) (cs : List Rat) : Rat := cs.foldl (fun a c => a * x + c) a
theorem horn_sm {m n : Nat} {x : Rat} (sx : Sm m x) : ∀ (cs : List Rat) (a : Rat) (k : Nat), Sm k a → (∀ c ∈ cs, Sm n c) → Sm (k + cs.length * (m + n + 1)) (horn x a cs)
  | [], a, k, h, _ => by simpa [horn] using h
  | c :: cs, a, k, h, hc => by
    have := horn_sm sx cs _ _ ((h.mul sx).add (hc c List.mem_cons_self)) fun y hy => hc y (List.mem_cons_of_mem _ hy)
    rw [List.length_cons, Nat.succ_mul]
    exact this.mono (by omega)
theorem va_turns (l : D) {m n : Nat} {x : Rat} (sx : Sm m x) (hm : m ≤ 4000) (hn : n ≤ 4000) : ∀ (cs : List Rat) (a : Rat) (k : Nat) (z : Sl), Sm k a → (∀ c ∈ cs, Sm n c) → k + cs.length * (m + n + 1) ≤ 4000 →
    ∃ y, forL (gN 3) va_1_b (cs.map rD) [.val l, .val (rD x), .val (rD a), z] none = some (.nx [.val l, .val (rD x), .val (rD (horn x a cs)), y] none)
  | [], a, k, z, _, _, _ => ⟨z, rfl⟩
  | c :: cs, a, k, z, ha, hc, hk => by
    rw [List.length_cons, Nat.succ_mul] at hk
    have sc := hc c List.mem_cons_self
    have t1 := times_ok (ha.mono (by omega)) (sx.mono hm)
    have t2 := plus_ok ((ha.mul sx).mono (by omega)) (sc.mono hn)
    obtain ⟨y, e⟩ := va_turns l sx hm hn cs (a * x + c) (k + m + n + 1) (.val (rD c)) ((ha.mul sx).add sc) (fun y hy => hc y (List.mem_cons_of_mem _ hy)) (by omega)
    refine ⟨y, ?_⟩
    have k0 : va_1_b [.val l, .val (rD x), .val (rD a), .val (rD c)] none = some (.nx [.val l, .val (rD x), .val (rD (a * x + c)), .val (rD c)] none) := by simp [va_1_b, va_1_0, t1, t2]
    rw [List.map_cons, x_forC, x_gN]
    simp only [Option.bind_some, List.set_cons_succ, List.set_cons_zero]
    rw [k0, x_afN, e]; rfl
theorem va_okL {m n : Nat} {x : Rat} (sx : Sm m x) (hm : m ≤ 4000) (hn : n ≤ 4000) (cs : List Rat) (hc : ∀ c ∈ cs, Sm n c) (hk : 1 + cs.length * (m + n + 1) ≤ 4000) : m_value_at [.lst (cs.map rD), rD x] = some (rD (horn x 0 cs.reverse)) := by
  obtain ⟨y, e⟩ := va_turns (.lst (cs.map rD)) sx hm hn cs.reverse 0 1 .un (Sm.zero (by decide)) (fun c h => hc c (List.mem_reverse.mp h)) (by rw [List.length_reverse]; exact hk)
  unfold m_value_at
  rw [va_eq]
  simp only [x_runF, e0c, e0n, e00]
  have k0 : va_0 [.val (.lst (cs.map rD)), .val (rD x), .un, .un] none = some (.nx [.val (.lst (cs.map rD)), .val (rD x), .val (rD 0), .un] none) := by simp [va_0, nought]
  have ki : mIt itD (mFrz (mRevL (mV 0))) (vw [] [.val (.lst (cs.map rD)), .val (rD x), .val (rD 0), .un]) none = some (cs.reverse.map rD, none) := by simp
  rw [x_sSeq, k0, x_nxN, x_sSeq]
  unfold va_1
  rw [x_sFor, ki]
  simp only [Option.bind_some, x_frz0]
  rw [e, x_nxN]
  simp [va_2]
abbrev p3L (c : P3) : List D := [rD c.1, rD c.2.1, rD c.2.2]
/-- three fractions -/
def S3 (n : Nat) (c : P3) : Prop := Sm n c.1 ∧ Sm n c.2.1 ∧ Sm n c.2.2
theorem va_ok {m n : Nat} {x : Rat} {c : P3} (sx : Sm m x) (sc : S3 n c) (hk : m + n ≤ 1000) : m_value_at [.lst (p3L c), rD x] = some (rD (pev c x)) := va_okL (m := m) (n := n) sx (by omega) (by omega) [c.1, c.2.1, c.2.2] (by
  intro z hz
  simp only [List.mem_cons, List.not_mem_nil, or_false] at hz
  rcases hz with rfl | rfl | rfl
  · exact sc.1
  · exact sc.2.1
  · exact sc.2.2) (by simp only [List.length_cons, List.length_nil]; omega)
theorem pev_sm {m n : Nat} {x : Rat} {c : P3} (sx : Sm m x) (sc : S3 n c) : Sm (1 + 3 * (m + n + 1)) (pev c x) := horn_sm (n := n) sx [c.2.2, c.2.1, c.1] 0 1 (Sm.zero (by decide)) (by
  intro z hz
  simp only [List.mem_cons, List.not_mem_nil, or_false] at hz
  rcases hz with rfl | rfl | rfl
  · exact sc.2.2
  · exact sc.2.1
  · exact sc.1)
theorem mo_ok {m n : Nat} {f y : Rat} (sf : Sm m f) (sy : Sm n y) (h : m + n ≤ 3900) : m_moment_of [rD f, rD y] = some (p3L (momP f y)) := by
  have t1 := times_ok (sf.mono (by omega)) (sy.mono (by omega : n ≤ 4000))
  have t2 := minus_ok (Sm.zero (by decide) : Ok 0) ((sf.mul sy).mono (by omega))
  unfold m_moment_of
  rw [mo_eq]
  simp [x_runL, mo_0, nought, t1, t2, momP]
theorem rep3 : mOp dMul (mFrz (mLstL (aCons (mC c_NOUGHT) (aNil)))) (mC (.int 3)) = fun E pl => some (.lst (p3L (0, 0, 0)), pl) := by
  funext E pl
  simp [nought]
  rfl
theorem sm_ok {L u a b f : Rat} (h : (Ld.sp a b f).G L) (su : Sm 20 u) : m_spread_moment [(Ld.sp a b f).d, rD u] = some (p3L ((Ld.sp a b f).c u)) := by
  have ew := wh_ok h
  have sw := w_sm h
  have sm := m_sm h
  have sa := po_sm h.1
  have sb := po_sm h.2.1
  have sf := fo_sm h.2.2.1
  have t1 := less_ok (su.mono (by omega)) (sa.mono (by omega : 20 ≤ 4000))
  have t2 := less_ok (su.mono (by omega)) (sb.mono (by omega : 20 ≤ 4000))
  have t3 := times_ok (smh.mono (by omega)) (sf.mono (by omega : 6 ≤ 4000))
  have t4 := times_ok (sa.mono (by omega)) (sa.mono (by omega : 20 ≤ 4000))
  have t5 := times_ok ((smh.mul sf).mono (by omega)) ((sa.mul sa).mono (by omega : _ ≤ 4000))
  have t6 := minus_ok (Sm.zero (by decide) : Ok 0) (((smh.mul sf).mul (sa.mul sa)).mono (by omega))
  have t7 := times_ok (sf.mono (by omega)) (sa.mono (by omega : 20 ≤ 4000))
  have t8 := minus_ok (Sm.zero (by decide) : Ok 0) ((smh.mul sf).mono (by omega))
  have t9 := minus_ok (Sm.zero (by decide) : Ok 0) (sw.mono (by omega))
  have t10 := mo_ok ((Sm.zero (n := 1) (by decide)).sub sw) sm (by omega)
  unfold m_spread_moment
  rw [sm_eq]
  simp only [x_runL, e0c, e0n, e00]
  have k0 : sm_0 [.val (Ld.sp a b f).d, .val (rD u), .un, .un, .un, .un, .un, .un, .un] none = some (.nx [.val (Ld.sp a b f).d, .val (rD u), .un, .val (.str "spread"), .val (rD a), .val (rD b), .val (rD f), .un, .un] none) := by simp [sm_0, Ld.d]
  rw [x_sSeq, k0, x_nxN]
  simp only [Ld.w, Ld.m] at ew t9 t10
  generalize (Ld.sp a b f).d = d at *
  unfold Ld.c
  by_cases g : u < a
  · rw [decide_eq_true g] at t1
    simp only [if_pos g]
    simp [sm_1, t1, nought]
    rfl
  · rw [decide_eq_false g] at t1
    simp only [if_neg g]
    have k1 : sm_1 [.val d, .val (rD u), .un, .val (.str "spread"), .val (rD a), .val (rD b), .val (rD f), .un, .un] none = some (.nx [.val d, .val (rD u), .un, .val (.str "spread"), .val (rD a), .val (rD b), .val (rD f), .un, .un] none) := by simp [sm_1, t1]
    rw [x_sSeq, k1, x_nxN]
    by_cases g2 : u < b
    · rw [decide_eq_true g2] at t2
      simp only [if_pos g2]
      simp [sm_2, sm_3, sm_4, t2, half, nought, t3, t4, t5, t6, t7, t8]
    · rw [decide_eq_false g2] at t2
      simp only [if_neg g2]
      simp [sm_2, t2, ew, nought, t9, t10]
/-! the pushes -/
def pu1 (s0 s1 : Rat) (ls : List Ld) : Rat := sumR 0 (ls.map fun l => l.w * (l.m - s0)) / (s1 - s0)
def pu0 (s0 s1 : Rat) (ls : List Ld) : Rat := sumR 0 (ls.map Ld.w) - pu1 s0 s1 ls
theorem pu_in {L s0 s1 : Rat} {ls : List Ld} (h0 : Po s0) (h1 : Po s1) (hne : s0 ≠ s1) (hg : ∀ l ∈ ls, l.G L) (hl : ls.length ≤ 15) : ∃ W, 0 < W ∧ W < 2 ^ 21 ∧ In (18144 * 6048 * W) 67 (pu0 s0 s1 ls) ∧ In (18144 * 6048 * W) 67 (pu1 s0 s1 ls) := by
  obtain ⟨W, w0, w1, hd⟩ := In.div (In.sub h1 h0) (by grind) (m := 12) (by decide)
  have hw : In 18144 31 (sumR 0 (ls.map Ld.w)) := in_sum16 (fun r hr => by
    obtain ⟨l, hl, rfl⟩ := List.mem_map.mp hr
    exact w_in (hg l hl)) (by decide) (by rw [List.length_map]; exact hl)
  have hm : In (18144 * 6048) 54 (sumR 0 (ls.map fun l => l.w * (l.m - s0))) := in_sum16 (fun r hr => by
    obtain ⟨l, hl, rfl⟩ := List.mem_map.mp hr
    have s : In 6048 22 s0 := (In.up h0 (M := 2) (m := 1) (by decide) (by decide) (by decide)).mono (by decide)
    exact (In.mul (w_in (hg l hl)) (In.sub (m_in (hg l hl)) s)).mono (by decide)) (by decide) (by rw [List.length_map]; exact hl)
  have p1 : In (18144 * 6048 * W) 66 (pu1 s0 s1 ls) := hd hm
  refine ⟨W, w0, w1, ?_, p1.mono (by decide)⟩
  have hw2 : In (18144 * 6048 * W) 66 (sumR 0 (ls.map Ld.w)) := (In.up hw (M := 6048 * W) (m := 34) (by omega) (by omega) (by omega)).mono (by decide)
  exact In.sub hw2 p1
abbrev LL (ls : List Ld) : D := .lst (ls.map Ld.d)
theorem lens {α : Type} {ls : List α} {n : Nat} (h : ls.length ≤ n) (hn : n ≤ 1000000) : sized ls.length = true := x_sized (by omega)
theorem tp_ok {L s0 s1 : Rat} {ls : List Ld} (d : D) (h0 : Po s0) (h1 : Po s1) (hne : s0 ≠ s1) (hg : ∀ l ∈ ls, l.G L) (hl : ls.length ≤ 15) : m_two_pushes [d, .lst [rD s0, rD s1], LL ls] = some [rD (pu0 s0 s1 ls), rD (pu1 s0 s1 ls)] := by
  have zl := lens hl (by decide)
  have c1 : lcL (gN 8) tYesM (mCall m_whole_of (aCons (mV 8) (aNil))) [.val d, .val (.lst [rD s0, rD s1]), .val (LL ls), .un, .un, .un, .val (rD s0), .val (rD s1), .un, .un, .un, .un] (ls.map Ld.d) none = some (ls.map (fun l => D.tup [rD l.w, rD l.m]), none) :=
    lc_map _ _ Ld.d _ ls fun l hl => ⟨_, rfl, by simp [wh_ok (hg l hl)]⟩
  have c2 : lcL (gTL 2 (gsC (gN 9) (gsC (gN 10) (gsN)))) tYesM (mCall m_times (aCons (mV 9) (aCons (mCall m_minus (aCons (mV 10) (aCons (mV 6) (aNil)))) (aNil)))) [.val d, .val (.lst [rD s0, rD s1]), .val (LL ls), .val (.lst (ls.map fun l => D.tup [rD l.w, rD l.m])), .un, .un, .val (rD s0), .val (rD s1), .un, .un, .un, .un] (ls.map fun l => D.tup [rD l.w, rD l.m]) none = some (ls.map (fun l => rD (l.w * (l.m - s0))), none) :=
    lc_map _ _ (fun l => D.tup [rD l.w, rD l.m]) _ ls fun l hl => ⟨_, rfl, by
      have sw := w_sm (hg l hl)
      have sm := m_sm (hg l hl)
      have t1 := minus_ok (sm.mono (by omega)) ((po_sm h0).mono (by omega : 20 ≤ 4000))
      have t2 := times_ok (sw.mono (by omega)) ((sm.sub (po_sm h0)).mono (by omega : _ ≤ 4000))
      simp [t1, t2]⟩
  have c3 : ∀ x : Sl, ∀ y : Sl, lcL (gTL 2 (gsC (gN 9) (gsC (gN 11) (gsN)))) tYesM (mV 9) [.val d, .val (.lst [rD s0, rD s1]), .val (LL ls), .val (.lst (ls.map fun l => D.tup [rD l.w, rD l.m])), x, y, .val (rD s0), .val (rD s1), .un, .un, .un, .un] (ls.map fun l => D.tup [rD l.w, rD l.m]) none = some (ls.map (fun l => rD l.w), none) := fun x y =>
    lc_map _ _ (fun l => D.tup [rD l.w, rD l.m]) _ ls fun l hl => ⟨_, rfl, by simp⟩
  have hw := fun r (hr : r ∈ ls.map Ld.w) => (by
    obtain ⟨l, hl, rfl⟩ := List.mem_map.mp hr
    exact w_in (hg l hl) : In 18144 27 r)
  have hm := fun r (hr : r ∈ ls.map fun l => l.w * (l.m - s0)) => (by
    obtain ⟨l, hl, rfl⟩ := List.mem_map.mp hr
    have s : In 6048 22 s0 := (In.up h0 (M := 2) (m := 1) (by decide) (by decide) (by decide)).mono (by decide)
    exact (In.mul (w_in (hg l hl)) (In.sub (m_in (hg l hl)) s)).mono (by decide) : In (18144 * 6048) 50 r)
  have n1 : (18144 : Nat) < 2 ^ 4000 := Nat.lt_of_lt_of_le (show 18144 < 2 ^ 20 by decide) (Nat.pow_le_pow_right (by decide) (by decide))
  have n2 : (18144 * 6048 : Nat) < 2 ^ 4000 := Nat.lt_of_lt_of_le (show 18144 * 6048 < 2 ^ 40 by decide) (Nat.pow_le_pow_right (by decide) (by decide))
  have e1 := sum_okS (ls.map Ld.w) (in_oks16 hw (by decide) n1 (by rw [List.length_map]; exact hl) (by decide))
  have e2 := sum_okS (ls.map fun l => l.w * (l.m - s0)) (in_oks16 hm (by decide) n2 (by rw [List.length_map]; exact hl) (by decide))
  have s1' : Sm 31 (sumR 0 (ls.map Ld.w)) := (in_sum16 hw (by decide) (by rw [List.length_map]; exact hl)).sm (by decide) (by decide)
  have s2' : Sm 54 (sumR 0 (ls.map fun l => l.w * (l.m - s0))) := (in_sum16 hm (by decide) (by rw [List.length_map]; exact hl)).sm (by decide) (by decide)
  have t1 := minus_ok ((po_sm h1).mono (by omega)) ((po_sm h0).mono (by omega : 20 ≤ 4000))
  have sd := (po_sm h1).sub (po_sm h0)
  have nd : s1 - s0 ≠ 0 := by grind
  have t2 := over_ok (s2'.mono (by omega)) (sd.mono (by omega : _ ≤ 4000)) nd
  have t3 := minus_ok (s1'.mono (by omega)) ((s2'.div sd nd).mono (by omega : _ ≤ 4000))
  simp only [List.map_map, Function.comp_def] at e1 e2
  unfold m_two_pushes
  rw [tp_eq]
  simp only [x_runL, e0c, e0n, e00]
  have k0 : tp_0 [.val d, .val (.lst [rD s0, rD s1]), .val (LL ls), .un, .un, .un, .un, .un, .un, .un, .un, .un] none = some (.nx [.val d, .val (.lst [rD s0, rD s1]), .val (LL ls), .un, .un, .un, .val (rD s0), .val (rD s1), .un, .un, .un, .un] none) := by simp [tp_0]
  have k1 : tp_1 [.val d, .val (.lst [rD s0, rD s1]), .val (LL ls), .un, .un, .un, .val (rD s0), .val (rD s1), .un, .un, .un, .un] none = some (.nx [.val d, .val (.lst [rD s0, rD s1]), .val (LL ls), .val (.lst (ls.map fun l => D.tup [rD l.w, rD l.m])), .un, .un, .val (rD s0), .val (rD s1), .un, .un, .un, .un] none) := by simp [tp_1, zl, c1]
  have k2 : tp_2 [.val d, .val (.lst [rD s0, rD s1]), .val (LL ls), .val (.lst (ls.map fun l => D.tup [rD l.w, rD l.m])), .un, .un, .val (rD s0), .val (rD s1), .un, .un, .un, .un] none = some (.nx [.val d, .val (.lst [rD s0, rD s1]), .val (LL ls), .val (.lst (ls.map fun l => D.tup [rD l.w, rD l.m])), .val (rD (sumR 0 (ls.map fun l => l.w * (l.m - s0)))), .un, .val (rD s0), .val (rD s1), .un, .un, .un, .un] none) := by simp [tp_2, zl, c2, e2]
  have k3 : tp_3 [.val d, .val (.lst [rD s0, rD s1]), .val (LL ls), .val (.lst (ls.map fun l => D.tup [rD l.w, rD l.m])), .val (rD (sumR 0 (ls.map fun l => l.w * (l.m - s0)))), .un, .val (rD s0), .val (rD s1), .un, .un, .un, .un] none = some (.nx [.val d, .val (.lst [rD s0, rD s1]), .val (LL ls), .val (.lst (ls.map fun l => D.tup [rD l.w, rD l.m])), .val (rD (sumR 0 (ls.map fun l => l.w * (l.m - s0)))), .val (rD (pu1 s0 s1 ls)), .val (rD s0), .val (rD s1), .un, .un, .un, .un] none) := by simp [tp_3, t1, t2, pu1]
  rw [x_sSeq, k0, x_nxN, x_sSeq, k1, x_nxN, x_sSeq, k2, x_nxN, x_sSeq, k3, x_nxN]
  have t3' : m_minus [rD (sumR 0 (ls.map Ld.w)), rD (pu1 s0 s1 ls)] = some (rD (pu0 s0 s1 ls)) := t3
  simp [tp_4, zl, c3, e1, t3']
end Bm
end Lw
set_option Elab.async false
set_option linter.all false
set_option maxRecDepth 100000
set_option maxHeartbeats 4000000
/-! rows of numbers, brought to leads: plain facts -/
namespace Rw
/-- f 0 + .. + f (n - 1) -/
def sg : Nat → (Nat → Rat) → Rat
  | 0, _ => 0
  | n + 1, f => sg n f + f n
theorem sg_congr {n : Nat} {f g : Nat → Rat} (h : ∀ j, j < n → f j = g j) : sg n f = sg n g := by
  induction n with
  | zero => rfl
  | succ n ih => simp only [sg]; rw [ih fun j hj => h j (by omega), h n (by omega)]
theorem sg_zero {n : Nat} {f : Nat → Rat} (h : ∀ j, j < n → f j = 0) : sg n f = 0 := by
  induction n with
  | zero => rfl
  | succ n ih => simp only [sg]; rw [ih fun j hj => h j (by omega), h n (by omega)]; grind
theorem sg_add (n : Nat) (f g : Nat → Rat) : sg n (fun j => f j + g j) = sg n f + sg n g := by
  induction n with
  | zero => simp only [sg]; grind
  | succ n ih => simp only [sg]; rw [ih]; grind
theorem sg_mul (n : Nat) (a : Rat) (f : Nat → Rat) : sg n (fun j => a * f j) = a * sg n f := by
  induction n with
  | zero => simp only [sg]; grind
  | succ n ih => simp only [sg]; rw [ih]; grind
theorem sg_sub (n : Nat) (f g : Nat → Rat) : sg n (fun j => f j - g j) = sg n f - sg n g := by
  induction n with
  | zero => simp only [sg]; grind
  | succ n ih => simp only [sg]; rw [ih]; grind
theorem sg_one {n c : Nat} (hc : c < n) {f : Nat → Rat} (h : ∀ j, j < n → j ≠ c → f j = 0) : sg n f = f c := by
  induction n with
  | zero => omega
  | succ n ih =>
    simp only [sg]
    by_cases e : c = n
    · subst e
      rw [sg_zero fun j hj => h j (by omega) (by omega)]; grind
    · rw [ih (by omega) fun j hj => h j (by omega), h n (by omega) (by omega)]; grind
theorem sg_comm (n m : Nat) (f : Nat → Nat → Rat) : sg n (fun i => sg m fun j => f i j) = sg m fun j => sg n fun i => f i j := by
  induction n with
  | zero => simp only [sg]; exact (sg_zero fun _ _ => rfl).symm
  | succ n ih => simp only [sg]; rw [ih, sg_add]
theorem sg_split (n m : Nat) (f : Nat → Rat) : sg (n + m) f = sg n f + sg m fun j => f (n + j) := by
  induction m with
  | zero => simp only [sg]; grind
  | succ m ih => rw [← Nat.add_assoc]; simp only [sg]; rw [ih]; grind
/-- a row by a vector -/
abbrev dt (W : Nat) (r v : Nat → Rat) : Rat := sg W fun j => r j * v j
theorem dt_lin (W : Nat) (r s v : Nat → Rat) (a : Rat) : dt W (fun j => r j - a * s j) v = dt W r v - a * dt W s v := by
  unfold dt
  rw [← sg_mul, ← sg_sub]
  exact sg_congr fun j _ => by grind
theorem dt_div (W : Nat) (r v : Nat → Rat) (a : Rat) : dt W (fun j => r j / a) v = dt W r v / a := by
  unfold dt
  have : dt W r v / a = a⁻¹ * dt W r v := by rw [Rat.div_def, Rat.mul_comm]
  rw [this, ← sg_mul]
  exact sg_congr fun j _ => by dsimp only; rw [Rat.div_def]; grind
abbrev Mat := Nat → Nat → Rat
def swp (F : Mat) (h k : Nat) : Mat := fun i => if i = h then F k else if i = k then F h else F i
/-- the row h at the place c is made 1, the others 0 -/
def elim (F : Mat) (h c : Nat) : Mat := fun i j => if i = h then F h j / F h c else F i j - F i c * (F h j / F h c)
/-- those below the row h are made 0 at c -/
def elow (F : Mat) (h c : Nat) : Mat := fun i j => if h < i then F i j - F i c / F h c * F h j else F i j
def first (p : Nat → Bool) : Nat → Nat → Option Nat
  | _, 0 => none
  | h, n + 1 => if p h then some h else first p (h + 1) n
theorem first_some {p : Nat → Bool} : ∀ {n h k : Nat}, first p h n = some k → h ≤ k ∧ k < h + n ∧ p k = true ∧ ∀ i, h ≤ i → i < k → p i = false
  | 0, h, k, e => by cases e
  | n + 1, h, k, e => by
    unfold first at e
    cases q : p h with
    | true =>
      rw [q, if_pos rfl] at e; cases e
      exact ⟨by omega, by omega, q, fun i a b => by omega⟩
    | false =>
      rw [q, if_neg (by decide)] at e
      obtain ⟨a, b, c, d⟩ := first_some e
      refine ⟨by omega, by omega, c, fun i a' b' => ?_⟩
      rcases Nat.eq_or_lt_of_le a' with z | z
      · subst z; exact q
      · exact d i z b'
theorem first_none {p : Nat → Bool} : ∀ {n h : Nat}, first p h n = none → ∀ i, h ≤ i → i < h + n → p i = false
  | 0, h, e, i, a, b => by omega
  | n + 1, h, e, i, a, b => by
    unfold first at e
    cases q : p h with
    | true => rw [q, if_pos rfl] at e; cases e
    | false =>
      rw [q, if_neg (by decide)] at e
      rcases Nat.eq_or_lt_of_le a with z | z
      · subst z; exact q
      · exact first_none e i z (by omega)
/-- one column: (rows, leads) -/
def stp (n : Nat) (E : Mat → Nat → Nat → Mat) (s : Mat × List Nat) (c : Nat) : Mat × List Nat :=
  match first (fun k => decide (s.1 k c ≠ 0)) s.2.length (n - s.2.length) with
  | some k => (E (swp s.1 s.2.length k) s.2.length c, s.2 ++ [c])
  | none => s
def run (n : Nat) (E : Mat → Nat → Nat → Mat) (F : Mat) (w : Nat) : Mat × List Nat := (List.range w).foldl (stp n E) (F, [])
theorem run_succ (n : Nat) (E : Mat → Nat → Nat → Mat) (F : Mat) (w : Nat) : run n E F (w + 1) = stp n E (run n E F w) w := by
  unfold run; rw [List.range_succ, List.foldl_append]; rfl
/-! what all rows lead to nought -/
def Null (n W : Nat) (F : Mat) (v : Nat → Rat) : Prop := ∀ i, i < n → dt W (F i) v = 0
theorem null_swp {n W h k : Nat} {F : Mat} {v : Nat → Rat} (hh : h < n) (hk : k < n) : Null n W (swp F h k) v ↔ Null n W F v := by
  constructor
  · intro q i hi
    by_cases e : i = h
    · subst e
      have := q k hk
      unfold swp at this
      by_cases e2 : k = i
      · rw [if_pos e2] at this; rw [← e2]; exact this
      · rw [if_neg e2, if_pos rfl] at this; exact this
    · by_cases e2 : i = k
      · subst e2
        have := q h hh
        unfold swp at this
        rw [if_pos rfl] at this; exact this
      · have := q i hi
        unfold swp at this
        rw [if_neg e, if_neg e2] at this; exact this
  · intro q i hi
    unfold swp
    split
    · exact q k hk
    · split
      · exact q h hh
      · exact q i hi
theorem elim_h (F : Mat) (h c : Nat) : elim F h c h = fun j => F h j / F h c := by funext j; unfold elim; rw [if_pos rfl]
theorem elim_i {F : Mat} {h c i : Nat} (e : i ≠ h) : elim F h c i = fun j => F i j - F i c * (F h j / F h c) := by funext j; unfold elim; rw [if_neg e]
theorem null_elim {n W h c : Nat} {F : Mat} {v : Nat → Rat} (hh : h < n) (hp : F h c ≠ 0) : Null n W (elim F h c) v ↔ Null n W F v := by
  have e1 : dt W (elim F h c h) v = dt W (F h) v / F h c := by rw [elim_h, dt_div]
  have e2 : ∀ i, i ≠ h → dt W (elim F h c i) v = dt W (F i) v - F i c * (dt W (F h) v / F h c) := fun i hi => by
    rw [elim_i hi]
    have := dt_lin W (F i) (fun j => F h j / F h c) v (F i c)
    rw [this, dt_div]
  constructor
  · intro q
    have z : dt W (F h) v = 0 := by
      have := q h hh
      rw [e1] at this
      grind
    intro i hi
    by_cases e : i = h
    · rw [e]; exact z
    · have := q i hi
      rw [e2 i e, z] at this
      grind
  · intro q i hi
    have z := q h hh
    by_cases e : i = h
    · rw [e, e1, z]; grind
    · rw [e2 i e, z, q i hi]; grind
theorem elow_i {F : Mat} {h c i : Nat} (e : h < i) : elow F h c i = fun j => F i j - F i c / F h c * F h j := by funext j; unfold elow; rw [if_pos e]
theorem elow_n {F : Mat} {h c i : Nat} (e : ¬ h < i) : elow F h c i = F i := by funext j; unfold elow; rw [if_neg e]
theorem null_elow {n W h c : Nat} {F : Mat} {v : Nat → Rat} (hh : h < n) (hp : F h c ≠ 0) : Null n W (elow F h c) v ↔ Null n W F v := by
  have e1 : dt W (elow F h c h) v = dt W (F h) v := by rw [elow_n (by omega)]
  have e2 : ∀ i, h < i → dt W (elow F h c i) v = dt W (F i) v - F i c / F h c * dt W (F h) v := fun i hi => by rw [elow_i hi, dt_lin]
  constructor
  · intro q i hi
    have z := q h hh
    rw [e1] at z
    by_cases e : h < i
    · have := q i hi
      rw [e2 i e, z] at this
      grind
    · have := q i hi
      rw [elow_n e] at this; exact this
  · intro q i hi
    by_cases e : h < i
    · rw [e2 i e, q h hh, q i hi]; grind
    · rw [elow_n e]; exact q i hi
/-! what both ways of making noughts have in common -/
structure Good (n : Nat) (E : Mat → Nat → Nat → Mat) : Prop where
  null : ∀ (W h c : Nat) (F : Mat) (v : Nat → Rat), h < n → F h c ≠ 0 → (Null n W (E F h c) v ↔ Null n W F v)
  /-- columns at which the row h has nought stay -/
  stay : ∀ (F : Mat) (h c i j : Nat), F h c ≠ 0 → F h j = 0 → E F h c i j = F i j
  lead : ∀ (F : Mat) (h c : Nat), F h c ≠ 0 → E F h c h c ≠ 0
  below : ∀ (F : Mat) (h c i : Nat), F h c ≠ 0 → h < i → E F h c i c = 0
theorem good_elim (n : Nat) : Good n elim := by
  refine ⟨fun W h c F v hh hp => null_elim hh hp, fun F h c i j hp hz => ?_, fun F h c hp => ?_, fun F h c i hp hi => ?_⟩
  · by_cases e : i = h
    · subst e; rw [elim_h]; show F i j / F i c = F i j; rw [hz]; grind
    · rw [elim_i e]; show F i j - F i c * (F h j / F h c) = F i j; rw [hz]; grind
  · rw [elim_h]; show F h c / F h c ≠ 0; intro e; grind
  · rw [elim_i (by omega)]; show F i c - F i c * (F h c / F h c) = 0; grind
theorem good_elow (n : Nat) : Good n elow := by
  refine ⟨fun W h c F v hh hp => null_elow hh hp, fun F h c i j hp hz => ?_, fun F h c hp => ?_, fun F h c i hp hi => ?_⟩
  · by_cases e : h < i
    · rw [elow_i e]; show F i j - F i c / F h c * F h j = F i j; rw [hz]; grind
    · rw [elow_n e]
  · rw [elow_n (by omega)]; exact hp
  · rw [elow_i hi]; show F i c - F i c / F h c * F h c = 0; grind
/-- behind w columns: leads rise, each row has noughts before its lead, the others have none -/
structure Ech (n w : Nat) (F : Mat) (L : List Nat) : Prop where
  few : L.length ≤ n
  ris : L.Pairwise (· < ·)
  bnd : ∀ c ∈ L, c < w
  low : ∀ i c, L[i]? = some c → ∀ j, j < c → F i j = 0
  one : ∀ i c, L[i]? = some c → F i c ≠ 0
  rest : ∀ i, L.length ≤ i → i < n → ∀ j, j < w → F i j = 0
theorem swp_lt {F : Mat} {h k i : Nat} (hk : h ≤ k) (hi : i < h) : swp F h k i = F i := by
  unfold swp; rw [if_neg (by omega), if_neg (by omega)]
theorem swp_row {F : Mat} {h k i : Nat} (P : (Nat → Rat) → Prop) (hp : ∀ i, h ≤ i → i < n → P (F i)) (hk : h ≤ k) (hkn : k < n) (hi : h ≤ i) (hin : i < n) : P (swp F h k i) := by
  unfold swp
  split
  · exact hp k hk hkn
  · split
    · exact hp h (Nat.le_refl _) (by omega)
    · exact hp i hi hin
theorem ech_stp {n w : Nat} {E : Mat → Nat → Nat → Mat} (G : Good n E) {s : Mat × List Nat} (h : Ech n w s.1 s.2) : Ech n (w + 1) (stp n E s w).1 (stp n E s w).2 := by
  obtain ⟨F, L⟩ := s
  unfold stp
  dsimp only at h ⊢
  cases e : first (fun k => decide (F k w ≠ 0)) L.length (n - L.length) with
  | none =>
    dsimp only
    refine ⟨h.few, h.ris, fun c hc => Nat.lt_succ_of_lt (h.bnd c hc), h.low, h.one, fun i hi hn j hj => ?_⟩
    rcases Nat.lt_or_ge j w with z | z
    · exact h.rest i hi hn j z
    · have : j = w := by omega
      subst this
      have := first_none e i hi (by omega)
      simpa using this
  | some k =>
    dsimp only
    obtain ⟨a, b, c, _⟩ := first_some e
    have c' : F k w ≠ 0 := by simpa using c
    have hkn : k < n := by omega
    have hhn : L.length < n := by omega
    have pv : swp F L.length k L.length = F k := by unfold swp; rw [if_pos rfl]
    have hp : swp F L.length k L.length w ≠ 0 := by rw [pv]; exact c'
    have z0 : ∀ i, L.length ≤ i → i < n → ∀ j, j < w → swp F L.length k i j = 0 := fun i hi hn j hj =>
      swp_row (fun r => r j = 0) (fun i' a' b' => h.rest i' a' b' j hj) a hkn hi hn
    have st : ∀ i j, j < w → E (swp F L.length k) L.length w i j = swp F L.length k i j := fun i j hj => G.stay _ _ _ _ _ hp (z0 _ (Nat.le_refl _) hhn j hj)
    have old : ∀ i c', L[i]? = some c' → i < L.length := fun i c' q => (List.getElem?_eq_some_iff.mp q).1
    have cases' : ∀ i c', (L ++ [w])[i]? = some c' → L[i]? = some c' ∨ (i = L.length ∧ c' = w) := fun i c' q => by
      rcases Nat.lt_or_ge i L.length with z | z
      · rw [List.getElem?_append_left z] at q; exact .inl q
      · rw [List.getElem?_append_right z] at q
        rcases Nat.eq_or_lt_of_le z with z2 | z2
        · right; subst z2; simp at q; exact ⟨rfl, q.symm⟩
        · rw [List.getElem?_eq_none_iff.mpr (by simp; omega)] at q; cases q
    refine ⟨by simp; omega, ?_, ?_, ?_, ?_, ?_⟩
    · rw [List.pairwise_append]
      exact ⟨h.ris, List.pairwise_singleton _ _, fun x hx y hy => by rw [List.mem_singleton.mp hy]; exact h.bnd x hx⟩
    · intro x hx
      rcases List.mem_append.mp hx with hx | hx
      · exact Nat.lt_succ_of_lt (h.bnd x hx)
      · rw [List.mem_singleton.mp hx]; omega
    · intro i x q j hj
      rcases cases' i x q with q | ⟨rfl, rfl⟩
      · have hi := old i x q
        have xw := h.bnd x (List.mem_of_getElem? q)
        rw [st i j (by omega), swp_lt a hi]
        exact h.low i x q j hj
      · rw [st _ j hj]; exact z0 _ (Nat.le_refl _) hhn j hj
    · intro i x q
      rcases cases' i x q with q | ⟨rfl, rfl⟩
      · have hi := old i x q
        have xw := h.bnd x (List.mem_of_getElem? q)
        rw [st i x xw, swp_lt a hi]
        exact h.one i x q
      · exact G.lead _ _ _ hp
    · intro i hi hn j hj
      have hi' : L.length < i := by simp at hi; omega
      rcases Nat.lt_or_ge j w with z | z
      · rw [st i j z]; exact z0 i (by omega) hn j z
      · have : j = w := by omega
        subst this
        exact G.below _ _ _ _ hp hi'
theorem ech_run {n : Nat} {E : Mat → Nat → Nat → Mat} (G : Good n E) (F : Mat) : ∀ w, Ech n w (run n E F w).1 (run n E F w).2
  | 0 => ⟨Nat.zero_le _, List.Pairwise.nil, fun c h => by simp [run] at h, fun i c h => by simp [run] at h, fun i c h => by simp [run] at h, fun i _ _ j hj => by omega⟩
  | w + 1 => by rw [run_succ]; exact ech_stp G (ech_run G F w)
theorem null_stp {n : Nat} {E : Mat → Nat → Nat → Mat} (G : Good n E) (W : Nat) (v : Nat → Rat) (s : Mat × List Nat) (hl : s.2.length ≤ n) (c : Nat) : Null n W (stp n E s c).1 v ↔ Null n W s.1 v := by
  unfold stp
  cases e : first (fun k => decide (s.1 k c ≠ 0)) s.2.length (n - s.2.length) with
  | none => exact Iff.rfl
  | some k =>
    obtain ⟨a, b, q, _⟩ := first_some e
    have q' : s.1 k c ≠ 0 := by simpa using q
    dsimp only
    rw [G.null W _ _ _ v (by omega) (by unfold swp; rw [if_pos rfl]; exact q'), null_swp (by omega) (by omega)]
theorem null_run {n : Nat} {E : Mat → Nat → Nat → Mat} (G : Good n E) (F : Mat) (W : Nat) (v : Nat → Rat) : ∀ w, Null n W (run n E F w).1 v ↔ Null n W F v
  | 0 => Iff.rfl
  | w + 1 => by rw [run_succ, null_stp G W v _ (ech_run G F w).few w]; exact null_run G F W v w
/-! leads are told by what is led to nought -/
def LeadAt (W : Nat) (N : (Nat → Rat) → Prop) (c : Nat) : Prop := ∀ v, N v → (∀ j, c < j → v j = 0) → v c = 0
theorem lead_of {n W : Nat} {F : Mat} {L : List Nat} (h : Ech n W F L) {c : Nat} (hc : c ∈ L) : LeadAt W (Null n W F) c := by
  intro v hv hz
  obtain ⟨i, hi, e⟩ := List.mem_iff_getElem.mp hc
  have e' : L[i]? = some c := by rw [List.getElem?_eq_getElem hi, e]
  have hin : i < n := Nat.lt_of_lt_of_le hi h.few
  have q := hv i hin
  have cw := h.bnd c hc
  unfold dt at q
  rw [sg_one cw fun j hj hne => ?_] at q
  · have := h.one i c e'
    grind
  · rcases Nat.lt_or_ge j c with z | z
    · rw [h.low i c e' j z]; grind
    · rw [hz j (by omega)]; grind
/-- rows i .. r - 1 are led to nought -/
theorem back_sub {n W : Nat} {F : Mat} {L : List Nat} (h : Ech n W F L) (c : Nat) (hc : c < W) (hn : c ∉ L) : ∀ k, k ≤ L.length →
    ∃ v : Nat → Rat, v c = 1 ∧ (∀ j, c < j → v j = 0) ∧ ∀ i, L.length - k ≤ i → i < L.length → dt W (F i) v = 0 := by
  intro k
  induction k with
  | zero => exact fun _ => ⟨fun j => if j = c then 1 else 0, by simp, fun j hj => by simp; omega, fun i a b => by omega⟩
  | succ k ih =>
    intro hk
    obtain ⟨v, v1, v2, v3⟩ := ih (by omega)
    have hi : L.length - (k + 1) < L.length := by omega
    have e' : L[L.length - (k + 1)]? = some L[L.length - (k + 1)] := List.getElem?_eq_getElem hi
    generalize hp : L[L.length - (k + 1)] = p at e'
    have pm : p ∈ L := List.mem_of_getElem? e'
    have pW := h.bnd p pm
    have pc : p ≠ c := fun z => hn (z ▸ pm)
    have p1 := h.one _ _ e'
    rcases Nat.lt_or_ge c p with z | z
    · refine ⟨v, v1, v2, fun i a b => ?_⟩
      rcases Nat.eq_or_lt_of_le a with y | y
      · subst y
        refine sg_zero fun j hj => ?_
        rcases Nat.lt_or_ge j p with x | x
        · rw [h.low _ _ e' j x]; grind
        · rw [v2 j (by omega)]; grind
      · exact v3 i (by omega) b
    · let q := dt W (F (L.length - (k + 1))) v - F (L.length - (k + 1)) p * v p
      refine ⟨fun j => if j = p then - q / F (L.length - (k + 1)) p else v j, by simp [Ne.symm pc, v1], fun j hj => by dsimp only; rw [if_neg (by omega)]; exact v2 j hj, fun i a b => ?_⟩
      have sp : ∀ i', dt W (F i') (fun j => if j = p then - q / F (L.length - (k + 1)) p else v j) = dt W (F i') v + F i' p * (- q / F (L.length - (k + 1)) p - v p) := fun i' => by
        have : dt W (F i') (fun j => if j = p then - q / F (L.length - (k + 1)) p else v j) - dt W (F i') v = F i' p * (- q / F (L.length - (k + 1)) p - v p) := by
          unfold dt
          rw [← sg_sub, sg_one pW fun j hj hne => ?_]
          · dsimp only; rw [if_pos rfl]; grind
          · dsimp only; rw [if_neg hne]; grind
        grind
      rw [sp]
      rcases Nat.eq_or_lt_of_le a with y | y
      · subst y
        show _ + F (L.length - (k + 1)) p * (-(dt W (F (L.length - (k + 1))) v - F (L.length - (k + 1)) p * v p) / F (L.length - (k + 1)) p - v p) = 0
        generalize dt W (F (L.length - (k + 1))) v = t
        generalize F (L.length - (k + 1)) p = u at p1 ⊢
        grind
      · have hi2 : L[i]? = some L[i] := List.getElem?_eq_getElem b
        have lt : p < L[i] := by
          have := List.pairwise_iff_getElem.mp h.ris (L.length - (k + 1)) i hi b y
          rw [hp] at this; exact this
        rw [h.low i _ hi2 p lt, v3 i (by omega) b]; grind
theorem free_of {n W : Nat} {F : Mat} {L : List Nat} (h : Ech n W F L) {c : Nat} (hc : c < W) (hn : c ∉ L) : ∃ v, Null n W F v ∧ v c = 1 ∧ ∀ j, c < j → v j = 0 := by
  obtain ⟨v, v1, v2, v3⟩ := back_sub h c hc hn L.length (Nat.le_refl _)
  refine ⟨v, fun i hi => ?_, v1, v2⟩
  rcases Nat.lt_or_ge i L.length with z | z
  · exact v3 i (by omega) z
  · exact sg_zero fun j hj => by rw [h.rest i z hi j hj]; grind
theorem leads_iff {n W : Nat} {F : Mat} {L : List Nat} (h : Ech n W F L) {c : Nat} (hc : c < W) : c ∈ L ↔ LeadAt W (Null n W F) c := by
  constructor
  · exact lead_of h
  · intro q
    refine Classical.byContradiction fun hn => ?_
    obtain ⟨v, v0, v1, v2⟩ := free_of h hc hn
    have := q v v0 v2
    rw [v1] at this
    exact absurd this (by decide)
theorem rise_eq : ∀ {l m : List Nat}, l.Pairwise (· < ·) → m.Pairwise (· < ·) → (∀ c, c ∈ l ↔ c ∈ m) → l = m
  | [], [], _, _, _ => rfl
  | [], b :: m, _, _, h => absurd ((h b).mpr List.mem_cons_self) (by simp)
  | a :: l, [], _, _, h => absurd ((h a).mp List.mem_cons_self) (by simp)
  | a :: l, b :: m, hl, hm, h => by
    have hl' := List.pairwise_cons.mp hl
    have hm' := List.pairwise_cons.mp hm
    have ab : a = b := by
      rcases List.mem_cons.mp ((h a).mp List.mem_cons_self) with e | e
      · exact e
      · rcases List.mem_cons.mp ((h b).mpr List.mem_cons_self) with e2 | e2
        · exact e2.symm
        · have := hm'.1 a e; have := hl'.1 b e2; omega
    subst ab
    rw [rise_eq hl'.2 hm'.2 fun c => ?_]
    constructor
    · intro q
      rcases List.mem_cons.mp ((h c).mp (List.mem_cons_of_mem _ q)) with e | e
      · subst e; exact absurd (hl'.1 _ q) (by omega)
      · exact e
    · intro q
      rcases List.mem_cons.mp ((h c).mpr (List.mem_cons_of_mem _ q)) with e | e
      · subst e; exact absurd (hm'.1 _ q) (by omega)
      · exact e
theorem ech_uniq {n n' W : Nat} {F F' : Mat} {L L' : List Nat} (h : Ech n W F L) (h' : Ech n' W F' L') (hN : ∀ v, Null n W F v ↔ Null n' W F' v) : L = L' := by
  refine rise_eq h.ris h'.ris fun c => ?_
  have e : Null n W F = Null n' W F' := funext fun v => propext (hN v)
  constructor
  · intro q
    have b := h.bnd c q
    rw [leads_iff h' b, ← e, ← leads_iff h b]; exact q
  · intro q
    have b := h'.bnd c q
    rw [leads_iff h b, e, ← leads_iff h' b]; exact q
/-- a further column -/
theorem null_low {n W : Nat} {F : Mat} {v : Nat → Rat} (hz : v W = 0) : Null n (W + 1) F v ↔ Null n W F v := by
  unfold Null
  constructor
  · intro q i hi
    have := q i hi
    unfold dt at this ⊢
    simp only [sg] at this
    rw [hz] at this
    grind
  · intro q i hi
    have := q i hi
    unfold dt at this ⊢
    simp only [sg]
    rw [hz, this]
    grind
def Solv (n W : Nat) (F : Mat) : Prop := ∃ v, Null n (W + 1) F v ∧ v W ≠ 0
theorem ech_wide {n W : Nat} {F F1 F2 : Mat} {L L' : List Nat} (h : Ech n W F1 L) (hN : ∀ v, Null n W F1 v ↔ Null n W F v) (h' : Ech n (W + 1) F2 L') (hN' : ∀ v, Null n (W + 1) F2 v ↔ Null n (W + 1) F v) :
    (Solv n W F → L' = L) ∧ (¬ Solv n W F → L' = L ++ [W]) := by
  have e1 : Null n W F1 = Null n W F := funext fun v => propext (hN v)
  have e2 : Null n (W + 1) F2 = Null n (W + 1) F := funext fun v => propext (hN' v)
  have lw : ∀ c, c < W → (c ∈ L' ↔ c ∈ L) := fun c hc => by
    rw [leads_iff h' (by omega), leads_iff h hc, e1, e2]
    constructor
    · intro q v hv hz
      have := q (fun j => if j < W then v j else 0) ?_ (fun j hj => ?_)
      · (try dsimp only at this); rw [if_pos hc] at this; exact this
      · rw [null_low (by simp)]
        intro i hi
        have := hv i hi
        rw [← this]
        exact sg_congr fun j hj => by (try dsimp only); rw [if_pos hj]
      · (try dsimp only)
        split
        · exact hz j hj
        · rfl
    · intro q v hv hz
      have z : v W = 0 := hz W hc
      rw [null_low z] at hv
      exact q v hv hz
  have top : W ∈ L' ↔ ¬ Solv n W F := by
    rw [leads_iff h' (by omega), e2]
    constructor
    · rintro q ⟨v, hv, hne⟩
      refine hne ?_
      have := q (fun j => if j ≤ W then v j else 0) (fun i hi => ?_) (fun j hj => by (try dsimp only); rw [if_neg (by omega)])
      · (try dsimp only at this); rw [if_pos (Nat.le_refl _)] at this; exact this
      · rw [← hv i hi]
        exact sg_congr fun j hj => by (try dsimp only); rw [if_pos (by omega)]
    · intro q v hv hz
      refine Classical.byContradiction fun hne => q ⟨v, hv, hne⟩
  constructor
  · intro hs
    refine rise_eq h'.ris h.ris fun c => ?_
    constructor
    · intro q
      have b := h'.bnd c q
      rcases Nat.lt_or_ge c W with z | z
      · exact (lw c z).mp q
      · have : c = W := by omega
        subst this
        exact absurd hs (top.mp q)
    · intro q
      exact (lw c (h.bnd c q)).mpr q
  · intro hs
    refine rise_eq h'.ris ?_ fun c => ?_
    · rw [List.pairwise_append]
      exact ⟨h.ris, List.pairwise_singleton _ _, fun x hx y hy => by rw [List.mem_singleton.mp hy]; exact h.bnd x hx⟩
    · rw [List.mem_append, List.mem_singleton]
      constructor
      · intro q
        have b := h'.bnd c q
        rcases Nat.lt_or_ge c W with z | z
        · exact .inl ((lw c z).mp q)
        · exact .inr (by omega)
      · rintro (q | rfl)
        · exact (lw c (h.bnd c q)).mpr q
        · exact top.mpr hs

/-! leads of 1, alone in their columns -/
def Rref (n : Nat) (F : Mat) (L : List Nat) : Prop := ∀ i c, L[i]? = some c → F i c = 1 ∧ ∀ i', i' < n → i' ≠ i → F i' c = 0
theorem rref_stp {n w : Nat} {s : Mat × List Nat} (h : Ech n w s.1 s.2) (r : Rref n s.1 s.2) : Rref n (stp n elim s w).1 (stp n elim s w).2 := by
  obtain ⟨F, L⟩ := s
  unfold stp
  dsimp only at h r ⊢
  cases e : first (fun k => decide (F k w ≠ 0)) L.length (n - L.length) with
  | none => exact r
  | some k =>
    dsimp only
    obtain ⟨a, b, c, _⟩ := first_some e
    have c' : F k w ≠ 0 := by simpa using c
    have hkn : k < n := by omega
    have hhn : L.length < n := by omega
    have pv : swp F L.length k L.length = F k := by unfold swp; rw [if_pos rfl]
    have hp : swp F L.length k L.length w ≠ 0 := by rw [pv]; exact c'
    have z0 : ∀ i, L.length ≤ i → i < n → ∀ j, j < w → swp F L.length k i j = 0 := fun i hi hn j hj =>
      swp_row (fun r => r j = 0) (fun i' a' b' => h.rest i' a' b' j hj) a hkn hi hn
    have st : ∀ i j, j < w → elim (swp F L.length k) L.length w i j = swp F L.length k i j := fun i j hj => (good_elim n).stay _ _ _ _ _ hp (z0 _ (Nat.le_refl _) hhn j hj)
    intro i x q
    rcases Nat.lt_or_ge i L.length with z | z
    · rw [List.getElem?_append_left z] at q
      have xw := h.bnd x (List.mem_of_getElem? q)
      obtain ⟨r1, r2⟩ := r i x q
      refine ⟨by rw [st i x xw, swp_lt a z]; exact r1, fun i' hi' ne => ?_⟩
      rw [st i' x xw]
      rcases Nat.lt_or_ge i' L.length with y | y
      · rw [swp_lt a y]; exact r2 i' hi' ne
      · exact swp_row (fun r => r x = 0) (fun i'' a' b' => r2 i'' b' (by omega)) a hkn y hi'
    · rw [List.getElem?_append_right z] at q
      rcases Nat.eq_or_lt_of_le z with z2 | z2
      · subst z2
        simp at q; subst q
        refine ⟨?_, fun i' hi' ne => ?_⟩
        · rw [elim_h]; dsimp only; grind
        · rw [elim_i ne]; dsimp only; grind
      · rw [List.getElem?_eq_none_iff.mpr (by simp; omega)] at q; cases q
theorem rref_run (n : Nat) (F : Mat) : ∀ w, Rref n (run n elim F w).1 (run n elim F w).2
  | 0 => fun i c h => by simp [run] at h
  | w + 1 => by rw [run_succ]; exact rref_stp (ech_run (good_elim n) F w) (rref_run n F w)
/-! rows with what they are made of -/
def aug (W : Nat) (F : Mat) : Mat := fun i j => if j < W then F i j else if j = W + i then 1 else 0
theorem made_eq {n W : Nat} (F : Mat) (w : Nat) {i j : Nat} (hi : i < n) (hj : j < W) :
    (run n elim (aug W F) w).1 i j = sg n fun k => (run n elim (aug W F) w).1 i (W + k) * F k j := by
  let v : Nat → Rat := fun t => if t < W then (if t = j then 1 else 0) else - F (t - W) j
  have gen : ∀ r : Nat → Rat, dt (W + n) r v = r j - sg n fun k => r (W + k) * F k j := fun r => by
    unfold dt
    rw [sg_split]
    have e1 : sg W (fun t => r t * v t) = r j := by
      rw [sg_one hj fun t ht ne => ?_]
      · show r j * (if j < W then (if j = j then 1 else 0) else _) = _
        rw [if_pos hj, if_pos rfl]; grind
      · show r t * (if t < W then (if t = j then 1 else 0) else _) = _
        rw [if_pos ht, if_neg ne]; grind
    have e2 : sg n (fun k => r (W + k) * v (W + k)) = - sg n fun k => r (W + k) * F k j := by
      have : - sg n (fun k => r (W + k) * F k j) = (-1) * sg n (fun k => r (W + k) * F k j) := by grind
      rw [this, ← sg_mul]
      refine sg_congr fun k _ => ?_
      show r (W + k) * (if W + k < W then _ else - F (W + k - W) j) = _
      rw [if_neg (by omega), show W + k - W = k by omega]; grind
    rw [e1, e2]; grind
  have h0 : Null n (W + n) (aug W F) v := fun i hi => by
    rw [gen, sg_one hi fun k hk ne => ?_]
    · unfold aug
      rw [if_pos hj, if_neg (by omega), if_pos rfl]; grind
    · unfold aug
      rw [if_neg (by omega), if_neg (by omega)]; grind
  have h1 := (null_run (good_elim n) (aug W F) (W + n) v w).mpr h0 i hi
  rw [gen] at h1
  grind
theorem null_aug {n W : Nat} {F : Mat} {v : Nat → Rat} : Null n W (aug W F) v ↔ Null n W F v := by
  unfold Null
  constructor
  · intro q i hi
    rw [← q i hi]
    exact sg_congr fun j hj => by unfold aug; rw [if_pos hj]
  · intro q i hi
    rw [← q i hi]
    exact sg_congr fun j hj => by unfold aug; rw [if_pos hj]
/-- factors: no row together, but not of the right -/
theorem factors_show {n w : Nat} (F : Mat) {k : Nat} (h1 : (run n elim (aug (w + 1) F) w).2.length ≤ k) (h2 : k < n) (h3 : (run n elim (aug (w + 1) F) w).1 k w ≠ 0) :
    (∀ j, j < w → (sg n fun i => (run n elim (aug (w + 1) F) w).1 k (w + 1 + i) * F i j) = 0) ∧ (sg n fun i => (run n elim (aug (w + 1) F) w).1 k (w + 1 + i) * F i w) ≠ 0 := by
  have E := ech_run (good_elim n) (aug (w + 1) F) w
  refine ⟨fun j hj => ?_, ?_⟩
  · rw [← made_eq F w h2 (by omega)]; exact E.rest k h1 h2 j hj
  · rw [← made_eq F w h2 (by omega)]; exact h3
/-- numbers: each lead has what stands on the right -/
theorem numbers_fit {n w : Nat} (F : Mat) (h3 : ∀ k, (run n elim (aug (w + 1) F) w).2.length ≤ k → k < n → (run n elim (aug (w + 1) F) w).1 k w = 0) (x : Nat → Rat)
    (hx : ∀ i c, (run n elim (aug (w + 1) F) w).2[i]? = some c → x c = (run n elim (aug (w + 1) F) w).1 i w) (hz : ∀ c, c ∉ (run n elim (aug (w + 1) F) w).2 → x c = 0) :
    ∀ i, i < n → (sg w fun j => F i j * x j) = F i w := by
  have E := ech_run (good_elim n) (aug (w + 1) F) w
  have R := rref_run n (aug (w + 1) F) w
  generalize hr : run n elim (aug (w + 1) F) w = r at *
  obtain ⟨A, L⟩ := r
  dsimp only at *
  let v : Nat → Rat := fun t => if t < w then x t else -1
  have gen : ∀ r : Nat → Rat, dt (w + 1) r v = (sg w fun j => r j * x j) - r w := fun r => by
    unfold dt
    simp only [sg]
    have e1 : sg w (fun j => r j * v j) = sg w fun j => r j * x j := sg_congr fun j hj => by
      show r j * (if j < w then x j else -1) = _
      rw [if_pos hj]
    have e2 : v w = -1 := by show (if w < w then x w else -1) = -1; rw [if_neg (by omega)]
    rw [e1, e2]; grind
  have h0 : Null n (w + 1) A v := fun i hi => by
    rw [gen]
    rcases Nat.lt_or_ge i L.length with z | z
    · have e' : L[i]? = some L[i] := List.getElem?_eq_getElem z
      obtain ⟨r1, r2⟩ := R i _ e'
      have cw := E.bnd _ (List.getElem_mem z)
      rw [sg_one cw fun j hj ne => ?_, r1, hx i _ e']
      · grind
      · by_cases hj2 : j ∈ L
        · obtain ⟨i', hi', e2⟩ := List.mem_iff_getElem.mp hj2
          have e3 : L[i']? = some j := by rw [List.getElem?_eq_getElem hi', e2]
          have ne2 : i ≠ i' := fun q => by subst q; exact ne e2.symm
          rw [(R i' j e3).2 i hi ne2]; grind
        · rw [hz j hj2]; grind
    · rw [sg_zero fun j hj => ?_, h3 i z hi]
      · grind
      · rw [E.rest i z hi j hj]; grind
  have h1 : Null n (w + 1) F v := by
    rw [← null_aug, ← null_run (good_elim n) (aug (w + 1) F) (w + 1) v w, hr]; exact h0
  intro i hi
  have := h1 i hi
  rw [gen] at this
  grind
/-- numbers that fit, as rows that lead a vector to nought -/
theorem solv_of {n w : Nat} {F : Mat} {x : Nat → Rat} (h : ∀ i, i < n → (sg w fun j => F i j * x j) = F i w) : Solv n w F := by
  refine ⟨fun t => if t < w then x t else -1, fun i hi => ?_, by (try dsimp only); rw [if_neg (by omega)]; decide⟩
  unfold dt
  simp only [sg]
  have e1 : sg w (fun j => F i j * (if j < w then x j else -1)) = sg w fun j => F i j * x j := sg_congr fun j hj => by rw [if_pos hj]
  rw [e1, h i hi, if_neg (by omega)]; grind
theorem not_solv {n w : Nat} {F : Mat} {y : Nat → Rat} (h : ∀ j, j < w → (sg n fun i => y i * F i j) = 0) (hr : (sg n fun i => y i * F i w) ≠ 0) : ¬ Solv n w F := by
  rintro ⟨v, hv, hne⟩
  have e : sg n (fun i => y i * dt (w + 1) (F i) v) = 0 := sg_zero fun i hi => by rw [hv i hi]; grind
  have e2 : sg n (fun i => y i * dt (w + 1) (F i) v) = sg (w + 1) fun j => v j * sg n fun i => y i * F i j := by
    unfold dt
    have a1 : sg n (fun i => y i * sg (w + 1) fun j => F i j * v j) = sg n fun i => sg (w + 1) fun j => y i * (F i j * v j) := sg_congr fun i _ => by rw [sg_mul]
    rw [a1, sg_comm]
    refine sg_congr fun j _ => ?_
    rw [← sg_mul]
    exact sg_congr fun i _ => by grind
  rw [e2] at e
  simp only [sg] at e
  rw [sg_zero fun j hj => by rw [h j hj]; grind] at e
  grind
end Rw
set_option Elab.async false
set_option linter.all false
set_option maxRecDepth 100000
set_option maxHeartbeats 4000000
/-! how great the numbers of the rows get -/
namespace Rw
open Lw Bm
/-- all numbers over one below, of a bits -/
def Cd (n W a : Nat) (F : Mat) : Prop := ∃ N, 0 < N ∧ N ≤ 2 ^ a ∧ ∀ i, i < n → ∀ j, j < W → In N a (F i j)
theorem Cd.mono {n W a b : Nat} {F : Mat} (h : Cd n W a F) (hab : a ≤ b) : Cd n W b F := by
  obtain ⟨N, h0, h1, h2⟩ := h
  exact ⟨N, h0, Nat.le_trans h1 (Nat.pow_le_pow_right (by decide) hab), fun i hi j hj => (h2 i hi j hj).mono hab⟩
theorem Cd.sm {n W a : Nat} {F : Mat} (h : Cd n W a F) {i j : Nat} (hi : i < n) (hj : j < W) : Sm (a + 1) (F i j) := by
  obtain ⟨N, h0, h1, h2⟩ := h
  exact (h2 i hi j hj).sm (Nat.lt_of_le_of_lt h1 (Nat.pow_lt_pow_right (by decide) (by omega))) (by omega)
theorem Cd.swp {n W a h k : Nat} {F : Mat} (c : Cd n W a F) (hh : h < n) (hk : k < n) : Cd n W a (swp F h k) := by
  obtain ⟨N, h0, h1, h2⟩ := c
  refine ⟨N, h0, h1, fun i hi j hj => ?_⟩
  unfold Rw.swp
  split
  · exact h2 k hk j hj
  · split
    · exact h2 h hh j hj
    · exact h2 i hi j hj
theorem abs_cases (z : Int) : ((z.natAbs : Int) : Rat) = (z : Rat) ∨ ((z.natAbs : Int) : Rat) = -(z : Rat) := by
  rcases Int.natAbs_eq z with h | h
  · left; exact_mod_cast h.symm
  · right
    have : ((z.natAbs : Nat) : Int) = -z := by omega
    exact_mod_cast this
theorem two_two (a : Nat) : 2 ^ a * 2 ^ a = 2 ^ (2 * a) := by rw [← Nat.pow_add, Nat.two_mul]
theorem lt_two {a x y : Nat} (hx : x < 2 ^ a) (hy : y ≤ 2 ^ a) (h0 : 0 < y) : x * y < 2 ^ (2 * a) := by
  rw [← two_two]
  exact Nat.lt_of_lt_of_le (Nat.mul_lt_mul_of_pos_right hx h0) (Nat.mul_le_mul_left _ hy)
theorem lt_two' {a x y : Nat} (hx : x < 2 ^ a) (hy : y < 2 ^ a) : x * y < 2 ^ (2 * a) := by
  rcases Nat.eq_zero_or_pos y with e | e
  · subst e; simpa using Nat.two_pow_pos _
  · exact lt_two hx (Nat.le_of_lt hy) e
theorem half (a : Nat) : 2 ^ (2 * a) + 2 ^ (2 * a) = 2 ^ (2 * a + 1) := by rw [Nat.pow_succ]; omega
theorem sgn_abs (z : Int) : z.sign * z = (z.natAbs : Int) := by
  rcases Int.lt_trichotomy z 0 with h | h | h
  · rw [Int.sign_eq_neg_one_of_neg h]; omega
  · subst h; rfl
  · rw [Int.sign_eq_one_of_pos h]; omega
/-- e / p over N p -/
theorem quo_in {N a : Nat} {p e : Rat} {zp : Int} (h0 : 0 < N) (hN : N ≤ 2 ^ a) (ep : p = (zp : Rat) / ((N : Int) : Rat)) (hz : zp ≠ 0) (he : In N a e) : In (N * zp.natAbs) (2 * a + 1) (e / p) := by
  obtain ⟨_, z, e1, e2⟩ := he
  have hz0 : 0 < zp.natAbs := by omega
  refine ⟨Nat.mul_pos h0 hz0, z * N * zp.sign, ?_, ?_⟩
  · have hn := nz h0
    have hzR : (zp : Rat) ≠ 0 := fun q => hz (by exact_mod_cast q)
    have es : ((zp.sign : Int) : Rat) * (zp : Rat) = ((zp.natAbs : Int) : Rat) := by
      have := sgn_abs zp
      exact_mod_cast this
    have hzn : ((zp.natAbs : Int) : Rat) ≠ 0 := nz hz0
    have en : ((N * zp.natAbs : Nat) : Int) = (N : Int) * (zp.natAbs : Int) := by push_cast; rfl
    rw [en, Rat.intCast_mul, Rat.intCast_mul, Rat.intCast_mul, e1, ep]
    grind
  · have : (z * N * zp.sign).natAbs ≤ z.natAbs * N := by
      rw [Int.natAbs_mul, Int.natAbs_mul, Int.natAbs_sign]
      split <;> simp
    refine Nat.lt_of_le_of_lt this (Nat.lt_of_lt_of_le (lt_two e2 hN h0) ?_)
    exact Nat.pow_le_pow_right (by decide) (by omega)
/-- x - y (e / p) over N p -/
theorem cut_in {N a : Nat} {p e x y : Rat} {zp : Int} (h0 : 0 < N) (ep : p = (zp : Rat) / ((N : Int) : Rat)) (hp : zp.natAbs < 2 ^ a) (hz : zp ≠ 0) (he : In N a e) (hx : In N a x) (hy : In N a y) : In (N * zp.natAbs) (2 * a + 1) (x - y * (e / p)) := by
  obtain ⟨_, z, e1, e2⟩ := he
  obtain ⟨_, zx, x1, x2⟩ := hx
  obtain ⟨_, zy, y1, y2⟩ := hy
  have hz0 : 0 < zp.natAbs := by omega
  refine ⟨Nat.mul_pos h0 hz0, (zx * zp - zy * z) * zp.sign, ?_, ?_⟩
  · have hn := nz h0
    have hzR : (zp : Rat) ≠ 0 := fun q => hz (by exact_mod_cast q)
    have es : ((zp.sign : Int) : Rat) * (zp : Rat) = ((zp.natAbs : Int) : Rat) := by
      have := sgn_abs zp
      exact_mod_cast this
    have hzn : ((zp.natAbs : Int) : Rat) ≠ 0 := nz hz0
    have en : ((N * zp.natAbs : Nat) : Int) = (N : Int) * (zp.natAbs : Int) := by push_cast; rfl
    rw [en, Rat.intCast_mul, Rat.intCast_mul, Rat.intCast_sub, Rat.intCast_mul, Rat.intCast_mul, e1, x1, y1, ep]
    grind
  · have h1 : ((zx * zp - zy * z) * zp.sign).natAbs ≤ (zx * zp - zy * z).natAbs := by
      rw [Int.natAbs_mul, Int.natAbs_sign]
      split <;> simp
    have h2 : (zx * zp - zy * z).natAbs ≤ zx.natAbs * zp.natAbs + zy.natAbs * z.natAbs := by
      rw [← Int.natAbs_mul, ← Int.natAbs_mul]
      exact Int.natAbs_sub_le _ _
    have h3 := lt_two' x2 hp
    have h4 := lt_two' y2 e2
    have := half a
    omega
theorem Cd.pivot {n W a h c : Nat} {F : Mat} (q : Cd n W a F) (hh : h < n) (hc : c < W) (hp : F h c ≠ 0) :
    ∃ (N : Nat) (zp : Int), 0 < N ∧ N ≤ 2 ^ a ∧ F h c = (zp : Rat) / ((N : Int) : Rat) ∧ zp.natAbs < 2 ^ a ∧ zp ≠ 0 ∧ ∀ i, i < n → ∀ j, j < W → In N a (F i j) := by
  obtain ⟨N, h0, h1, h2⟩ := q
  obtain ⟨_, zp, e1, e2⟩ := h2 h hh c hc
  refine ⟨N, zp, h0, h1, e1, e2, fun z => hp ?_, h2⟩
  rw [e1, z, show ((0 : Int) : Rat) = 0 from rfl, Rat.div_def, Rat.zero_mul]
theorem np_le {N a : Nat} {zp : Int} (h1 : N ≤ 2 ^ a) (hp : zp.natAbs < 2 ^ a) : N * zp.natAbs ≤ 2 ^ (2 * a + 1) :=
  Nat.le_trans (Nat.mul_le_mul h1 (Nat.le_of_lt hp)) (by rw [two_two]; exact Nat.pow_le_pow_right (by decide) (by omega))
theorem Cd.elim {n W a h c : Nat} {F : Mat} (q : Cd n W a F) (hh : h < n) (hc : c < W) (hp : F h c ≠ 0) : Cd n W (2 * a + 1) (Rw.elim F h c) := by
  obtain ⟨N, zp, h0, h1, e1, e2, e3, e4⟩ := q.pivot hh hc hp
  refine ⟨N * zp.natAbs, Nat.mul_pos h0 (by omega), np_le h1 e2, fun i hi j hj => ?_⟩
  by_cases e : i = h
  · subst e; rw [elim_h]; exact quo_in h0 h1 e1 e3 (e4 i hi j hj)
  · rw [elim_i e]; exact cut_in h0 e1 e2 e3 (e4 h hh j hj) (e4 i hi j hj) (e4 i hi c hc)
theorem Cd.elow {n W a h c : Nat} {F : Mat} (q : Cd n W a F) (hh : h < n) (hc : c < W) (hp : F h c ≠ 0) : Cd n W (2 * a + 1) (Rw.elow F h c) := by
  obtain ⟨N, zp, h0, h1, e1, e2, e3, e4⟩ := q.pivot hh hc hp
  refine ⟨N * zp.natAbs, Nat.mul_pos h0 (by omega), np_le h1 e2, fun i hi j hj => ?_⟩
  by_cases e : h < i
  · rw [elow_i e]
    have : F i j - F i c / F h c * F h j = F i j - F i c * (F h j / F h c) := by grind
    (try dsimp only)
    rw [this]
    exact cut_in h0 e1 e2 e3 (e4 h hh j hj) (e4 i hi j hj) (e4 i hi c hc)
  · rw [elow_n e]
    have : F i j = F i j - 0 * (0 / F h c) := by grind
    rw [this]
    exact cut_in h0 e1 e2 e3 (In.zero h0) (e4 i hi j hj) (In.zero h0)
/-- behind t leads -/
def gr : Nat → Nat → Nat
  | 0, a => a
  | t + 1, a => 2 * gr t a + 1
theorem gr_le (a : Nat) : ∀ {s t : Nat}, s ≤ t → gr s a ≤ gr t a
  | s, 0, h => by rw [Nat.le_zero.mp h]; exact Nat.le_refl _
  | s, t + 1, h => by
    rcases Nat.eq_or_lt_of_le h with e | e
    · rw [e]; exact Nat.le_refl _
    · have := gr_le a (s := s) (t := t) (by omega)
      show gr s a ≤ 2 * gr t a + 1
      omega
/-- what both ways do to the size -/
def Sized (n W : Nat) (E : Mat → Nat → Nat → Mat) : Prop := ∀ (a h c : Nat) (F : Mat), Cd n W a F → h < n → c < W → F h c ≠ 0 → Cd n W (2 * a + 1) (E F h c)
theorem cd_stp {n W a : Nat} {E : Mat → Nat → Nat → Mat} (Z : Sized n W E) {s : Mat × List Nat} {c : Nat} (hc : c < W) (hl : s.2.length ≤ n) (h : Cd n W (gr s.2.length a) s.1) : Cd n W (gr (stp n E s c).2.length a) (stp n E s c).1 := by
  unfold stp
  cases e : first (fun k => decide (s.1 k c ≠ 0)) s.2.length (n - s.2.length) with
  | none => exact h
  | some k =>
    dsimp only
    obtain ⟨x, y, q, _⟩ := first_some e
    have q' : s.1 k c ≠ 0 := by simpa using q
    rw [List.length_append]
    exact Z _ _ _ _ (h.swp (by omega) (by omega)) (by omega) hc (by unfold Rw.swp; rw [if_pos rfl]; exact q')
theorem cd_run {n W a : Nat} {E : Mat → Nat → Nat → Mat} (G : Good n E) (Z : Sized n W E) {F : Mat} (h : Cd n W a F) : ∀ w, w ≤ W → Cd n W (gr (run n E F w).2.length a) (run n E F w).1
  | 0, _ => h
  | w + 1, hw => by
    rw [run_succ]
    exact cd_stp Z (by omega) (ech_run G F w).few (cd_run G Z h w (by omega))
theorem sized_elim (n W : Nat) : Sized n W elim := fun a h c F q h1 h2 h3 => q.elim h1 h2 h3
theorem sized_elow (n W : Nat) : Sized n W elow := fun a h c F q h1 h2 h3 => q.elow h1 h2 h3
end Rw
set_option Elab.async false
set_option linter.all false
set_option maxRecDepth 100000
set_option maxHeartbeats 4000000
namespace Lw
open PySem PySem.Spec PyProof.Rows L2 Dn
def b_dot : SM := sRetF [] (mCall m_sum_of (aCons (mFrz (mLc [2, 3] (mRng zipI (aCons (mV 0) (aCons (mV 1) (aNil)))) (gTL 2 (gsC (gN 2) (gsC (gN 3) (gsN)))) (tYesM) (mCall m_times (aCons (mV 2) (aCons (mV 3) (aNil)))))) (aNil)))
def m_dot : List D → Option D := runF 4 b_dot
def b_reduced : SM := sSeq (sOwn [] 2 (mLc [8] (mIt itD (mV 0)) (gN 8) (tYesM) (mFrz (mCallL gList (aCons (mV 8) (aNil)))))) (sSeq (sOwn [] 3 (mLc [5] (mRng rng1 (aCons (mCall gLen (aCons (mV 0) (aNil))) (aNil))) (gN 5) (tYesM) (mFrz (mLc [10] (mRng rng1 (aCons (mCall gLen (aCons (mV 0) (aNil))) (aNil))) (gN 10) (tYesM) (mIte (mTst (mOp dEq (mV 10) (mV 5))) (mC c_UNIT) (mC c_NOUGHT)))))) (sSeq (sOwn [] 4 (mLstL (aNil))) (sSeq (sFor [] (gN 5) (mRng rng1 (aCons (mV 1) (aNil))) (sSeq (sAsgS (gN 6) (mCall gLen (aCons (mV 4) (aNil)))) (sSeq (sAsgLS 7 (mLc [10] (mRng rng2 (aCons (mV 6) (aCons (mCall gLen (aCons (mV 2) (aNil))) (aNil)))) (gN 10) (mTst (mOp dNe (mOp dIx (mOp dIx (mV 2) (mV 10)) (mV 5)) (mC c_NOUGHT))) (mV 10))) (sIf (mTru (mV 7)) (sSeq (sSwp 2 (mV 6) (mOp dIx (mV 7) (mC (.int 0))) (mOp dIx (mV 7) (mC (.int 0))) (mV 6)) (sSeq (sSwp 3 (mV 6) (mOp dIx (mV 7) (mC (.int 0))) (mOp dIx (mV 7) (mC (.int 0))) (mV 6)) (sSeq (sAsgS (gN 9) (mOp dIx (mOp dIx (mV 2) (mV 6)) (mV 5))) (sSeq (sSetLS 2 (mV 6) (mLc [11] (mIt itD (mOp dIx (mV 2) (mV 6))) (gN 11) (tYesM) (mCall m_over (aCons (mV 11) (aCons (mV 9) (aNil)))))) (sSeq (sSetLS 3 (mV 6) (mLc [11] (mIt itD (mOp dIx (mV 3) (mV 6))) (gN 11) (tYesM) (mCall m_over (aCons (mV 11) (aCons (mV 9) (aNil)))))) (sSeq (sForS (gN 10) (mRng rng1 (aCons (mCall gLen (aCons (mV 2) (aNil))) (aNil))) (sIf (mAnd (mTst (mOp dNe (mV 10) (mV 6))) (mTst (mOp dNe (mOp dIx (mOp dIx (mV 2) (mV 10)) (mV 5)) (mC c_NOUGHT)))) (sSeq (sAsgS (gN 9) (mOp dIx (mOp dIx (mV 2) (mV 10)) (mV 5))) (sSeq (sSetLS 2 (mV 10) (mLc [12, 13] (mRng zipI (aCons (mOp dIx (mV 2) (mV 10)) (aCons (mOp dIx (mV 2) (mV 6)) (aNil)))) (gTL 2 (gsC (gN 12) (gsC (gN 13) (gsN)))) (tYesM) (mCall m_minus (aCons (mV 12) (aCons (mCall m_times (aCons (mV 9) (aCons (mV 13) (aNil)))) (aNil)))))) (sSetLS 3 (mV 10) (mLc [12, 13] (mRng zipI (aCons (mOp dIx (mV 3) (mV 10)) (aCons (mOp dIx (mV 3) (mV 6)) (aNil)))) (gTL 2 (gsC (gN 12) (gsC (gN 13) (gsN)))) (tYesM) (mCall m_minus (aCons (mV 12) (aCons (mCall m_times (aCons (mV 9) (aCons (mV 13) (aNil)))) (aNil)))))))) (sNil))) (sAppF [] 4 (mV 5)))))))) (sNil))))) (sRetF [2, 3, 4] (mTup (aCons (mV 2) (aCons (mV 4) (aCons (mV 3) (aNil)))))))))
def m_reduced : List D → Option D := runF 14 b_reduced
def b_solved : SM := sSeq (sAsgF [] (gTL 3 (gsC (gN 5) (gsC (gN 6) (gsC (gN 7) (gsN))))) (mCall m_reduced (aCons (mFrz (mLc [8, 10] (mRng zipI (aCons (mV 0) (aCons (mV 1) (aNil)))) (gTL 2 (gsC (gN 8) (gsC (gN 10) (gsN)))) (tYesM) (mOp dAdd (mFrz (mCallL gList (aCons (mV 8) (aNil)))) (mFrz (mLstL (aCons (mV 10) (aNil))))))) (aCons (mV 2) (aNil))))) (sSeq (sFor [] (gN 3) (mRng rng2 (aCons (mCall gLen (aCons (mV 6) (aNil))) (aCons (mCall gLen (aCons (mV 5) (aNil))) (aNil)))) (sIf (mTst (mOp dNe (mOp dIx (mOp dIx (mV 5) (mV 3)) (mV 2)) (mC c_NOUGHT))) (sRetF [] (mTup (aCons (mC (.str "factors")) (aCons (mOp dIx (mV 7) (mV 3)) (aNil))))) (sNil))) (sSeq (sOwn [] 4 (mOpL repL (mFrz (mLstL (aCons (mC c_NOUGHT) (aNil)))) (mV 2))) (sSeq (sFor [] (gTL 2 (gsC (gN 8) (gsC (gN 9) (gsN)))) (mRng zipF (aCons (mV 5) (aCons (mV 6) (aNil)))) (sSetS 4 (mV 9) (mOp dIx (mV 8) (mV 2)))) (sRetF [4] (mTup (aCons (mC (.str "numbers")) (aCons (mV 4) (aNil))))))))
def m_solved : List D → Option D := runF 11 b_solved
def rd_0 : SM := sOwn [] 2 (mLc [8] (mIt itD (mV 0)) (gN 8) (tYesM) (mFrz (mCallL gList (aCons (mV 8) (aNil)))))
def rd_1 : SM := sOwn [] 3 (mLc [5] (mRng rng1 (aCons (mCall gLen (aCons (mV 0) (aNil))) (aNil))) (gN 5) (tYesM) (mFrz (mLc [10] (mRng rng1 (aCons (mCall gLen (aCons (mV 0) (aNil))) (aNil))) (gN 10) (tYesM) (mIte (mTst (mOp dEq (mV 10) (mV 5))) (mC c_UNIT) (mC c_NOUGHT)))))
def rd_2 : SM := sOwn [] 4 (mLstL (aNil))
def rd_3_0 : SM := sAsgS (gN 6) (mCall gLen (aCons (mV 4) (aNil)))
def rd_3_1 : SM := sAsgLS 7 (mLc [10] (mRng rng2 (aCons (mV 6) (aCons (mCall gLen (aCons (mV 2) (aNil))) (aNil)))) (gN 10) (mTst (mOp dNe (mOp dIx (mOp dIx (mV 2) (mV 10)) (mV 5)) (mC c_NOUGHT))) (mV 10))
def rd_3_2t_0 : SM := sSwp 2 (mV 6) (mOp dIx (mV 7) (mC (.int 0))) (mOp dIx (mV 7) (mC (.int 0))) (mV 6)
def rd_3_2t_1 : SM := sSwp 3 (mV 6) (mOp dIx (mV 7) (mC (.int 0))) (mOp dIx (mV 7) (mC (.int 0))) (mV 6)
def rd_3_2t_2 : SM := sAsgS (gN 9) (mOp dIx (mOp dIx (mV 2) (mV 6)) (mV 5))
def rd_3_2t_3 : SM := sSetLS 2 (mV 6) (mLc [11] (mIt itD (mOp dIx (mV 2) (mV 6))) (gN 11) (tYesM) (mCall m_over (aCons (mV 11) (aCons (mV 9) (aNil)))))
def rd_3_2t_4 : SM := sSetLS 3 (mV 6) (mLc [11] (mIt itD (mOp dIx (mV 3) (mV 6))) (gN 11) (tYesM) (mCall m_over (aCons (mV 11) (aCons (mV 9) (aNil)))))
def rd_3_2t_5_0t_0 : SM := sAsgS (gN 9) (mOp dIx (mOp dIx (mV 2) (mV 10)) (mV 5))
def rd_3_2t_5_0t_1 : SM := sSetLS 2 (mV 10) (mLc [12, 13] (mRng zipI (aCons (mOp dIx (mV 2) (mV 10)) (aCons (mOp dIx (mV 2) (mV 6)) (aNil)))) (gTL 2 (gsC (gN 12) (gsC (gN 13) (gsN)))) (tYesM) (mCall m_minus (aCons (mV 12) (aCons (mCall m_times (aCons (mV 9) (aCons (mV 13) (aNil)))) (aNil)))))
def rd_3_2t_5_0t_2 : SM := sSetLS 3 (mV 10) (mLc [12, 13] (mRng zipI (aCons (mOp dIx (mV 3) (mV 10)) (aCons (mOp dIx (mV 3) (mV 6)) (aNil)))) (gTL 2 (gsC (gN 12) (gsC (gN 13) (gsN)))) (tYesM) (mCall m_minus (aCons (mV 12) (aCons (mCall m_times (aCons (mV 9) (aCons (mV 13) (aNil)))) (aNil)))))
def rd_3_2t_5_0t_b : SM := sSeq rd_3_2t_5_0t_0 (sSeq rd_3_2t_5_0t_1 rd_3_2t_5_0t_2)
def rd_3_2t_5_0 : SM := sIf (mAnd (mTst (mOp dNe (mV 10) (mV 6))) (mTst (mOp dNe (mOp dIx (mOp dIx (mV 2) (mV 10)) (mV 5)) (mC c_NOUGHT)))) rd_3_2t_5_0t_b (sNil)
def rd_3_2t_5_b : SM := rd_3_2t_5_0
def rd_3_2t_5 : SM := sForS (gN 10) (mRng rng1 (aCons (mCall gLen (aCons (mV 2) (aNil))) (aNil))) rd_3_2t_5_b
def rd_3_2t_6 : SM := sAppF [] 4 (mV 5)
def rd_3_2t_b : SM := sSeq rd_3_2t_0 (sSeq rd_3_2t_1 (sSeq rd_3_2t_2 (sSeq rd_3_2t_3 (sSeq rd_3_2t_4 (sSeq rd_3_2t_5 rd_3_2t_6)))))
def rd_3_2 : SM := sIf (mTru (mV 7)) rd_3_2t_b (sNil)
def rd_3_b : SM := sSeq rd_3_0 (sSeq rd_3_1 rd_3_2)
def rd_3 : SM := sFor [] (gN 5) (mRng rng1 (aCons (mV 1) (aNil))) rd_3_b
def rd_4 : SM := sRetF [2, 3, 4] (mTup (aCons (mV 2) (aCons (mV 4) (aCons (mV 3) (aNil)))))
theorem rd_eq : b_reduced = sSeq rd_0 (sSeq rd_1 (sSeq rd_2 (sSeq rd_3 rd_4))) := rfl
def so_0 : SM := sAsgF [] (gTL 3 (gsC (gN 5) (gsC (gN 6) (gsC (gN 7) (gsN))))) (mCall m_reduced (aCons (mFrz (mLc [8, 10] (mRng zipI (aCons (mV 0) (aCons (mV 1) (aNil)))) (gTL 2 (gsC (gN 8) (gsC (gN 10) (gsN)))) (tYesM) (mOp dAdd (mFrz (mCallL gList (aCons (mV 8) (aNil)))) (mFrz (mLstL (aCons (mV 10) (aNil))))))) (aCons (mV 2) (aNil))))
def so_1_0 : SM := sIf (mTst (mOp dNe (mOp dIx (mOp dIx (mV 5) (mV 3)) (mV 2)) (mC c_NOUGHT))) (sRetF [] (mTup (aCons (mC (.str "factors")) (aCons (mOp dIx (mV 7) (mV 3)) (aNil))))) (sNil)
def so_1_b : SM := so_1_0
def so_1 : SM := sFor [] (gN 3) (mRng rng2 (aCons (mCall gLen (aCons (mV 6) (aNil))) (aCons (mCall gLen (aCons (mV 5) (aNil))) (aNil)))) so_1_b
def so_2 : SM := sOwn [] 4 (mOpL repL (mFrz (mLstL (aCons (mC c_NOUGHT) (aNil)))) (mV 2))
def so_3_0 : SM := sSetS 4 (mV 9) (mOp dIx (mV 8) (mV 2))
def so_3_b : SM := so_3_0
def so_3 : SM := sFor [] (gTL 2 (gsC (gN 8) (gsC (gN 9) (gsN)))) (mRng zipF (aCons (mV 5) (aCons (mV 6) (aNil)))) so_3_b
def so_4 : SM := sRetF [4] (mTup (aCons (mC (.str "numbers")) (aCons (mV 4) (aNil))))
theorem so_eq : b_solved = sSeq so_0 (sSeq so_1 (sSeq so_2 (sSeq so_3 so_4))) := rfl
open Rw
/-! rows as data -/
abbrev rowL (W : Nat) (r : Nat → Rat) : List D := (List.range W).map fun j => rD (r j)
def rowD (W : Nat) (r : Nat → Rat) : D := .lst (rowL W r)
def matL (n W : Nat) (F : Mat) : List D := (List.range n).map fun i => rowD W (F i)
theorem row_len (W : Nat) (r : Nat → Rat) : (rowL W r).length = W := by unfold rowL; rw [List.length_map, List.length_range]
theorem mat_len (n W : Nat) (F : Mat) : (matL n W F).length = n := by unfold matL; rw [List.length_map, List.length_range]
theorem row_get {W j : Nat} (r : Nat → Rat) (h : j < W) : (rowL W r)[j]? = some (rD (r j)) := by
  unfold rowL; rw [List.getElem?_map, List.getElem?_range h]; rfl
theorem mat_get {n W i : Nat} (F : Mat) (h : i < n) : (matL n W F)[i]? = some (rowD W (F i)) := by
  unfold matL; rw [List.getElem?_map, List.getElem?_range h]; rfl
theorem row_at {W j : Nat} (r : Nat → Rat) (h : j < W) : atI (rowL W r) (j : Int) = some (rD (r j)) := atI_nat (row_get r h)
theorem mat_at {n W i : Nat} (F : Mat) (h : i < n) : atI (matL n W F) (i : Int) = some (rowD W (F i)) := atI_nat (mat_get F h)
theorem row_congr {W : Nat} {r s : Nat → Rat} (h : ∀ j, j < W → r j = s j) : rowL W r = rowL W s := by
  unfold rowL; exact List.map_congr_left fun j hj => by rw [h j (List.mem_range.mp hj)]
theorem mat_congr {n W : Nat} {F G : Mat} (h : ∀ i, i < n → ∀ j, j < W → F i j = G i j) : matL n W F = matL n W G := by
  unfold matL rowD; exact List.map_congr_left fun i hi => by rw [row_congr (h i (List.mem_range.mp hi))]
theorem mat_set {n W k : Nat} (F : Mat) (r : Nat → Rat) : (matL n W F).set k (.lst (rowL W r)) = matL n W (fun i => if i = k then r else F i) := by
  apply List.ext_getElem?
  intro i
  rw [List.getElem?_set]
  by_cases e : k = i
  · subst e
    rw [if_pos rfl, mat_len]
    by_cases h : k < n
    · rw [if_pos h, mat_get _ h, if_pos rfl]; rfl
    · rw [if_neg h, List.getElem?_eq_none_iff.mpr (by rw [mat_len]; omega)]
  · rw [if_neg e]
    by_cases h : i < n
    · rw [mat_get _ h, mat_get _ h, if_neg (Ne.symm e)]
    · rw [List.getElem?_eq_none_iff.mpr (by rw [mat_len]; omega), List.getElem?_eq_none_iff.mpr (by rw [mat_len]; omega)]
theorem row_noL : ∀ (xs : List Nat) (r : Nat → Rat), noLL (xs.map fun j => rD (r j)) = true
  | [], _ => rfl
  | x :: xs, r => by rw [List.map_cons, x_noLLc, row_noL xs r]; rfl
theorem rowL_noL (W : Nat) (r : Nat → Rat) : noLL (rowL W r) = true := row_noL _ _
theorem mat_swp {n W h k : Nat} (F : Mat) (hh : h < n) (hk : k < n) : ((matL n W F).set h (rowD W (F k))).set k (rowD W (F h)) = matL n W (swp F h k) := by
  unfold rowD
  rw [mat_set, mat_set]
  refine mat_congr fun i hi j hj => ?_
  unfold swp
  by_cases e1 : i = k
  · subst e1
    by_cases e2 : i = h
    · subst e2; simp
    · simp [e2]
  · by_cases e2 : i = h
    · subst e2; simp [e1]
    · simp [e1, e2]
/-- the part that tells what the rows are made of -/
abbrev sh (W : Nat) (A : Mat) : Mat := fun i j => A i (W + j)
theorem sh_swp (W : Nat) (A : Mat) (h k : Nat) : sh W (swp A h k) = swp (sh W A) h k := by
  funext i j; unfold sh swp
  split
  · rfl
  · split <;> rfl
theorem ldD (L : List Nat) : (L.map fun c : Nat => D.int (c : Nat)).length = L.length := by rw [List.length_map]
abbrev ldL (L : List Nat) : List D := L.map fun c : Nat => D.int (c : Nat)
/-- one row less another one's multiple -/
theorem zip_row (W : Nat) (r s : Nat → Rat) : zipD (rowL W r) (rowL W s) = (List.range W).map fun j => D.tup [rD (r j), rD (s j)] := by
  unfold rowL
  generalize List.range W = xs
  induction xs with
  | nil => rfl
  | cons x xs ih => rw [List.map_cons, List.map_cons, List.map_cons, ← ih]; rfl
end Lw
set_option Elab.async false
set_option linter.all false
set_option maxRecDepth 100000
set_option maxHeartbeats 4000000
namespace Lw
open PySem PySem.Spec PyProof.Rows L2 Dn
open Rw
/-! reduced: one column -/
theorem ixn {n k : Nat} (h : k < n) : ixN n (k : Int) = some k := by
  unfold ixN
  rw [if_pos (by omega), if_pos (by omega)]
  simp
theorem rangeD_nat (h : Nat) : ∀ n, rangeD (h : Int) n = (List.range' h n).map fun k : Nat => D.int (k : Nat)
  | 0 => rfl
  | n + 1 => by
    have := rangeD_nat h n
    unfold rangeD at this ⊢
    rw [List.range_succ, List.map_append, this, List.range'_concat, List.map_append]
    simp
theorem first_filter (p : Nat → Bool) : ∀ n h, ((List.range' h n).filter p).head? = first p h n
  | 0, h => rfl
  | n + 1, h => by
    rw [List.range'_succ]
    unfold first
    cases e : p h with
    | true => rw [List.filter_cons_of_pos e]; rfl
    | false => rw [List.filter_cons_of_neg (by simp [e])]; exact first_filter p n (h + 1)
def RE (R w : D) (X Y Z : List D) (c : Nat) (x6 x7 x8 x9 x10 x11 x12 x13 : Sl) : Dn.Env := [.val R, .val w, .own X, .own Y, .own Z, .val (.int (c : Nat)), x6, x7, x8, x9, x10, x11, x12, x13]
section
variable {n W c : Nat} {R w : D} {X Y Z : List D} {L : List Nat} {A : Mat} {x6 x7 x8 x9 x10 x11 x12 x13 : Sl}
theorem rd_k0 : rd_3_0 (RE R w X Y (ldL L) c x6 x7 x8 x9 x10 x11 x12 x13) none = some (.nx (RE R w X Y (ldL L) c (.val (.int (L.length : Nat))) x7 x8 x9 x10 x11 x12 x13) none) := by
  simp [rd_3_0, RE]
abbrev someL (A : Mat) (c h n : Nat) : List Nat := (List.range' h (n - h)).filter fun k => decide (A k c ≠ 0)
theorem noLL_ints : ∀ xs : List Nat, noLL (xs.map fun k : Nat => D.int (k : Nat)) = true
  | [] => rfl
  | x :: xs => by rw [List.map_cons, x_noLLc, noLL_ints xs]; rfl
theorem rd_k1 {h : Nat} (hn : n ≤ 1000) (hh : h ≤ n) (hc : c < W) : rd_3_1 (RE R w (matL n W A) Y Z c (.val (.int (h : Nat))) x7 x8 x9 x10 x11 x12 x13) none = some (.nx (RE R w (matL n W A) Y Z c (.val (.int (h : Nat))) (.val (.lst (ldL (someL A c h n)))) x8 x9 x10 x11 x12 x13) none) := by
  unfold rd_3_1
  have src : mRng rng2 (aCons (mV 6) (aCons (mCall gLen (aCons (mV 2) (aNil))) (aNil))) (RE R w (matL n W A) Y Z c (.val (.int (h : Nat))) x7 x8 x9 x10 x11 x12 x13) none = some ((List.range' h (n - h)).map (fun k : Nat => D.int (k : Nat)), none) := by
    have e := x_rng2 (h : Int) (n : Int) (by omega) (by omega) (by omega) (by omega)
    rw [show ((n : Int) - (h : Int)).toNat = n - h by omega, rangeD_nat] at e
    simp [RE, mat_len, e]
  have lc := lc_filter (E := wipeE (RE R w (matL n W A) Y Z c (.val (.int (h : Nat))) x7 x8 x9 x10 x11 x12 x13) [10]) (pl := none) (gN 10) (mTst (mOp dNe (mOp dIx (mOp dIx (mV 2) (mV 10)) (mV 5)) (mC c_NOUGHT))) (mV 10) (fun k : Nat => D.int (k : Nat)) (fun k => decide (A k c ≠ 0)) (fun k : Nat => D.int (k : Nat)) (List.range' h (n - h)) fun k hk => by
    have hk' : k < n := by have := List.mem_range'_1.mp hk; omega
    have i1 := mat_at (W := W) A hk'
    have i2 := row_at (A k) hc
    have i3 := ne_rat (A k c) 0
    refine ⟨_, rfl, ?_, fun _ => ?_⟩
    · generalize matL n W A = M at *
      simp [RE, i1, rowD, i2, nought, i3]
    · simp [RE]
  have zl : sized ((List.range' h (n - h)).map (fun k : Nat => D.int (k : Nat))).length = true := x_sized (by rw [List.length_map, List.length_range']; omega)
  rw [x_sAsgLS, x_mLc, src]
  simp only [Option.bind_some, zl, x_bT]
  rw [lc]
  simp only [Option.bind_some, noLL_ints, x_bT]
  rfl
/-- two rows change places -/
theorem swp_row {i : Nat} {E : Dn.Env} {G : Mat} {V h k : Nat} (s : List D) (hE : E[i]? = some (.own (matL n V G))) (h6 : E[6]? = some (.val (.int (h : Nat)))) (h7 : E[7]? = some (.val (.lst (.int (k : Nat) :: s)))) (i6 : i ≠ 6) (i7 : i ≠ 7) (hh : h < n) (hk : k < n) :
    sSwp i (mV 6) (mOp dIx (mV 7) (mC (.int 0))) (mOp dIx (mV 7) (mC (.int 0))) (mV 6) E none = some (.nx (E.set i (.own (matL n V (swp G h k)))) none) := by
  have a6 : mV 6 E none = some (.int (h : Nat), none) := x_mV 6 h6
  have a7 : mOp dIx (mV 7) (mC (.int 0)) E none = some (.int (k : Nat), none) := by
    rw [x_mOp, x_mV 7 h7]; simp
  have b7 : ∀ z, mOp dIx (mV 7) (mC (.int 0)) (E.set i z) none = some (.int (k : Nat), none) := fun z => by
    rw [x_mOp, x_mV 7 (by rw [List.getElem?_set_ne i7]; exact h7)]; simp
  have := swp_ok (i := i) (m1 := mV 6) (m2 := mOp dIx (mV 7) (mC (.int 0))) (m3 := mOp dIx (mV 7) (mC (.int 0))) (m4 := mV 6) a7 a6 hE (mat_at G hk) (mat_at G hh) a6 (j1 := h) (by rw [mat_len]; exact ixn hh) (b7 _) (j2 := k) (by rw [mat_len]; exact ixn hk)
  rw [this, mat_swp G hh hk]
theorem rd_k2a {h k : Nat} {s : List D} (hh : h < n) (hk : k < n) : rd_3_2t_0 (RE R w (matL n W A) Y Z c (.val (.int (h : Nat))) (.val (.lst (.int (k : Nat) :: s))) x8 x9 x10 x11 x12 x13) none = some (.nx (RE R w (matL n W (swp A h k)) Y Z c (.val (.int (h : Nat))) (.val (.lst (.int (k : Nat) :: s))) x8 x9 x10 x11 x12 x13) none) := by
  unfold rd_3_2t_0
  rw [swp_row s (G := A) (V := W) rfl rfl rfl (by decide) (by decide) hh hk]; rfl
theorem rd_k2b {h k m : Nat} {s : List D} {B : Mat} (hh : h < n) (hk : k < n) : rd_3_2t_1 (RE R w X (matL n m B) Z c (.val (.int (h : Nat))) (.val (.lst (.int (k : Nat) :: s))) x8 x9 x10 x11 x12 x13) none = some (.nx (RE R w X (matL n m (swp B h k)) Z c (.val (.int (h : Nat))) (.val (.lst (.int (k : Nat) :: s))) x8 x9 x10 x11 x12 x13) none) := by
  unfold rd_3_2t_1
  rw [swp_row s (G := B) (V := m) rfl rfl rfl (by decide) (by decide) hh hk]; rfl
theorem rd_k2c {h : Nat} (hh : h < n) (hc : c < W) : rd_3_2t_2 (RE R w (matL n W A) Y Z c (.val (.int (h : Nat))) x7 x8 x9 x10 x11 x12 x13) none = some (.nx (RE R w (matL n W A) Y Z c (.val (.int (h : Nat))) x7 x8 (.val (rD (A h c))) x10 x11 x12 x13) none) := by
  have i1 := mat_at (W := W) A hh
  have i2 := row_at (A h) hc
  generalize matL n W A = M at *
  unfold rd_3_2t_2
  rw [x_sAsgS]
  have : mOp dIx (mOp dIx (mV 2) (mV 6)) (mV 5) (RE R w M Y Z c (.val (.int (h : Nat))) x7 x8 x9 x10 x11 x12 x13) none = some (rD (A h c), none) := by simp [RE, i1, rowD, i2]
  rw [this]
  rfl
/-- the row h by its number at c -/
theorem div_row {i h V : Nat} {E : Dn.Env} {G : Mat} {p : Rat} (hE : E[i]? = some (.own (matL n V G))) (h6 : E[6]? = some (.val (.int (h : Nat)))) (h9 : E[9]? = some (.val (rD p))) (l : 11 < E.length) (i11 : i ≠ 11) (hh : h < n) (hV : V ≤ 1000)
    (hok : ∀ j, j < V → m_over [rD (G h j), rD p] = some (rD (G h j / p))) :
    sSetLS i (mV 6) (mLc [11] (mIt itD (mOp dIx (mV i) (mV 6))) (gN 11) (tYesM) (mCall m_over (aCons (mV 11) (aCons (mV 9) (aNil))))) E none = some (.nx (E.set i (.own (matL n V (fun t => if t = h then (fun j => G h j / p) else G t)))) none) := by
  have a6 : mV 6 E none = some (.int (h : Nat), none) := x_mV 6 h6
  have ai : mV i E none = some (.lst (matL n V G), none) := by rw [x_mVr, hE]; rfl
  have src : mIt itD (mOp dIx (mV i) (mV 6)) E none = some ((List.range V).map (fun j => rD (G h j)), none) := by
    rw [x_mIt, x_mOp, ai]
    simp only [Option.bind_some, a6, x_ixL, mat_at G hh, Option.map_some]
    rfl
  have lc := lc_map (E := wipeE E [11]) (pl := none) (gN 11) (mCall m_over (aCons (mV 11) (aCons (mV 9) (aNil)))) (fun j => rD (G h j)) (fun j => rD (G h j / p)) (List.range V) fun j hj => by
    refine ⟨_, rfl, ?_⟩
    have e1 : mV 11 ((wipeE E [11]).set 11 (.val (rD (G h j)))) none = some (rD (G h j), none) := x_mV 11 (by
      rw [List.getElem?_set_self]; simpa using l)
    have e2 : mV 9 ((wipeE E [11]).set 11 (.val (rD (G h j)))) none = some (rD p, none) := x_mV 9 (by
      rw [List.getElem?_set_ne (by decide), x_wipeC, x_wipe0, List.getElem?_set_ne (by decide)]; exact h9)
    rw [x_mCall, x_aCons, e1]
    simp only [Option.bind_some, x_aCons, e2, x_aNil, hok j (List.mem_range.mp hj), Option.map_some]
  have zl : sized ((List.range V).map (fun j => rD (G h j))).length = true := x_sized (by rw [List.length_map, List.length_range]; omega)
  have em : mLc [11] (mIt itD (mOp dIx (mV i) (mV 6))) (gN 11) (tYesM) (mCall m_over (aCons (mV 11) (aCons (mV 9) (aNil)))) E none = some (rowL V (fun j => G h j / p), none) := by
    rw [x_mLc, src]
    simp only [Option.bind_some, zl, x_bT]
    exact lc
  rw [setLS_ok em a6 hE (j := h) (by rw [mat_len]; exact ixn hh) (rowL_noL _ _), mat_set]
theorem rd_k2d {h : Nat} {p : Rat} (hh : h < n) (hV : W ≤ 1000) (hok : ∀ j, j < W → m_over [rD (A h j), rD p] = some (rD (A h j / p))) : rd_3_2t_3 (RE R w (matL n W A) Y Z c (.val (.int (h : Nat))) x7 x8 (.val (rD p)) x10 x11 x12 x13) none = some (.nx (RE R w (matL n W (fun t => if t = h then (fun j => A h j / p) else A t)) Y Z c (.val (.int (h : Nat))) x7 x8 (.val (rD p)) x10 x11 x12 x13) none) := by
  unfold rd_3_2t_3
  exact div_row (E := RE R w (matL n W A) Y Z c (.val (.int (h : Nat))) x7 x8 (.val (rD p)) x10 x11 x12 x13) (G := A) (V := W) (p := p) rfl rfl rfl (show 11 < 14 by decide) (by decide) hh hV hok
theorem rd_k2e {h m : Nat} {p : Rat} {B : Mat} (hh : h < n) (hV : m ≤ 1000) (hok : ∀ j, j < m → m_over [rD (B h j), rD p] = some (rD (B h j / p))) : rd_3_2t_4 (RE R w X (matL n m B) Z c (.val (.int (h : Nat))) x7 x8 (.val (rD p)) x10 x11 x12 x13) none = some (.nx (RE R w X (matL n m (fun t => if t = h then (fun j => B h j / p) else B t)) Z c (.val (.int (h : Nat))) x7 x8 (.val (rD p)) x10 x11 x12 x13) none) := by
  unfold rd_3_2t_4
  exact div_row (E := RE R w X (matL n m B) Z c (.val (.int (h : Nat))) x7 x8 (.val (rD p)) x10 x11 x12 x13) (G := B) (V := m) (p := p) rfl rfl rfl (show 11 < 14 by decide) (by decide) hh hV hok
/-- a row less a multiple of the row h -/
theorem cut_row {i h k V : Nat} {E : Dn.Env} {G : Mat} {f : Rat} (hE : E[i]? = some (.own (matL n V G))) (h6 : E[6]? = some (.val (.int (h : Nat)))) (h10 : E[10]? = some (.val (.int (k : Nat)))) (h9 : E[9]? = some (.val (rD f))) (l : 13 < E.length) (hh : h < n) (hk : k < n) (hV : V ≤ 1000)
    (hok1 : ∀ j, j < V → m_times [rD f, rD (G h j)] = some (rD (f * G h j))) (hok2 : ∀ j, j < V → m_minus [rD (G k j), rD (f * G h j)] = some (rD (G k j - f * G h j))) :
    sSetLS i (mV 10) (mLc [12, 13] (mRng zipI (aCons (mOp dIx (mV i) (mV 10)) (aCons (mOp dIx (mV i) (mV 6)) (aNil)))) (gTL 2 (gsC (gN 12) (gsC (gN 13) (gsN)))) (tYesM) (mCall m_minus (aCons (mV 12) (aCons (mCall m_times (aCons (mV 9) (aCons (mV 13) (aNil)))) (aNil))))) E none = some (.nx (E.set i (.own (matL n V (fun t => if t = k then (fun j => G k j - f * G h j) else G t)))) none) := by
  have a6 : mV 6 E none = some (.int (h : Nat), none) := x_mV 6 h6
  have a10 : mV 10 E none = some (.int (k : Nat), none) := x_mV 10 h10
  have ai : mV i E none = some (.lst (matL n V G), none) := by rw [x_mVr, hE]; rfl
  have hz : zipI [rowD V (G k), rowD V (G h)] = some ((List.range V).map fun j => D.tup [rD (G k j), rD (G h j)]) := by
    unfold zipI rowD
    simp only [x_itL, row_len, if_true]
    rw [zip_row]
  have src : mRng zipI (aCons (mOp dIx (mV i) (mV 10)) (aCons (mOp dIx (mV i) (mV 6)) (aNil))) E none = some ((List.range V).map (fun j => D.tup [rD (G k j), rD (G h j)]), none) := by
    rw [x_mRng, x_aCons, x_mOp, ai]
    simp only [Option.bind_some, a10, x_ixL, mat_at G hk, Option.map_some, x_aCons, x_mOp, ai, a6, mat_at G hh, x_aNil, hz]
  have lc := lc_map (E := wipeE E [12, 13]) (pl := none) (gTL 2 (gsC (gN 12) (gsC (gN 13) (gsN)))) (mCall m_minus (aCons (mV 12) (aCons (mCall m_times (aCons (mV 9) (aCons (mV 13) (aNil)))) (aNil)))) (fun j => D.tup [rD (G k j), rD (G h j)]) (fun j => rD (G k j - f * G h j)) (List.range V) fun j hj => by
    refine ⟨((wipeE E [12, 13]).set 12 (.val (rD (G k j)))).set 13 (.val (rD (G h j))), by rw [x_gTLt]; rfl, ?_⟩
    have e1 : mV 12 (((wipeE E [12, 13]).set 12 (.val (rD (G k j)))).set 13 (.val (rD (G h j)))) none = some (rD (G k j), none) := x_mV 12 (by
      rw [List.getElem?_set_ne (by decide), List.getElem?_set_self]; simp; omega)
    have e2 : mV 13 (((wipeE E [12, 13]).set 12 (.val (rD (G k j)))).set 13 (.val (rD (G h j)))) none = some (rD (G h j), none) := x_mV 13 (by
      rw [List.getElem?_set_self]; simp; omega)
    have e3 : mV 9 (((wipeE E [12, 13]).set 12 (.val (rD (G k j)))).set 13 (.val (rD (G h j)))) none = some (rD f, none) := x_mV 9 (by
      rw [List.getElem?_set_ne (by decide), List.getElem?_set_ne (by decide), x_wipeC, x_wipeC, x_wipe0, List.getElem?_set_ne (by decide), List.getElem?_set_ne (by decide)]; exact h9)
    rw [x_mCall, x_aCons, e1]
    simp only [Option.bind_some, x_aCons, x_mCall, e2, e3, x_aNil, hok1 j (List.mem_range.mp hj), hok2 j (List.mem_range.mp hj), Option.map_some]
  have zl : sized ((List.range V).map (fun j => D.tup [rD (G k j), rD (G h j)])).length = true := x_sized (by rw [List.length_map, List.length_range]; omega)
  have em : mLc [12, 13] (mRng zipI (aCons (mOp dIx (mV i) (mV 10)) (aCons (mOp dIx (mV i) (mV 6)) (aNil)))) (gTL 2 (gsC (gN 12) (gsC (gN 13) (gsN)))) (tYesM) (mCall m_minus (aCons (mV 12) (aCons (mCall m_times (aCons (mV 9) (aCons (mV 13) (aNil)))) (aNil)))) E none = some (rowL V (fun j => G k j - f * G h j), none) := by
    rw [x_mLc, src]
    simp only [Option.bind_some, zl, x_bT]
    exact lc
  rw [setLS_ok em a10 hE (j := k) (by rw [mat_len]; exact ixn hk) (rowL_noL _ _), mat_set]
/-- the rows k < t are done -/
def part (A : Mat) (h c t : Nat) : Mat := fun i => if i < t ∧ i ≠ h then (fun j => A i j - A i c * A h j) else A i
theorem part_zero (A : Mat) (h c : Nat) : part A h c 0 = A := by funext i; unfold part; rw [if_neg (by omega)]
theorem part_h (A : Mat) (h c t : Nat) : part A h c t h = A h := by unfold part; rw [if_neg (by omega)]
theorem part_t (A : Mat) (h c t : Nat) : part A h c t t = A t := by unfold part; rw [if_neg (by omega)]
theorem part_succ {A : Mat} {h c t : Nat} (ht : t ≠ h) : part A h c (t + 1) = fun i => if i = t then (fun j => A t j - A t c * A h j) else part A h c t i := by
  funext i
  unfold part
  by_cases e : i = t
  · subst e; rw [if_pos ⟨by omega, ht⟩, if_pos rfl]
  · rw [if_neg e]
    by_cases g : i < t ∧ i ≠ h
    · rw [if_pos g, if_pos ⟨by omega, g.2⟩]
    · rw [if_neg g, if_neg (by omega)]
theorem part_skip {A : Mat} {h c t : Nat} (ht : t = h ∨ A t c = 0) : part A h c (t + 1) = part A h c t := by
  funext i
  unfold part
  by_cases e : i = t
  · subst e
    rcases ht with ht | ht
    · rw [if_neg (by omega), if_neg (by omega)]
    · rw [if_neg (by omega : ¬ (i < i ∧ i ≠ h))]
      split
      · funext j; rw [ht]; grind
      · rfl
  · by_cases g : i < t ∧ i ≠ h
    · rw [if_pos g, if_pos ⟨by omega, g.2⟩]
    · rw [if_neg g, if_neg (by omega)]
/-- .. and what they are made of -/
def partM (A B : Mat) (h c t : Nat) : Mat := fun i => if i < t ∧ i ≠ h then (fun j => B i j - A i c * B h j) else B i
theorem partM_zero (A B : Mat) (h c : Nat) : partM A B h c 0 = B := by funext i; unfold partM; rw [if_neg (by omega)]
theorem partM_h (A B : Mat) (h c t : Nat) : partM A B h c t h = B h := by unfold partM; rw [if_neg (by omega)]
theorem partM_t (A B : Mat) (h c t : Nat) : partM A B h c t t = B t := by unfold partM; rw [if_neg (by omega)]
theorem partM_succ {A B : Mat} {h c t : Nat} (ht : t ≠ h) : partM A B h c (t + 1) = fun i => if i = t then (fun j => B t j - A t c * B h j) else partM A B h c t i := by
  funext i
  unfold partM
  by_cases e : i = t
  · subst e; rw [if_pos ⟨by omega, ht⟩, if_pos rfl]
  · rw [if_neg e]
    by_cases g : i < t ∧ i ≠ h
    · rw [if_pos g, if_pos ⟨by omega, g.2⟩]
    · rw [if_neg g, if_neg (by omega)]
theorem partM_skip {A B : Mat} {h c t : Nat} (ht : t = h ∨ A t c = 0) : partM A B h c (t + 1) = partM A B h c t := by
  funext i
  unfold partM
  by_cases e : i = t
  · subst e
    rcases ht with ht | ht
    · rw [if_neg (by omega), if_neg (by omega)]
    · rw [if_neg (by omega : ¬ (i < i ∧ i ≠ h))]
      split
      · funext j; rw [ht]; grind
      · rfl
  · by_cases g : i < t ∧ i ≠ h
    · rw [if_pos g, if_pos ⟨by omega, g.2⟩]
    · rw [if_neg g, if_neg (by omega)]
/-- numbers that may be cut: all that is asked -/
structure Cut (n W : Nat) (A G : Mat) (h c : Nat) : Prop where
  mul : ∀ k, k < n → ∀ j, j < W → m_times [rD (A k c), rD (G h j)] = some (rD (A k c * G h j))
  sub : ∀ k, k < n → ∀ j, j < W → m_minus [rD (G k j), rD (A k c * G h j)] = some (rD (G k j - A k c * G h j))
theorem cut_turn {h t m : Nat} {B : Mat} (hh : h < n) (ht : t < n) (hc : c < W) (hW : W ≤ 1000) (hm : m ≤ 1000) (q1 : Cut n W A A h c) (q2 : Cut n m A B h c) (x9 x10 x12 x13 : Sl) :
    ∃ y9 y12 y13, rd_3_2t_5_b (RE R w (matL n W (part A h c t)) (matL n m (partM A B h c t)) Z c (.val (.int (h : Nat))) x7 x8 x9 (.val (.int (t : Nat))) x11 x12 x13) none =
      some (.nx (RE R w (matL n W (part A h c (t + 1))) (matL n m (partM A B h c (t + 1))) Z c (.val (.int (h : Nat))) x7 x8 y9 (.val (.int (t : Nat))) x11 y12 y13) none) := by
  have i1 := mat_at (W := W) (part A h c t) ht
  rw [part_t] at i1
  have i2 := row_at (A t) hc
  have i3 := ne_rat (A t c) 0
  have i4 : decide ((t : Int) = (h : Int)) = decide (t = h) := by
    by_cases e : t = h
    · rw [decide_eq_true e, decide_eq_true (by omega)]
    · rw [decide_eq_false e, decide_eq_false (by omega)]
  have tst : mAnd (mTst (mOp dNe (mV 10) (mV 6))) (mTst (mOp dNe (mOp dIx (mOp dIx (mV 2) (mV 10)) (mV 5)) (mC c_NOUGHT))) (RE R w (matL n W (part A h c t)) (matL n m (partM A B h c t)) Z c (.val (.int (h : Nat))) x7 x8 x9 (.val (.int (t : Nat))) x11 x12 x13) none = some (!decide (t = h) && !decide (A t c = 0), none) := by
    generalize matL n W (part A h c t) = M at *
    generalize matL n m (partM A B h c t) = M2 at *
    by_cases e : t = h
    · simp [RE, e]
    · have e' : ¬ (t : Int) = (h : Int) := by omega
      simp [RE, e, e', i1, rowD, i2, nought, i3]
  unfold rd_3_2t_5_b rd_3_2t_5_0
  rw [x_sIf, tst]
  simp only [Option.bind_some]
  by_cases e : t = h ∨ A t c = 0
  · have : (!decide (t = h) && !decide (A t c = 0)) = false := by
      rcases e with e | e <;> simp [e]
    rw [this, x_bF, x_sNil, part_skip e, partM_skip e]
    exact ⟨x9, x12, x13, rfl⟩
  · have e1 : t ≠ h := fun z => e (.inl z)
    have e2 : A t c ≠ 0 := fun z => e (.inr z)
    have : (!decide (t = h) && !decide (A t c = 0)) = true := by simp [e1, e2]
    rw [this, x_bT]
    refine ⟨.val (rD (A t c)), x12, x13, ?_⟩
    have k1 : rd_3_2t_5_0t_0 (RE R w (matL n W (part A h c t)) (matL n m (partM A B h c t)) Z c (.val (.int (h : Nat))) x7 x8 x9 (.val (.int (t : Nat))) x11 x12 x13) none = some (.nx (RE R w (matL n W (part A h c t)) (matL n m (partM A B h c t)) Z c (.val (.int (h : Nat))) x7 x8 (.val (rD (A t c))) (.val (.int (t : Nat))) x11 x12 x13) none) := by
      unfold rd_3_2t_5_0t_0
      generalize matL n W (part A h c t) = M at *
      generalize matL n m (partM A B h c t) = M2 at *
      rw [x_sAsgS]
      have : mOp dIx (mOp dIx (mV 2) (mV 10)) (mV 5) (RE R w M M2 Z c (.val (.int (h : Nat))) x7 x8 x9 (.val (.int (t : Nat))) x11 x12 x13) none = some (rD (A t c), none) := by simp [RE, i1, rowD, i2]
      rw [this]
      rfl
    have k2 : rd_3_2t_5_0t_1 (RE R w (matL n W (part A h c t)) (matL n m (partM A B h c t)) Z c (.val (.int (h : Nat))) x7 x8 (.val (rD (A t c))) (.val (.int (t : Nat))) x11 x12 x13) none = some (.nx (RE R w (matL n W (part A h c (t + 1))) (matL n m (partM A B h c t)) Z c (.val (.int (h : Nat))) x7 x8 (.val (rD (A t c))) (.val (.int (t : Nat))) x11 x12 x13) none) := by
      unfold rd_3_2t_5_0t_1
      rw [cut_row (E := RE R w (matL n W (part A h c t)) (matL n m (partM A B h c t)) Z c (.val (.int (h : Nat))) x7 x8 (.val (rD (A t c))) (.val (.int (t : Nat))) x11 x12 x13) (i := 2) (G := part A h c t) (V := W) (f := A t c) rfl rfl rfl rfl (show 13 < 14 by decide) hh ht hW (by rw [part_h]; exact q1.mul t ht) (by rw [part_h, part_t]; exact q1.sub t ht), part_h, part_t, ← part_succ e1]
      rfl
    have k3 : rd_3_2t_5_0t_2 (RE R w (matL n W (part A h c (t + 1))) (matL n m (partM A B h c t)) Z c (.val (.int (h : Nat))) x7 x8 (.val (rD (A t c))) (.val (.int (t : Nat))) x11 x12 x13) none = some (.nx (RE R w (matL n W (part A h c (t + 1))) (matL n m (partM A B h c (t + 1))) Z c (.val (.int (h : Nat))) x7 x8 (.val (rD (A t c))) (.val (.int (t : Nat))) x11 x12 x13) none) := by
      unfold rd_3_2t_5_0t_2
      rw [cut_row (E := RE R w (matL n W (part A h c (t + 1))) (matL n m (partM A B h c t)) Z c (.val (.int (h : Nat))) x7 x8 (.val (rD (A t c))) (.val (.int (t : Nat))) x11 x12 x13) (i := 3) (G := partM A B h c t) (V := m) (f := A t c) rfl rfl rfl rfl (show 13 < 14 by decide) hh ht hm (by rw [partM_h]; exact q2.mul t ht) (by rw [partM_h, partM_t]; exact q2.sub t ht), partM_h, partM_t, ← partM_succ e1]
      rfl
    unfold rd_3_2t_5_0t_b
    rw [x_sSeq, k1, x_nxN, x_sSeq, k2, x_nxN, k3]
theorem cut_all {h m : Nat} {B : Mat} (hn : n ≤ 1000) (hh : h < n) (hc : c < W) (hW : W ≤ 1000) (hm : m ≤ 1000) (q1 : Cut n W A A h c) (q2 : Cut n m A B h c) (x9 x10 x12 x13 : Sl) :
    ∃ y9 y10 y12 y13, rd_3_2t_5 (RE R w (matL n W A) (matL n m B) Z c (.val (.int (h : Nat))) x7 x8 x9 x10 x11 x12 x13) none =
      some (.nx (RE R w (matL n W (part A h c n)) (matL n m (partM A B h c n)) Z c (.val (.int (h : Nat))) x7 x8 y9 y10 x11 y12 y13) none) := by
  have src : mRng rng1 (aCons (mCall gLen (aCons (mV 2) (aNil))) (aNil)) (RE R w (matL n W A) (matL n m B) Z c (.val (.int (h : Nat))) x7 x8 x9 x10 x11 x12 x13) none = some ((List.range n).map (fun i => D.int ((0 : Int) + (i : Nat))), none) := by
    have e := x_rng1 (n : Int) (by omega) (by omega)
    rw [Int.toNat_natCast, rangeD_map] at e
    simp [RE, mat_len, e]
  unfold rd_3_2t_5
  rw [x_sForS src]
  obtain ⟨E', p', e1, e2⟩ := for_inv (g := gN 10) (b := rd_3_2t_5_b) (fun i : Nat => D.int ((0 : Int) + (i : Nat))) (fun t E p => p = none ∧ ∃ y9 y10 y12 y13, E = RE R w (matL n W (part A h c t)) (matL n m (partM A B h c t)) Z c (.val (.int (h : Nat))) x7 x8 y9 y10 x11 y12 y13) (List.range n) 0 _ none ⟨rfl, x9, x10, x12, x13, by rw [part_zero, partM_zero]⟩ fun j t E p hj hp => by
    obtain ⟨rfl, y9, y10, y12, y13, rfl⟩ := hp
    have hjn : j < n := by have := (List.getElem?_eq_some_iff.mp hj).1; rwa [List.length_range] at this
    have : t = j := by rw [List.getElem?_range hjn] at hj; exact (Option.some.inj hj).symm
    subst this
    rw [Nat.zero_add, Int.zero_add]
    refine ⟨_, rfl, ?_⟩
    obtain ⟨z9, z12, z13, e⟩ := cut_turn (R := R) (w := w) (Z := Z) (x7 := x7) (x8 := x8) (x11 := x11) hh hjn hc hW hm q1 q2 y9 y10 y12 y13
    exact ⟨_, none, .inl e, rfl, z9, _, z12, z13, rfl⟩
  obtain ⟨rfl, y9, y10, y12, y13, rfl⟩ := e2
  rw [e1, Nat.zero_add, List.length_range]
  exact ⟨y9, y10, y12, y13, rfl⟩
end
end Lw
set_option Elab.async false
set_option linter.all false
set_option maxRecDepth 100000
set_option maxHeartbeats 4000000
namespace Lw
open PySem PySem.Spec PyProof.Rows L2 Dn
open Rw
/-! reduced: all columns -/
section
variable {n W c : Nat} {R w : D} {X Y Z : List D} {L : List Nat} {A : Mat} {x6 x7 x8 x9 x10 x11 x12 x13 : Sl}
def norm (A : Mat) (h c : Nat) (B : Mat) : Mat := fun t => if t = h then (fun j => B h j / A h c) else B t
theorem norm_h (A : Mat) (h c : Nat) (B : Mat) : norm A h c B h = fun j => B h j / A h c := by unfold norm; rw [if_pos rfl]
theorem norm_i {A : Mat} {h c : Nat} {B : Mat} {i : Nat} (e : i ≠ h) : norm A h c B i = B i := by unfold norm; rw [if_neg e]
theorem part_all {h : Nat} (hp : A h c ≠ 0) : matL n W (part (norm A h c A) h c n) = matL n W (elim A h c) := by
  refine mat_congr fun i hi j hj => ?_
  unfold part
  by_cases e : i = h
  · subst e; rw [if_neg (by omega), norm_h, elim_h]
  · rw [if_pos ⟨hi, e⟩, norm_i e, norm_h, elim_i e]
theorem partM_all {h m : Nat} (hp : A h c ≠ 0) : matL n m (partM (norm A h c A) (norm A h c (sh W A)) h c n) = matL n m (sh W (elim A h c)) := by
  refine mat_congr fun i hi j hj => ?_
  unfold partM sh
  by_cases e : i = h
  · subst e; rw [if_neg (by omega), norm_h, elim_h]
  · rw [if_pos ⟨hi, e⟩, norm_i e, norm_i e, norm_h, elim_i e]
theorem Ok.of {a : Nat} {r : Rat} (h : Sm a r) (ha : a ≤ 4000) : Ok r := h.mono ha
theorem norm_sm {a h V : Nat} (hA : Cd n V a A) (hh : h < n) (hc : c < V) (hp : A h c ≠ 0) {j : Nat} (hj : j < V) : Sm (2 * a + 2) (A h j / A h c) := by
  have := (hA.elim hh hc hp).sm hh hj
  rw [elim_h] at this
  exact this
theorem one_sm : Sm 1 (1 : Rat) := by unfold Sm; decide
/-- what the cutting asks of the numbers -/
theorem cut_of {a h m : Nat} {B : Mat} (hAc : ∀ k, k < n → Sm (a + 1) (A k c)) (hp : A h c ≠ 0) (hB : ∀ k, k < n → ∀ j, j < m → Sm (a + 1) (B k j)) (hN : ∀ j, j < m → Sm (2 * a + 2) (B h j / A h c)) (ha : 3 * a + 3 ≤ 4000) :
    Cut n m (norm A h c A) (norm A h c B) h c := by
  have s1 : ∀ k, k < n → Sm (a + 1) (norm A h c A k c) := fun k hk => by
    by_cases e : k = h
    · subst e; rw [norm_h]
      have : A k c / A k c = 1 := by grind
      dsimp only
      rw [this]; exact one_sm.mono (by omega)
    · rw [norm_i e]; exact hAc k hk
  have s2 : ∀ k, k < n → ∀ j, j < m → Sm (2 * a + 2) (norm A h c B k j) := fun k hk j hj => by
    by_cases e : k = h
    · subst e; rw [norm_h]; exact hN j hj
    · rw [norm_i e]; exact (hB k hk j hj).mono (by omega)
  have s3 : ∀ j, j < m → Sm (2 * a + 2) (norm A h c B h j) := fun j hj => by rw [norm_h]; exact hN j hj
  refine ⟨fun k hk j hj => times_ok ((s1 k hk).mono (by omega)) ((s3 j hj).mono (by omega)), fun k hk j hj => minus_ok ((s2 k hk j hj).mono (by omega)) (((s1 k hk).mul (s3 j hj)).mono (by omega))⟩
theorem col_ok {a : Nat} (hn : n ≤ 900) (hW : W + n ≤ 1000) (hL : L.length ≤ n) (hc : c < W) (hA : Cd n (W + n) a A) (ha : 3 * a + 3 ≤ 4000) (x6 x7 x8 x9 x10 x11 x12 x13 : Sl) :
    ∃ y6 y7 y8 y9 y10 y11 y12 y13, rd_3_b (RE R w (matL n W A) (matL n n (sh W A)) (ldL L) c x6 x7 x8 x9 x10 x11 x12 x13) none =
      some (.nx (RE R w (matL n W (stp n elim (A, L) c).1) (matL n n (sh W (stp n elim (A, L) c).1)) (ldL (stp n elim (A, L) c).2) c y6 y7 y8 y9 y10 y11 y12 y13) none) := by
  have ff := first_filter (fun k => decide (A k c ≠ 0)) (n - L.length) L.length
  unfold rd_3_b
  rw [x_sSeq, rd_k0, x_nxN, x_sSeq, rd_k1 (by omega) hL hc, x_nxN]
  unfold rd_3_2 stp
  dsimp only
  cases e : first (fun k => decide (A k c ≠ 0)) L.length (n - L.length) with
  | none =>
    rw [e] at ff
    have : someL A c L.length n = [] := List.head?_eq_none_iff.mp ff
    rw [this]
    refine ⟨.val (.int (L.length : Nat)), .val (.lst (ldL [])), x8, x9, x10, x11, x12, x13, ?_⟩
    rw [x_sIf]
    have t : mTru (mV 7) (RE R w (matL n W A) (matL n n (sh W A)) (ldL L) c (.val (.int (L.length : Nat))) (.val (.lst (ldL []))) x8 x9 x10 x11 x12 x13) none = some (false, none) := rfl
    rw [t]
    rfl
  | some k =>
    rw [e] at ff
    obtain ⟨s, hs⟩ : ∃ s, someL A c L.length n = k :: s := by
      change (someL A c L.length n).head? = some k at ff
      cases q : someL A c L.length n with
      | nil => rw [q] at ff; cases ff
      | cons z s => rw [q] at ff; cases ff; exact ⟨s, rfl⟩
    rw [hs]
    obtain ⟨f1, f2, f3, _⟩ := first_some e
    have f3' : A k c ≠ 0 := by simpa using f3
    have hk : k < n := by omega
    have hh : L.length < n := by omega
    generalize hh0 : L.length = h at *
    have sA := hA.swp hh hk
    have pv : swp A h k h c = A k c := by unfold swp; rw [if_pos rfl]
    have hp : swp A h k h c ≠ 0 := by rw [pv]; exact f3'
    have oA : ∀ i, i < n → ∀ j, j < W + n → Sm (a + 1) (swp A h k i j) := fun i hi j hj => sA.sm hi hj
    have oN : ∀ j, j < W + n → Sm (2 * a + 2) (swp A h k h j / swp A h k h c) := fun j hj => norm_sm sA hh (by omega) hp hj
    have ov : ∀ j, j < W + n → m_over [rD (swp A h k h j), rD (swp A h k h c)] = some (rD (swp A h k h j / swp A h k h c)) := fun j hj => over_ok ((oA h hh j hj).mono (by omega)) ((oA h hh c (by omega)).mono (by omega)) hp
    have q1 : Cut n W (norm (swp A h k) h c (swp A h k)) (norm (swp A h k) h c (swp A h k)) h c := cut_of (fun i hi => oA i hi c (by omega)) hp (fun i hi j hj => oA i hi j (by omega)) (fun j hj => oN j (by omega)) ha
    have q2 : Cut n n (norm (swp A h k) h c (swp A h k)) (norm (swp A h k) h c (sh W (swp A h k))) h c := cut_of (B := sh W (swp A h k)) (fun i hi => oA i hi c (by omega)) hp (fun i hi j hj => oA i hi (W + j) (by omega)) (fun j hj => oN (W + j) (by omega)) ha
    obtain ⟨y9, y10, y12, y13, e5⟩ := cut_all (R := R) (w := w) (Z := ldL L) (x7 := .val (.lst (ldL (k :: s)))) (x8 := x8) (x11 := x11) (by omega) hh hc (by omega) (by omega) q1 q2 (.val (rD (swp A h k h c))) x10 x12 x13
    refine ⟨.val (.int (h : Nat)), .val (.lst (ldL (k :: s))), x8, y9, y10, x11, y12, y13, ?_⟩
    rw [x_sIf]
    have t : mTru (mV 7) (RE R w (matL n W A) (matL n n (sh W A)) (ldL L) c (.val (.int (h : Nat))) (.val (.lst (ldL (k :: s)))) x8 x9 x10 x11 x12 x13) none = some (true, none) := rfl
    rw [t]
    simp only [Option.bind_some, x_bT]
    unfold rd_3_2t_b
    rw [x_sSeq, show ldL (k :: s) = .int (k : Nat) :: ldL s from rfl, rd_k2a hh hk, x_nxN, x_sSeq, rd_k2b hh hk, x_nxN, ← sh_swp, x_sSeq, rd_k2c hh hc, x_nxN, x_sSeq, rd_k2d hh (by omega) (fun j hj => ov j (by omega)), x_nxN, x_sSeq,
      rd_k2e (B := sh W (swp A h k)) hh (by omega) (fun j hj => ov (W + j) (by omega)), x_nxN, x_sSeq]
    change nxt (rd_3_2t_5 (RE R w (matL n W (norm (swp A h k) h c (swp A h k))) (matL n n (norm (swp A h k) h c (sh W (swp A h k)))) (ldL L) c (.val (.int (h : Nat))) (.val (.lst (ldL (k :: s)))) x8 (.val (rD (swp A h k h c))) x10 x11 x12 x13) none) rd_3_2t_6 = _
    rw [e5, x_nxN, part_all hp, partM_all hp]
    have zl : sized (ldL L).length = true := x_sized (by rw [ldD, hh0]; omega)
    have la : ldL (L ++ [c]) = ldL L ++ [.int (c : Nat)] := by unfold ldL; rw [List.map_append]; rfl
    rw [la]
    generalize matL n W (elim (swp A h k) h c) = M1 at *
    generalize matL n n (sh W (elim (swp A h k) h c)) = M2 at *
    unfold rd_3_2t_6
    generalize ldL L = LL at *
    simp [RE, zl]
end
theorem nodup_le : ∀ (l m : List Nat), l.Pairwise (· ≠ ·) → (∀ x ∈ l, x ∈ m) → l.length ≤ m.length
  | [], m, _, _ => Nat.zero_le _
  | a :: l, m, h, hs => by
    have h' := List.pairwise_cons.mp h
    have am := hs a List.mem_cons_self
    have := nodup_le l (m.erase a) h'.2 fun x hx => by
      have ne := h'.1 x hx
      exact (List.mem_erase_of_ne (Ne.symm ne)).mpr (hs x (List.mem_cons_of_mem _ hx))
    rw [List.length_erase_of_mem am] at this
    have : 0 < m.length := List.length_pos_of_mem am
    rw [List.length_cons]; omega
/-- how many columns' leads may be there, and how great the numbers may get -/
theorem reduced_ok {n W wd a : Nat} (F : Mat) (hn : n ≤ 900) (hW : W + n ≤ 1000) (hw : wd ≤ W) (hA : Cd n (W + n) a (aug W F)) (ha : ∀ t, t < n → t < wd → 3 * gr t a + 3 ≤ 4000) :
    m_reduced [.lst (matL n W F), .int (wd : Nat)] = some (.tup [.lst (matL n W (run n elim (aug W F) wd).1), .lst (ldL (run n elim (aug W F) wd).2), .lst (matL n n (sh W (run n elim (aug W F) wd).1))]) := by
  unfold m_reduced
  rw [rd_eq]
  simp only [x_runF, e0c, e0n, e00]
  have zn : sized n = true := x_sized (by omega)
  have k0 : rd_0 [.val (.lst (matL n W F)), .val (.int (wd : Nat)), .un, .un, .un, .un, .un, .un, .un, .un, .un, .un, .un, .un] none = some (.nx [.val (.lst (matL n W F)), .val (.int (wd : Nat)), .own (matL n W F), .un, .un, .un, .un, .un, .un, .un, .un, .un, .un, .un] none) := by
    have lc := fun E => lc_map (E := E) (pl := none) (gN 8) (mFrz (mCallL gList (aCons (mV 8) (aNil)))) (fun i => rowD W (F i)) (fun i => rowD W (F i)) (List.range n)
    unfold rd_0
    rw [x_sOwn, x_mLc]
    have src : mIt itD (mV 0) (vw [] [.val (.lst (matL n W F)), .val (.int (wd : Nat)), .un, .un, .un, .un, .un, .un, .un, .un, .un, .un, .un, .un]) none = some (matL n W F, none) := rfl
    rw [src]
    simp only [Option.bind_some, mat_len, zn, x_bT]
    have := lc (wipeE (vw [] [.val (.lst (matL n W F)), .val (.int (wd : Nat)), .un, .un, .un, .un, .un, .un, .un, .un, .un, .un, .un, .un]) [8]) fun i hi => ⟨_, rfl, by
      generalize matL n W F = M
      simp [rowD]⟩
    change (lcL _ _ _ _ ((List.range n).map fun i => rowD W (F i)) none).bind _ = _
    rw [this]
    rfl
  have k1 : rd_1 [.val (.lst (matL n W F)), .val (.int (wd : Nat)), .own (matL n W F), .un, .un, .un, .un, .un, .un, .un, .un, .un, .un, .un] none = some (.nx [.val (.lst (matL n W F)), .val (.int (wd : Nat)), .own (matL n W F), .own (matL n n (sh W (aug W F))), .un, .un, .un, .un, .un, .un, .un, .un, .un, .un] none) := by
    have er : rng1 [.int (n : Nat)] = some ((List.range n).map fun i => D.int ((0 : Int) + (i : Nat))) := by
      have e := x_rng1 (n : Int) (by omega) (by omega)
      rw [Int.toNat_natCast, rangeD_map] at e
      exact e
    unfold rd_1
    rw [x_sOwn, x_mLc]
    have hM : matL n n (sh W (aug W F)) = (List.range n).map fun i => D.lst ((List.range n).map fun j => rD (if j = i then 1 else 0)) := by
      unfold matL rowD rowL sh aug
      refine List.map_congr_left fun i hi => ?_
      congr 1
      refine List.map_congr_left fun j hj => ?_
      rw [if_neg (by omega)]
      by_cases e : j = i
      · subst e; simp
      · rw [if_neg e, if_neg (by omega)]
    have src : ∀ (E : Dn.Env), E[0]? = some (.val (.lst (matL n W F))) → mRng rng1 (aCons (mCall gLen (aCons (mV 0) (aNil))) (aNil)) E none = some ((List.range n).map (fun i => D.int ((0 : Int) + (i : Nat))), none) := fun E hE => by
      rw [x_mRng, x_aCons, x_mCall, x_aCons, x_mV 0 hE]
      simp only [Option.bind_some, x_aNil, x_lenL, mat_len, Option.map_some, er]
    rw [src _ rfl]
    have zr : ∀ lo : Int, sized ((List.range n).map (fun i => D.int (lo + (i : Nat)))).length = true := fun lo => by rw [List.length_map, List.length_range]; exact zn
    simp only [Option.bind_some, zr, x_bT]
    have lc := lc_map (E := wipeE (vw [] [.val (.lst (matL n W F)), .val (.int (wd : Nat)), .own (matL n W F), .un, .un, .un, .un, .un, .un, .un, .un, .un, .un, .un]) [5]) (pl := none) (gN 5) (mFrz (mLc [10] (mRng rng1 (aCons (mCall gLen (aCons (mV 0) (aNil))) (aNil))) (gN 10) (tYesM) (mIte (mTst (mOp dEq (mV 10) (mV 5))) (mC c_UNIT) (mC c_NOUGHT)))) (fun i : Nat => D.int ((0 : Int) + (i : Nat))) (fun i => D.lst ((List.range n).map fun j => rD (if j = i then 1 else 0))) (List.range n) fun i hi => by
      refine ⟨_, rfl, ?_⟩
      generalize hE : ((wipeE (vw [] [.val (.lst (matL n W F)), .val (.int (wd : Nat)), .own (matL n W F), .un, .un, .un, .un, .un, .un, .un, .un, .un, .un, .un]) [5]).set 5 (.val (.int ((0 : Int) + (i : Nat))))) = E
      have h0 : E[0]? = some (.val (.lst (matL n W F))) := by rw [← hE]; rfl
      have h5 : E[5]? = some (.val (.int ((0 : Int) + (i : Nat)))) := by rw [← hE]; rfl
      have hl : E.length = 14 := by rw [← hE]; rfl
      rw [x_mFrz, x_mLc, src E h0]
      simp only [Option.bind_some, zr, x_bT]
      have lc2 := lc_map (E := wipeE E [10]) (pl := none) (gN 10) (mIte (mTst (mOp dEq (mV 10) (mV 5))) (mC c_UNIT) (mC c_NOUGHT)) (fun j : Nat => D.int ((0 : Int) + (j : Nat))) (fun j => rD (if j = i then 1 else 0)) (List.range n) fun j hj => by
        refine ⟨_, rfl, ?_⟩
        have e1 : mV 10 ((wipeE E [10]).set 10 (.val (.int ((0 : Int) + (j : Nat))))) none = some (.int ((0 : Int) + (j : Nat)), none) := x_mV 10 (by rw [List.getElem?_set_self]; simp [hl])
        have e2 : mV 5 ((wipeE E [10]).set 10 (.val (.int ((0 : Int) + (j : Nat))))) none = some (.int ((0 : Int) + (i : Nat)), none) := x_mV 5 (by
          rw [List.getElem?_set_ne (by decide), x_wipeC, x_wipe0, List.getElem?_set_ne (by decide)]; exact h5)
        rw [x_mIte, x_mTst, x_mOp, e1]
        simp only [Option.bind_some, e2, x_eqI, Option.map_some, x_blD]
        by_cases e : j = i
        · subst e; simp; rfl
        · have e' : ¬ ((0 : Int) + (j : Nat) = (0 : Int) + (i : Nat)) := by omega
          rw [if_neg e, decide_eq_false e', x_bF]; rfl
      rw [lc2]
      rfl
    rw [lc, hM]
    rfl
  have k2 : rd_2 [.val (.lst (matL n W F)), .val (.int (wd : Nat)), .own (matL n W F), .own (matL n n (sh W (aug W F))), .un, .un, .un, .un, .un, .un, .un, .un, .un, .un] none = some (.nx [.val (.lst (matL n W F)), .val (.int (wd : Nat)), .own (matL n W F), .own (matL n n (sh W (aug W F))), .own [], .un, .un, .un, .un, .un, .un, .un, .un, .un] none) := rfl
  have k3 : ∃ y5 y6 y7 y8 y9 y10 y11 y12 y13, rd_3 [.val (.lst (matL n W F)), .val (.int (wd : Nat)), .own (matL n W F), .own (matL n n (sh W (aug W F))), .own [], .un, .un, .un, .un, .un, .un, .un, .un, .un] none =
      some (.nx [.val (.lst (matL n W F)), .val (.int (wd : Nat)), .own (matL n W (run n elim (aug W F) wd).1), .own (matL n n (sh W (run n elim (aug W F) wd).1)), .own (ldL (run n elim (aug W F) wd).2), y5, y6, y7, y8, y9, y10, y11, y12, y13] none) := by
    have src : mRng rng1 (aCons (mV 1) (aNil)) (vw [] [.val (.lst (matL n W F)), .val (.int (wd : Nat)), .own (matL n W F), .own (matL n n (sh W (aug W F))), .own [], .un, .un, .un, .un, .un, .un, .un, .un, .un]) none = some ((List.range wd).map (fun i => D.int ((0 : Int) + (i : Nat))), none) := by
      have e := x_rng1 (wd : Int) (by omega) (by omega)
      rw [Int.toNat_natCast, rangeD_map] at e
      generalize matL n W F = M1
      generalize matL n n (sh W (aug W F)) = M2
      simp [e]
    unfold rd_3
    rw [x_sFor, src]
    simp only [Option.bind_some]
    have eF : matL n W F = matL n W (aug W F) := mat_congr fun i hi j hj => by unfold aug; rw [if_pos hj]
    obtain ⟨E', p', e1, e2⟩ := for_inv (g := gN 5) (b := rd_3_b) (fun i : Nat => D.int ((0 : Int) + (i : Nat))) (fun t E p => p = none ∧ ∃ y5 y6 y7 y8 y9 y10 y11 y12 y13, E = [.val (.lst (matL n W F)), .val (.int (wd : Nat)), .own (matL n W (run n elim (aug W F) t).1), .own (matL n n (sh W (run n elim (aug W F) t).1)), .own (ldL (run n elim (aug W F) t).2), y5, y6, y7, y8, y9, y10, y11, y12, y13]) (List.range wd) 0 (frz [] [.val (.lst (matL n W F)), .val (.int (wd : Nat)), .own (matL n W F), .own (matL n n (sh W (aug W F))), .own [], .un, .un, .un, .un, .un, .un, .un, .un, .un]) none
      ⟨rfl, .un, .un, .un, .un, .un, .un, .un, .un, .un, by
        show [Sl.val (.lst (matL n W F)), .val (.int (wd : Nat)), .own (matL n W F), .own (matL n n (sh W (aug W F))), .own [], .un, .un, .un, .un, .un, .un, .un, .un, .un] = [Sl.val (.lst (matL n W F)), .val (.int (wd : Nat)), .own (matL n W (aug W F)), .own (matL n n (sh W (aug W F))), .own [], .un, .un, .un, .un, .un, .un, .un, .un, .un]
        rw [← eF]⟩ fun j t E p hj hp => by
      obtain ⟨rfl, y5, y6, y7, y8, y9, y10, y11, y12, y13, rfl⟩ := hp
      have hjn : j < wd := by have := (List.getElem?_eq_some_iff.mp hj).1; rwa [List.length_range] at this
      have : t = j := by rw [List.getElem?_range hjn] at hj; exact (Option.some.inj hj).symm
      subst this
      rw [Nat.zero_add, Int.zero_add]
      refine ⟨_, rfl, ?_⟩
      have ec := ech_run (good_elim n) (aug W F) t
      have cd := cd_run (good_elim n) (sized_elim n (W + n)) hA t (by omega)
      generalize hr : run n elim (aug W F) t = r at *
      obtain ⟨A, L⟩ := r
      dsimp only at *
      rw [run_succ, hr]
      by_cases full : L.length < n
      · have lt : L.length ≤ t := by
          have : L.length ≤ (List.range t).length := by
            refine nodup_le L (List.range t) (ec.ris.imp fun h => Nat.ne_of_lt h) fun c hc => List.mem_range.mpr (ec.bnd c hc)
          rwa [List.length_range] at this
        obtain ⟨z6, z7, z8, z9, z10, z11, z12, z13, e⟩ := col_ok (R := .lst (matL n W F)) (w := .int (wd : Nat)) hn hW ec.few (by omega : t < W) cd (ha _ full (by omega)) y6 y7 y8 y9 y10 y11 y12 y13
        exact ⟨_, none, .inl e, rfl, .val (.int (t : Nat)), z6, z7, z8, z9, z10, z11, z12, z13, rfl⟩
      · -- no rows are left: nothing is asked of the numbers
        have e0 : n - L.length = 0 := by omega
        have el : L.length = n := by have := ec.few; omega
        have fn : first (fun k => decide (A k t ≠ 0)) L.length (n - L.length) = none := by rw [e0]; rfl
        have es : someL A t L.length n = [] := by unfold someL; rw [e0]; rfl
        refine ⟨_, none, .inl ?_, rfl, .val (.int (t : Nat)), .val (.int (L.length : Nat)), .val (.lst []), y8, y9, y10, y11, y12, y13, rfl⟩
        change rd_3_b (RE (.lst (matL n W F)) (.int (wd : Nat)) (matL n W A) (matL n n (sh W A)) (ldL L) t y6 y7 y8 y9 y10 y11 y12 y13) none = _
        unfold rd_3_b
        rw [x_sSeq, rd_k0, x_nxN, x_sSeq, rd_k1 (by omega) ec.few (by omega : t < W), x_nxN, es]
        unfold stp
        dsimp only
        rw [fn]
        rfl
    obtain ⟨rfl, y5, y6, y7, y8, y9, y10, y11, y12, y13, rfl⟩ := e2
    rw [Nat.zero_add, List.length_range] at e1
    exact ⟨y5, y6, y7, y8, y9, y10, y11, y12, y13, e1⟩
  obtain ⟨y5, y6, y7, y8, y9, y10, y11, y12, y13, k3⟩ := k3
  rw [x_sSeq, k0, x_nxN, x_sSeq, k1, x_nxN, x_sSeq, k2, x_nxN, x_sSeq, k3, x_nxN]
  rfl
end Lw
set_option Elab.async false
set_option linter.all false
set_option maxRecDepth 100000
set_option maxHeartbeats 4000000
namespace Lw
open PySem PySem.Spec PyProof.Rows L2 Dn
open Rw Bm
/-! solved -/
def Fits (n w : Nat) (F : Mat) (x : Nat → Rat) : Prop := ∀ i, i < n → (sg w fun j => F i j * x j) = F i w
def Shows (n w : Nat) (F : Mat) (y : Nat → Rat) : Prop := (∀ j, j < w → (sg n fun i => y i * F i j) = 0) ∧ (sg n fun i => y i * F i w) ≠ 0
theorem set_ok {i : Nat} {mi m : EM} {E : Dn.Env} {pl p p2 : Option Pl} {d : D} {k : Int} {xs : List D} {j : Nat} (h1 : m E pl = some (d, p)) (h2 : mi E p = some (.int k, p2)) (h3 : E[i]? = some (.own xs)) (h4 : ixN xs.length k = some j) (h5 : noL d = true) : sSetS i mi m E pl = some (.nx (E.set i (.own (xs.set j d))) p2) := by
  unfold sSetS
  rw [h1]
  simp only [h2, h3, h4, h5]
  rfl
theorem row_set {W k : Nat} (r : Nat → Rat) (v : Rat) : (rowL W r).set k (rD v) = rowL W (fun j => if j = k then v else r j) := by
  apply List.ext_getElem?
  intro i
  rw [List.getElem?_set]
  by_cases e : k = i
  · subst e
    rw [if_pos rfl, row_len]
    by_cases h : k < W
    · rw [if_pos h, row_get _ h, if_pos rfl]
    · rw [if_neg h, List.getElem?_eq_none_iff.mpr (by rw [row_len]; omega)]
  · rw [if_neg e]
    by_cases h : i < W
    · rw [row_get _ h, row_get _ h, if_neg (Ne.symm e)]
    · rw [List.getElem?_eq_none_iff.mpr (by rw [row_len]; omega), List.getElem?_eq_none_iff.mpr (by rw [row_len]; omega)]
theorem row_succ (W : Nat) (r : Nat → Rat) : rowL (W + 1) r = rowL W r ++ [rD (r W)] := by
  unfold rowL; rw [List.range_succ, List.map_append]; rfl
theorem rep_row (W : Nat) : (List.replicate W [rD 0]).flatten = rowL W (fun _ => 0) := by
  unfold rowL
  induction W with
  | zero => rfl
  | succ W ih => rw [List.replicate_succ', List.flatten_append, ih, List.range_succ, List.map_append]; simp
theorem zipD_both' {α : Type} (f g : α → D) : ∀ xs : List α, zipD (xs.map f) (xs.map g) = xs.map fun x => D.tup [f x, g x]
  | [] => rfl
  | x :: xs => by rw [List.map_cons, List.map_cons]; show D.tup [f x, g x] :: zipD _ _ = _; rw [zipD_both' f g xs]; rfl
theorem zipD_range : ∀ (n : Nat) (f : Nat → D) (g : Nat → D) (m : Nat), m ≤ n → zipD ((List.range n).map f) ((List.range m).map g) = (List.range m).map fun i => D.tup [f i, g i]
  | 0, f, g, m, h => by rw [show m = 0 by omega]; rfl
  | n + 1, f, g, 0, _ => by rw [List.range_succ_eq_map]; rfl
  | n + 1, f, g, m + 1, h => by
    rw [List.range_succ_eq_map, List.range_succ_eq_map, List.map_cons, List.map_cons, List.map_map, List.map_map, List.map_cons, List.map_map]
    show D.tup [f 0, g 0] :: zipD _ _ = _
    rw [zipD_range n (f ∘ Nat.succ) (g ∘ Nat.succ) m (by omega)]
    rfl
theorem ldL_range (L : List Nat) : ldL L = (List.range L.length).map fun i => D.int (((L.getD i 0 : Nat)) : Int) := by
  apply List.ext_getElem?
  intro i
  unfold ldL
  rw [List.getElem?_map, List.getElem?_map]
  by_cases h : i < L.length
  · rw [List.getElem?_range h, List.getElem?_eq_getElem h]
    simp [List.getD, List.getElem?_eq_getElem h]
  · rw [List.getElem?_eq_none_iff.mpr (by omega), List.getElem?_eq_none_iff.mpr (by simp; omega)]; rfl
section
variable {n w : Nat} {R rt : D} {A : Mat} {L : List Nat} {W m : Nat}
def SE (R rt : D) (w : Nat) (x3 x4 : Sl) (n W m : Nat) (A B : Mat) (L : List Nat) (x8 x9 x10 : Sl) : Dn.Env := [.val R, .val rt, .val (.int (w : Nat)), x3, x4, .val (.lst (matL n W A)), .val (.lst (ldL L)), .val (.lst (matL n m B)), x8, x9, x10]
theorem so_look {B : Mat} (hw : w < W) (x4 x8 x9 x10 : Sl) : ∀ (q h : Nat) (x3 : Sl), h + q ≤ n → ∃ y3, forL (gN 3) so_1_b ((List.range' h q).map fun k : Nat => D.int (k : Nat)) (SE R rt w x3 x4 n W m A B L x8 x9 x10) none =
    (match first (fun k => decide (A k w ≠ 0)) h q with
      | some k => some (.rt (.tup [.str "factors", rowD m (B k)]) (SE R rt w y3 (hide1 x4) n W m A B L (hide1 x8) (hide1 x9) (hide1 x10)) none)
      | none => some (.nx (SE R rt w y3 x4 n W m A B L x8 x9 x10) none)) ∨ ∃ k E', first (fun k => decide (A k w ≠ 0)) h q = some k ∧ forL (gN 3) so_1_b ((List.range' h q).map fun k : Nat => D.int (k : Nat)) (SE R rt w x3 x4 n W m A B L x8 x9 x10) none = some (.rt (.tup [.str "factors", rowD m (B k)]) E' none)
  | 0, h, x3, _ => ⟨x3, .inl rfl⟩
  | q + 1, h, x3, hq => by
    have hn : h < n := by omega
    have i1 := mat_at (W := W) A hn
    have i2 := row_at (A h) hw
    have i3 := ne_rat (A h w) 0
    have i4 := mat_at (W := m) B hn
    have kt : mTst (mOp dNe (mOp dIx (mOp dIx (mV 5) (mV 3)) (mV 2)) (mC c_NOUGHT)) (SE R rt w (.val (.int (h : Nat))) x4 n W m A B L x8 x9 x10) none = some (!decide (A h w = 0), none) := by
      unfold SE
      generalize matL n W A = M at *
      simp [i1, rowD, i2, nought, i3]
    rw [List.range'_succ, List.map_cons, x_forC, x_gN]
    simp only [Option.bind_some]
    change ∃ y3, aft (so_1_b (SE R rt w (.val (.int (h : Nat))) x4 n W m A B L x8 x9 x10) none) _ = _ ∨ ∃ k E', _ ∧ aft (so_1_b (SE R rt w (.val (.int (h : Nat))) x4 n W m A B L x8 x9 x10) none) _ = _
    unfold so_1_b so_1_0
    rw [x_sIf, kt]
    simp only [Option.bind_some]
    unfold first
    by_cases e : A h w = 0
    · have e1 : (!decide (A h w = 0)) = false := by simp [e]
      have e2 : decide (A h w ≠ 0) = false := by simp [e]
      rw [e1, x_bF, x_sNil, x_afN, e2, if_neg (by decide)]
      exact so_look hw x4 x8 x9 x10 q (h + 1) _ (by omega)
    · have e1 : (!decide (A h w = 0)) = true := by simp [e]
      have e2 : decide (A h w ≠ 0) = true := by simp [e]
      rw [e1, x_bT, e2, if_pos rfl]
      refine ⟨x3, .inr ⟨h, frz [] (SE R rt w (.val (.int (h : Nat))) x4 n W m A B L x8 x9 x10), rfl, ?_⟩⟩
      have kr : mTup (aCons (mC (.str "factors")) (aCons (mOp dIx (mV 7) (mV 3)) (aNil))) (vw [] (SE R rt w (.val (.int (h : Nat))) x4 n W m A B L x8 x9 x10)) none = some (.tup [.str "factors", rowD m (B h)], none) := by
        unfold SE
        generalize matL n W A = M at *
        generalize matL n m B = M2 at *
        simp [i4]
      rw [x_sRetF, kr]
      rfl
theorem so_fill (hw : w < W) (hL : L.length ≤ n) (hb : ∀ c ∈ L, c < w) (hr : L.Pairwise (· < ·)) (B : Mat) (x3 x8 x9 x10 : Sl) :
    ∃ y8 y9 x, so_3 (SE R rt w x3 (.own (rowL w fun _ => 0)) n W m A B L x8 x9 x10) none = some (.nx (SE R rt w x3 (.own (rowL w x)) n W m A B L y8 y9 x10) none) ∧ (∀ i c, L[i]? = some c → x c = A i w) ∧ (∀ c, c ∉ L → x c = 0) := by
  have hz : zipF [.lst (matL n W A), .lst (ldL L)] = some ((List.range L.length).map fun i => D.tup [rowD W (A i), D.int (((L.getD i 0 : Nat)) : Int)]) := by
    rw [x_zipF, ldL_range]
    unfold matL
    rw [zipD_range n _ _ L.length hL]
  have src : mRng zipF (aCons (mV 5) (aCons (mV 6) (aNil))) (vw [] (SE R rt w x3 (.own (rowL w fun _ => 0)) n W m A B L x8 x9 x10)) none = some ((List.range L.length).map (fun i => D.tup [rowD W (A i), D.int (((L.getD i 0 : Nat)) : Int)]), none) := by
    unfold SE
    generalize matL n W A = M at *
    generalize ldL L = LL at *
    simp [hz]
  unfold so_3
  rw [x_sFor, src]
  simp only [Option.bind_some]
  obtain ⟨E', p', e1, e2⟩ := for_inv (g := gTL 2 (gsC (gN 8) (gsC (gN 9) (gsN)))) (b := so_3_b) (fun i : Nat => D.tup [rowD W (A i), D.int (((L.getD i 0 : Nat)) : Int)])
    (fun t E p => p = none ∧ ∃ y8 y9 x, E = SE R rt w x3 (.own (rowL w x)) n W m A B L y8 y9 x10 ∧ (∀ i c, i < t → L[i]? = some c → x c = A i w) ∧ (∀ c, c ∉ L.take t → x c = 0)) (List.range L.length) 0 (frz [] (SE R rt w x3 (.own (rowL w fun _ => 0)) n W m A B L x8 x9 x10)) none
    ⟨rfl, x8, x9, fun _ => 0, rfl, fun i c h => by omega, fun _ _ => rfl⟩ fun j t E p hj hp => by
    obtain ⟨rfl, y8, y9, x, rfl, h1, h2⟩ := hp
    have hjn : j < L.length := by have := (List.getElem?_eq_some_iff.mp hj).1; rwa [List.length_range] at this
    have : t = j := by rw [List.getElem?_range hjn] at hj; exact (Option.some.inj hj).symm
    subst this
    rw [Nat.zero_add] at h1 h2 ⊢
    have lt : L[t]? = some L[t] := List.getElem?_eq_getElem hjn
    have ld : L.getD t 0 = L[t] := by simp [List.getD, lt]
    rw [ld]
    refine ⟨SE R rt w x3 (.own (rowL w x)) n W m A B L (.val (rowD W (A t))) (.val (.int ((L[t] : Nat) : Int))) x10, by rw [x_gTLt]; rfl, ?_⟩
    have i2 := row_at (A t) hw
    refine ⟨SE R rt w x3 (.own (rowL w fun j => if j = L[t] then A t w else x j)) n W m A B L (.val (rowD W (A t))) (.val (.int ((L[t] : Nat) : Int))) x10, none, .inl ?_, rfl, _, _, _, rfl, fun i c hi hc => ?_, fun c hc => ?_⟩
    · unfold so_3_b so_3_0
      have e1 : mOp dIx (mV 8) (mV 2) (SE R rt w x3 (.own (rowL w x)) n W m A B L (.val (rowD W (A t))) (.val (.int ((L[t] : Nat) : Int))) x10) none = some (rD (A t w), none) := by
        unfold SE rowD
        generalize matL n W A = M at *
        generalize rowL W (A t) = RR at *
        simp [i2]
      have e2 : mV 9 (SE R rt w x3 (.own (rowL w x)) n W m A B L (.val (rowD W (A t))) (.val (.int ((L[t] : Nat) : Int))) x10) none = some (.int ((L[t] : Nat) : Int), none) := rfl
      rw [set_ok e1 e2 (xs := rowL w x) rfl (j := L[t]) (by rw [row_len]; exact ixn (hb _ (List.getElem_mem hjn))) rfl, row_set]
      rfl
    · by_cases z : i = t
      · subst z
        rw [lt] at hc; cases hc
        (try dsimp only)
        rw [if_pos rfl]
      · have hi' : i < t := by omega
        have ne : c ≠ L[t] := by
          have li : i < L.length := by omega
          have ci : L[i] = c := by rw [List.getElem?_eq_getElem li] at hc; exact Option.some.inj hc
          have := List.pairwise_iff_getElem.mp hr i t li hjn hi'
          omega
        (try dsimp only)
        rw [if_neg ne]
        exact h1 i c hi' hc
    · rw [List.take_succ, lt, Option.toList_some, List.mem_append, not_or, List.mem_singleton] at hc
      (try dsimp only)
      rw [if_neg hc.2]
      exact h2 c hc.1
  obtain ⟨rfl, y8, y9, x, rfl, h1, h2⟩ := e2
  rw [Nat.zero_add, List.length_range] at h1 h2
  refine ⟨y8, y9, x, e1, fun i c hc => h1 i c (List.getElem?_eq_some_iff.mp hc).1 hc, fun c hc => h2 c ?_⟩
  rw [List.take_of_length_le (Nat.le_refl _)]; exact hc
end
/-- the right of the rows -/
def rgtL (n w : Nat) (F : Mat) : List D := (List.range n).map fun i => rD (F i w)
theorem solved_ok {n w a : Nat} (F : Mat) (hn : n ≤ 400) (hW : w ≤ 400) (hA : Cd n (w + 1 + n) a (aug (w + 1) F)) (ha : ∀ t, t < n → t < w → 3 * gr t a + 3 ≤ 4000) :
    (∃ y N, 0 < N ∧ N ≤ 2 ^ gr n a ∧ (∀ i, i < n → Bm.In N (gr n a) (y i)) ∧ Shows n w F y ∧ m_solved [.lst (matL n w F), .lst (rgtL n w F), .int (w : Nat)] = some (.tup [.str "factors", rowD n y])) ∨
    (∃ x N, 0 < N ∧ N ≤ 2 ^ gr n a ∧ (∀ j, j < w → Bm.In N (gr n a) (x j)) ∧ Fits n w F x ∧ m_solved [.lst (matL n w F), .lst (rgtL n w F), .int (w : Nat)] = some (.tup [.str "numbers", rowD w x])) := by
  have red := reduced_ok (wd := w) F (W := w + 1) (by omega) (by omega) (by omega) hA ha
  have ec := ech_run (good_elim n) (aug (w + 1) F) w
  have cd := cd_run (good_elim n) (sized_elim n (w + 1 + n)) hA w (by omega)
  have ff := fun k => factors_show (n := n) (w := w) F (k := k)
  have nf := numbers_fit (n := n) (w := w) F
  generalize hr : run n elim (aug (w + 1) F) w = r at *
  obtain ⟨A, L⟩ := r
  dsimp only at *
  have cd' : Cd n (w + 1 + n) (gr n a) A := cd.mono (gr_le a ec.few)
  obtain ⟨N, N0, N1, N2⟩ := cd'
  have zn : sized n = true := x_sized (by omega)
  have em : m_solved [.lst (matL n w F), .lst (rgtL n w F), .int (w : Nat)] = outF (sSeq so_1 (sSeq so_2 (sSeq so_3 so_4)) (SE (.lst (matL n w F)) (.lst (rgtL n w F)) w .un .un n (w + 1) n A (sh (w + 1) A) L .un .un .un) none) := by
    unfold m_solved
    rw [so_eq]
    simp only [x_runF, e0c, e0n, e00]
    have k0 : so_0 [.val (.lst (matL n w F)), .val (.lst (rgtL n w F)), .val (.int (w : Nat)), .un, .un, .un, .un, .un, .un, .un, .un] none = some (.nx (SE (.lst (matL n w F)) (.lst (rgtL n w F)) w .un .un n (w + 1) n A (sh (w + 1) A) L .un .un .un) none) := by
      have hz : zipI [.lst (matL n w F), .lst (rgtL n w F)] = some ((List.range n).map fun i => D.tup [rowD w (F i), rD (F i w)]) := by
        unfold zipI
        simp only [x_itL, mat_len, rgtL, List.length_map, List.length_range, if_true]
        unfold matL
        rw [zipD_both']
      have src : mRng zipI (aCons (mV 0) (aCons (mV 1) (aNil))) (vw [] [.val (.lst (matL n w F)), .val (.lst (rgtL n w F)), .val (.int (w : Nat)), .un, .un, .un, .un, .un, .un, .un, .un]) none = some ((List.range n).map (fun i => D.tup [rowD w (F i), rD (F i w)]), none) := by
        generalize matL n w F = M at *
        generalize rgtL n w F = G at *
        simp [hz]
      have lc := lc_map (E := wipeE (vw [] [.val (.lst (matL n w F)), .val (.lst (rgtL n w F)), .val (.int (w : Nat)), .un, .un, .un, .un, .un, .un, .un, .un]) [8, 10]) (pl := none) (gTL 2 (gsC (gN 8) (gsC (gN 10) (gsN)))) (mOp dAdd (mFrz (mCallL gList (aCons (mV 8) (aNil)))) (mFrz (mLstL (aCons (mV 10) (aNil))))) (fun i => D.tup [rowD w (F i), rD (F i w)]) (fun i => rowD (w + 1) (F i)) (List.range n) fun i hi => by
        refine ⟨_, by rw [x_gTLt]; rfl, ?_⟩
        have zz : sized ((rowL w (F i)).length + 1) = true := x_sized (by rw [row_len]; omega)
        unfold rowD
        rw [row_succ]
        generalize rowL w (F i) = RR at *
        generalize matL n w F = M at *
        generalize rgtL n w F = G at *
        simp [zz]
      have em : mFrz (mLc [8, 10] (mRng zipI (aCons (mV 0) (aCons (mV 1) (aNil)))) (gTL 2 (gsC (gN 8) (gsC (gN 10) (gsN)))) (tYesM) (mOp dAdd (mFrz (mCallL gList (aCons (mV 8) (aNil)))) (mFrz (mLstL (aCons (mV 10) (aNil)))))) (vw [] [.val (.lst (matL n w F)), .val (.lst (rgtL n w F)), .val (.int (w : Nat)), .un, .un, .un, .un, .un, .un, .un, .un]) none = some (.lst (matL n (w + 1) F), none) := by
        rw [x_mFrz, x_mLc, src]
        simp only [Option.bind_some, List.length_map, List.length_range, zn, x_bT]
        rw [lc]
        rfl
      unfold so_0
      rw [x_sAsgF, x_mCall, x_aCons, em]
      have e2 : mV 2 (vw [] [.val (.lst (matL n w F)), .val (.lst (rgtL n w F)), .val (.int (w : Nat)), .un, .un, .un, .un, .un, .un, .un, .un]) none = some (.int (w : Nat), none) := rfl
      simp only [Option.bind_some, x_aCons, e2, x_aNil, red, Option.map_some]
      rfl
    rw [x_sSeq, k0, x_nxN]
  rw [em]
  have src1 : mRng rng2 (aCons (mCall gLen (aCons (mV 6) (aNil))) (aCons (mCall gLen (aCons (mV 5) (aNil))) (aNil))) (vw [] (SE (.lst (matL n w F)) (.lst (rgtL n w F)) w .un .un n (w + 1) n A (sh (w + 1) A) L .un .un .un)) none = some ((List.range' L.length (n - L.length)).map (fun k : Nat => D.int (k : Nat)), none) := by
    have e := x_rng2 (L.length : Int) (n : Int) (by have := ec.few; omega) (by have := ec.few; omega) (by omega) (by omega)
    rw [show ((n : Int) - (L.length : Int)).toNat = n - L.length by omega, rangeD_nat] at e
    unfold SE
    have l1 := mat_len n (w + 1) A
    have l2 := ldD L
    change (ldL L).length = L.length at l2
    generalize matL n (w + 1) A = M at *
    generalize ldL L = LL at *
    simp [l1, l2, e]
  have so1 : so_1 (SE (.lst (matL n w F)) (.lst (rgtL n w F)) w .un .un n (w + 1) n A (sh (w + 1) A) L .un .un .un) none = forL (gN 3) so_1_b ((List.range' L.length (n - L.length)).map fun k : Nat => D.int (k : Nat)) (SE (.lst (matL n w F)) (.lst (rgtL n w F)) w .un .un n (w + 1) n A (sh (w + 1) A) L .un .un .un) none := by
    unfold so_1
    rw [x_sFor, src1]
    rfl
  have lk := so_look (n := n) (W := w + 1) (R := .lst (matL n w F)) (rt := .lst (rgtL n w F)) (A := A) (L := L) (m := n) (B := sh (w + 1) A) (by omega : w < w + 1) .un .un .un .un (n - L.length) L.length .un (by have := ec.few; omega)
  have fs := @first_some (fun k => decide (A k w ≠ 0)) (n - L.length) L.length
  have fn := @first_none (fun k => decide (A k w ≠ 0)) (n - L.length) L.length
  cases q : first (fun k => decide (A k w ≠ 0)) L.length (n - L.length) with
  | some k =>
    obtain ⟨f1, f2, f3, _⟩ := fs q
    have f3' : A k w ≠ 0 := by simpa using f3
    have hk : k < n := by omega
    left
    obtain ⟨g1, g2⟩ := ff k f1 hk f3'
    refine ⟨fun i => A k (w + 1 + i), N, N0, N1, fun i hi => N2 k hk (w + 1 + i) (by omega), ⟨g1, g2⟩, ?_⟩
    obtain ⟨E', e⟩ : ∃ E', forL (gN 3) so_1_b ((List.range' L.length (n - L.length)).map fun k : Nat => D.int (k : Nat)) (SE (.lst (matL n w F)) (.lst (rgtL n w F)) w .un .un n (w + 1) n A (sh (w + 1) A) L .un .un .un) none = some (.rt (.tup [.str "factors", rowD n (sh (w + 1) A k)]) E' none) := by
      obtain ⟨y3, e | ⟨k', E', e1, e2⟩⟩ := lk
      · rw [q] at e; exact ⟨_, e⟩
      · rw [q] at e1; cases e1; exact ⟨E', e2⟩
    rw [x_sSeq, so1, e]
    rfl
  | none =>
    right
    have h3 : ∀ k, L.length ≤ k → k < n → A k w = 0 := fun k k1 k2 => by
      have := fn q k k1 (by omega)
      simpa using this
    obtain ⟨y3, e⟩ : ∃ y3, forL (gN 3) so_1_b ((List.range' L.length (n - L.length)).map fun k : Nat => D.int (k : Nat)) (SE (.lst (matL n w F)) (.lst (rgtL n w F)) w .un .un n (w + 1) n A (sh (w + 1) A) L .un .un .un) none = some (.nx (SE (.lst (matL n w F)) (.lst (rgtL n w F)) w y3 .un n (w + 1) n A (sh (w + 1) A) L .un .un .un) none) := by
      obtain ⟨y3, e | ⟨k', E', e1, e2⟩⟩ := lk
      · rw [q] at e; exact ⟨y3, e⟩
      · rw [q] at e1; cases e1
    have k2 : so_2 (SE (.lst (matL n w F)) (.lst (rgtL n w F)) w y3 .un n (w + 1) n A (sh (w + 1) A) L .un .un .un) none = some (.nx (SE (.lst (matL n w F)) (.lst (rgtL n w F)) w y3 (.own (rowL w fun _ => 0)) n (w + 1) n A (sh (w + 1) A) L .un .un .un) none) := by
      have hrp : repL (.lst [rD 0]) (.int (w : Nat)) = some (rowL w fun _ => 0) := by
        show (if (decide (((w : Nat) : Int).natAbs < 2 ^ 60) && sized ([rD 0].length * ((w : Nat) : Int).toNat)) = true then some (List.replicate ((w : Nat) : Int).toNat [rD 0]).flatten else none) = _
        have z1 : decide (((w : Nat) : Int).natAbs < 2 ^ 60) = true := decide_eq_true (by omega)
        have z2 : sized ([rD 0].length * ((w : Nat) : Int).toNat) = true := x_sized (by rw [List.length_singleton]; omega)
        rw [z1, z2, Int.toNat_natCast, rep_row]; rfl
      unfold so_2
      rw [x_sOwn]
      have e : mOpL repL (mFrz (mLstL (aCons (mC c_NOUGHT) (aNil)))) (mV 2) (vw [] (SE (.lst (matL n w F)) (.lst (rgtL n w F)) w y3 .un n (w + 1) n A (sh (w + 1) A) L .un .un .un)) none = some (rowL w (fun _ => 0), none) := by
        have e2 : mV 2 (vw [] (SE (.lst (matL n w F)) (.lst (rgtL n w F)) w y3 .un n (w + 1) n A (sh (w + 1) A) L .un .un .un)) none = some (.int (w : Nat), none) := rfl
        rw [x_mOpL, x_mFrz, x_mLstL, x_aCons, x_mC]
        simp only [Option.bind_some, x_aNil, List.length_cons, List.length_nil, Nat.zero_add, sz1, x_bT, e2, nought, hrp, Option.map_some]
      rw [e]
      rfl
    obtain ⟨y8, y9, x, e3, g1, g2⟩ := so_fill (R := .lst (matL n w F)) (rt := .lst (rgtL n w F)) (A := A) (m := n) (W := w + 1) (by omega : w < w + 1) ec.few ec.bnd ec.ris (sh (w + 1) A) y3 .un .un .un
    refine ⟨x, N, N0, N1, fun j hj => ?_, nf h3 x g1 g2, ?_⟩
    · by_cases jl : j ∈ L
      · obtain ⟨i, hi, ei⟩ := List.mem_iff_getElem.mp jl
        rw [g1 i j (by rw [List.getElem?_eq_getElem hi, ei])]
        exact N2 i (by have := ec.few; omega) w (by omega)
      · rw [g2 j jl]; exact Bm.In.zero N0
    · rw [x_sSeq, so1, e, x_nxN, x_sSeq, k2, x_nxN, x_sSeq, e3, x_nxN]
      rfl
end Lw
set_option Elab.async false
set_option linter.all false
set_option maxRecDepth 100000
set_option maxHeartbeats 4000000
namespace Lw
open PySem PySem.Spec PyProof.Rows L2 Dn
def b__law_rank : SM := sSeq (sOwn [] 1 (mLc [5] (mIt itD (mV 0)) (gN 5) (tYesM) (mFrz (mCallL gList (aCons (mV 5) (aNil)))))) (sSeq (sAsgF [] (gN 2) (mC (.int 0))) (sSeq (sForS (gN 3) (mRng rng1 (aCons (mIte (mTst (mOp dGt (mCall gLen (aCons (mV 1) (aNil))) (mC (.int 0)))) (mCall gLen (aCons (mOp dIx (mV 1) (mC (.int 0))) (aNil))) (mC (.int 0))) (aNil))) (sSeq (sAsgLS 4 (mLc [6] (mRng rng2 (aCons (mV 2) (aCons (mCall gLen (aCons (mV 1) (aNil))) (aNil)))) (gN 6) (mTst (mOp dNe (mOp dIx (mOp dIx (mOp dIx (mV 1) (mV 6)) (mV 3)) (mC (.int 0))) (mC (.int 0)))) (mV 6))) (sIf (mTst (mOp dGt (mCall gLen (aCons (mV 4) (aNil))) (mC (.int 0)))) (sSeq (sSwp 1 (mV 2) (mOp dIx (mV 4) (mC (.int 0))) (mOp dIx (mV 4) (mC (.int 0))) (mV 2)) (sSeq (sForS (gN 6) (mRng rng2 (aCons (mOp dAdd (mV 2) (mC (.int 1))) (aCons (mCall gLen (aCons (mV 1) (aNil))) (aNil)))) (sSeq (sAsgS (gN 7) (mCall m__law_div (aCons (mOp dIx (mOp dIx (mV 1) (mV 6)) (mV 3)) (aCons (mOp dIx (mOp dIx (mV 1) (mV 2)) (mV 3)) (aNil))))) (sSetLS 1 (mV 6) (mLc [8] (mRng rng1 (aCons (mCall gLen (aCons (mOp dIx (mV 1) (mV 6)) (aNil))) (aNil))) (gN 8) (tYesM) (mCall m__law_sub (aCons (mOp dIx (mOp dIx (mV 1) (mV 6)) (mV 8)) (aCons (mCall m__law_mul (aCons (mV 7) (aCons (mOp dIx (mOp dIx (mV 1) (mV 2)) (mV 8)) (aNil)))) (aNil)))))))) (sAsgF [] (gN 2) (mOp dAdd (mV 2) (mC (.int 1)))))) (sNil)))) (sRetF [] (mV 2))))
def m__law_rank : List D → Option D := runF 9 b__law_rank
def rk_0 : SM := sOwn [] 1 (mLc [5] (mIt itD (mV 0)) (gN 5) (tYesM) (mFrz (mCallL gList (aCons (mV 5) (aNil)))))
def rk_1 : SM := sAsgF [] (gN 2) (mC (.int 0))
def rk_2_0 : SM := sAsgLS 4 (mLc [6] (mRng rng2 (aCons (mV 2) (aCons (mCall gLen (aCons (mV 1) (aNil))) (aNil)))) (gN 6) (mTst (mOp dNe (mOp dIx (mOp dIx (mOp dIx (mV 1) (mV 6)) (mV 3)) (mC (.int 0))) (mC (.int 0)))) (mV 6))
def rk_2_1t_0 : SM := sSwp 1 (mV 2) (mOp dIx (mV 4) (mC (.int 0))) (mOp dIx (mV 4) (mC (.int 0))) (mV 2)
def rk_2_1t_1_0 : SM := sAsgS (gN 7) (mCall m__law_div (aCons (mOp dIx (mOp dIx (mV 1) (mV 6)) (mV 3)) (aCons (mOp dIx (mOp dIx (mV 1) (mV 2)) (mV 3)) (aNil))))
def rk_2_1t_1_1 : SM := sSetLS 1 (mV 6) (mLc [8] (mRng rng1 (aCons (mCall gLen (aCons (mOp dIx (mV 1) (mV 6)) (aNil))) (aNil))) (gN 8) (tYesM) (mCall m__law_sub (aCons (mOp dIx (mOp dIx (mV 1) (mV 6)) (mV 8)) (aCons (mCall m__law_mul (aCons (mV 7) (aCons (mOp dIx (mOp dIx (mV 1) (mV 2)) (mV 8)) (aNil)))) (aNil)))))
def rk_2_1t_1_b : SM := sSeq rk_2_1t_1_0 rk_2_1t_1_1
def rk_2_1t_1 : SM := sForS (gN 6) (mRng rng2 (aCons (mOp dAdd (mV 2) (mC (.int 1))) (aCons (mCall gLen (aCons (mV 1) (aNil))) (aNil)))) rk_2_1t_1_b
def rk_2_1t_2 : SM := sAsgF [] (gN 2) (mOp dAdd (mV 2) (mC (.int 1)))
def rk_2_1t_b : SM := sSeq rk_2_1t_0 (sSeq rk_2_1t_1 rk_2_1t_2)
def rk_2_1 : SM := sIf (mTst (mOp dGt (mCall gLen (aCons (mV 4) (aNil))) (mC (.int 0)))) rk_2_1t_b (sNil)
def rk_2_b : SM := sSeq rk_2_0 rk_2_1
def rk_2 : SM := sForS (gN 3) (mRng rng1 (aCons (mIte (mTst (mOp dGt (mCall gLen (aCons (mV 1) (aNil))) (mC (.int 0)))) (mCall gLen (aCons (mOp dIx (mV 1) (mC (.int 0))) (aNil))) (mC (.int 0))) (aNil))) rk_2_b
def rk_3 : SM := sRetF [] (mV 2)
theorem rk_eq : b__law_rank = sSeq rk_0 (sSeq rk_1 (sSeq rk_2 rk_3)) := rfl
open Rw Bm
/-! a law's own rank -/
def KE (R : D) (X : List D) (f c : Nat) (x4 x5 x6 x7 x8 : Sl) : Dn.Env := [.val R, .own X, .val (.int (f : Nat)), .val (.int (c : Nat)), x4, x5, x6, x7, x8]
section
variable {n W c : Nat} {R : D} {X : List D} {A : Mat} {x4 x5 x6 x7 x8 : Sl}
theorem tup01' : D.tup [.int 0, .int 1] = rD 0 := rfl
theorem rk_k0 {h : Nat} (hn : n ≤ 1000) (hh : h ≤ n) (hc : c < W) : rk_2_0 (KE R (matL n W A) h c x4 x5 x6 x7 x8) none = some (.nx (KE R (matL n W A) h c (.val (.lst (ldL (someL A c h n)))) x5 x6 x7 x8) none) := by
  unfold rk_2_0
  have src : mRng rng2 (aCons (mV 2) (aCons (mCall gLen (aCons (mV 1) (aNil))) (aNil))) (KE R (matL n W A) h c x4 x5 x6 x7 x8) none = some ((List.range' h (n - h)).map (fun k : Nat => D.int (k : Nat)), none) := by
    have e := x_rng2 (h : Int) (n : Int) (by omega) (by omega) (by omega) (by omega)
    rw [show ((n : Int) - (h : Int)).toNat = n - h by omega, rangeD_nat] at e
    simp [KE, mat_len, e]
  have lc := lc_filter (E := wipeE (KE R (matL n W A) h c x4 x5 x6 x7 x8) [6]) (pl := none) (gN 6) (mTst (mOp dNe (mOp dIx (mOp dIx (mOp dIx (mV 1) (mV 6)) (mV 3)) (mC (.int 0))) (mC (.int 0)))) (mV 6) (fun k : Nat => D.int (k : Nat)) (fun k => decide (A k c ≠ 0)) (fun k : Nat => D.int (k : Nat)) (List.range' h (n - h)) fun k hk => by
    have hk' : k < n := by have := List.mem_range'_1.mp hk; omega
    have i1 := mat_at (W := W) A hk'
    have i2 := row_at (A k) hc
    have i3 : dIx (rD (A k c)) (.int 0) = some (.int (A k c).num) := by simp [rD]
    have i4 : (!decide ((A k c).num = 0)) = decide (A k c ≠ 0) := by
      by_cases e : A k c = 0
      · simp [e]
      · have : (A k c).num ≠ 0 := fun z => e (Rat.num_eq_zero.mp z)
        simp [e, this]
    refine ⟨_, rfl, ?_, fun _ => ?_⟩
    · generalize matL n W A = M at *
      rw [← i4]
      generalize rD (A k c) = dd at *
      simp [KE, i1, rowD, i2, i3]
    · simp [KE]
  have zl : sized ((List.range' h (n - h)).map (fun k : Nat => D.int (k : Nat))).length = true := x_sized (by rw [List.length_map, List.length_range']; omega)
  rw [x_sAsgLS, x_mLc, src]
  simp only [Option.bind_some, zl, x_bT]
  rw [lc]
  simp only [Option.bind_some, noLL_ints, x_bT]
  rfl
theorem rk_swp {h k : Nat} {s : List D} (hh : h < n) (hk : k < n) : rk_2_1t_0 (KE R (matL n W A) h c (.val (.lst (.int (k : Nat) :: s))) x5 x6 x7 x8) none = some (.nx (KE R (matL n W (swp A h k)) h c (.val (.lst (.int (k : Nat) :: s))) x5 x6 x7 x8) none) := by
  have a2 : mV 2 (KE R (matL n W A) h c (.val (.lst (.int (k : Nat) :: s))) x5 x6 x7 x8) none = some (.int (h : Nat), none) := rfl
  have a4 : ∀ M : List D, mOp dIx (mV 4) (mC (.int 0)) (KE R M h c (.val (.lst (.int (k : Nat) :: s))) x5 x6 x7 x8) none = some (.int (k : Nat), none) := fun M => by
    rw [x_mOp, x_mV 4 (d := .lst (.int (k : Nat) :: s)) rfl]; simp
  have := swp_ok (i := 1) (m1 := mV 2) (m2 := mOp dIx (mV 4) (mC (.int 0))) (m3 := mOp dIx (mV 4) (mC (.int 0))) (m4 := mV 2) (a4 _) a2 (xs := matL n W A) rfl (mat_at A hk) (mat_at A hh) a2 (j1 := h) (by rw [mat_len]; exact ixn hh) (a4 _) (j2 := k) (by rw [mat_len]; exact ixn hk)
  unfold rk_2_1t_0
  rw [this, mat_swp A hh hk]
  rfl
def partL (A : Mat) (h c t : Nat) : Mat := fun i => if h < i ∧ i < t then (fun j => A i j - A i c / A h c * A h j) else A i
theorem partL_h (A : Mat) (h c t : Nat) : partL A h c t h = A h := by unfold partL; rw [if_neg (by omega)]
theorem partL_t (A : Mat) (h c t : Nat) : partL A h c t t = A t := by unfold partL; rw [if_neg (by omega)]
theorem partL_first (A : Mat) (h c : Nat) : partL A h c (h + 1) = A := by funext i; unfold partL; rw [if_neg (by omega)]
theorem partL_succ {A : Mat} {h c t : Nat} (ht : h < t) : partL A h c (t + 1) = fun i => if i = t then (fun j => A t j - A t c / A h c * A h j) else partL A h c t i := by
  funext i
  unfold partL
  by_cases e : i = t
  · subst e; rw [if_pos ⟨ht, by omega⟩, if_pos rfl]
  · rw [if_neg e]
    by_cases g : h < i ∧ i < t
    · rw [if_pos g, if_pos ⟨g.1, by omega⟩]
    · rw [if_neg g, if_neg (by omega)]
theorem partL_all (A : Mat) (h c : Nat) : matL n W (partL A h c n) = matL n W (elow A h c) := by
  refine mat_congr fun i hi j hj => ?_
  unfold partL
  by_cases e : h < i
  · rw [if_pos ⟨e, hi⟩, elow_i e]
  · rw [if_neg (by omega), elow_n e]
theorem rk_turn {a h t : Nat} (hn : n ≤ 1000) (hW : W ≤ 1000) (hh : h < n) (ht : t < n) (hht : h < t) (hc : c < W) (hp : A h c ≠ 0) (hA : ∀ i, i < n → ∀ j, j < W → Sm (a + 1) (A i j)) (ha : 3 * a + 3 ≤ 4000) (x4 x5 x7 x8 : Sl) :
    ∃ y7 y8, rk_2_1t_1_b (KE R (matL n W (partL A h c t)) h c x4 x5 (.val (.int (t : Nat))) x7 x8) none = some (.nx (KE R (matL n W (partL A h c (t + 1))) h c x4 x5 (.val (.int (t : Nat))) y7 y8) none) := by
  have i1 := mat_at (W := W) (partL A h c t) ht
  have j1 := mat_at (W := W) (partL A h c t) hh
  rw [partL_t] at i1
  rw [partL_h] at j1
  have i2 := fun j (hj : j < W) => row_at (A t) hj
  have j2 := fun j (hj : j < W) => row_at (A h) hj
  have dv := _law_div_ok (((hA t ht c hc).mono (by omega : a + 1 ≤ 4000))) (((hA h hh c hc).mono (by omega : a + 1 ≤ 4000))) hp
  have sq : Sm (2 * a + 2) (A t c / A h c) := ((hA t ht c hc).div (hA h hh c hc) hp).mono (by omega)
  have ml := fun j (hj : j < W) => _law_mul_ok (sq.mono (by omega : 2 * a + 2 ≤ 4000)) ((hA h hh j hj).mono (by omega : a + 1 ≤ 4000))
  have sb := fun j (hj : j < W) => _law_sub_ok ((hA t ht j hj).mono (by omega : a + 1 ≤ 4000)) ((sq.mul (hA h hh j hj)).mono (by omega : 2 * a + 2 + (a + 1) ≤ 4000))
  have k1 : rk_2_1t_1_0 (KE R (matL n W (partL A h c t)) h c x4 x5 (.val (.int (t : Nat))) x7 x8) none = some (.nx (KE R (matL n W (partL A h c t)) h c x4 x5 (.val (.int (t : Nat))) (.val (rD (A t c / A h c))) x8) none) := by
    have a1 := i2 c hc
    have a2 := j2 c hc
    unfold rk_2_1t_1_0
    generalize matL n W (partL A h c t) = M at *
    rw [x_sAsgS]
    have : mCall m__law_div (aCons (mOp dIx (mOp dIx (mV 1) (mV 6)) (mV 3)) (aCons (mOp dIx (mOp dIx (mV 1) (mV 2)) (mV 3)) (aNil))) (KE R M h c x4 x5 (.val (.int (t : Nat))) x7 x8) none = some (rD (A t c / A h c), none) := by simp [KE, i1, j1, rowD, a1, a2, dv]
    rw [this]
    rfl
  have k2 : rk_2_1t_1_1 (KE R (matL n W (partL A h c t)) h c x4 x5 (.val (.int (t : Nat))) (.val (rD (A t c / A h c))) x8) none = some (.nx (KE R (matL n W (partL A h c (t + 1))) h c x4 x5 (.val (.int (t : Nat))) (.val (rD (A t c / A h c))) x8) none) := by
    have src : mRng rng1 (aCons (mCall gLen (aCons (mOp dIx (mV 1) (mV 6)) (aNil))) (aNil)) (KE R (matL n W (partL A h c t)) h c x4 x5 (.val (.int (t : Nat))) (.val (rD (A t c / A h c))) x8) none = some ((List.range W).map (fun i => D.int ((0 : Int) + (i : Nat))), none) := by
      have e := x_rng1 (W : Int) (by omega) (by omega)
      rw [Int.toNat_natCast, rangeD_map] at e
      generalize matL n W (partL A h c t) = M at *
      simp [KE, i1, rowD, row_len, e]
    have lc := lc_map (E := wipeE (KE R (matL n W (partL A h c t)) h c x4 x5 (.val (.int (t : Nat))) (.val (rD (A t c / A h c))) x8) [8]) (pl := none) (gN 8) (mCall m__law_sub (aCons (mOp dIx (mOp dIx (mV 1) (mV 6)) (mV 8)) (aCons (mCall m__law_mul (aCons (mV 7) (aCons (mOp dIx (mOp dIx (mV 1) (mV 2)) (mV 8)) (aNil)))) (aNil)))) (fun j : Nat => D.int ((0 : Int) + (j : Nat))) (fun j => rD (A t j - A t c / A h c * A h j)) (List.range W) fun j hj => by
      have hj' := List.mem_range.mp hj
      refine ⟨_, rfl, ?_⟩
      have a1 := i2 j hj'
      have a2 := j2 j hj'
      have a3 := ml j hj'
      have a4 := sb j hj'
      rw [Int.zero_add]
      generalize matL n W (partL A h c t) = M at *
      simp [KE, i1, j1, rowD, a1, a2, a3, a4]
    have zl : sized ((List.range W).map (fun i => D.int ((0 : Int) + (i : Nat)))).length = true := x_sized (by rw [List.length_map, List.length_range]; omega)
    have em : mLc [8] (mRng rng1 (aCons (mCall gLen (aCons (mOp dIx (mV 1) (mV 6)) (aNil))) (aNil))) (gN 8) (tYesM) (mCall m__law_sub (aCons (mOp dIx (mOp dIx (mV 1) (mV 6)) (mV 8)) (aCons (mCall m__law_mul (aCons (mV 7) (aCons (mOp dIx (mOp dIx (mV 1) (mV 2)) (mV 8)) (aNil)))) (aNil)))) (KE R (matL n W (partL A h c t)) h c x4 x5 (.val (.int (t : Nat))) (.val (rD (A t c / A h c))) x8) none = some (rowL W (fun j => A t j - A t c / A h c * A h j), none) := by
      rw [x_mLc, src]
      simp only [Option.bind_some, zl, x_bT]
      exact lc
    unfold rk_2_1t_1_1
    have a6 : mV 6 (KE R (matL n W (partL A h c t)) h c x4 x5 (.val (.int (t : Nat))) (.val (rD (A t c / A h c))) x8) none = some (.int (t : Nat), none) := rfl
    rw [setLS_ok em a6 (xs := matL n W (partL A h c t)) rfl (j := t) (by rw [mat_len]; exact ixn ht) (rowL_noL _ _), mat_set, ← partL_succ hht]
    rfl
  unfold rk_2_1t_1_b
  rw [x_sSeq, k1, x_nxN, k2]
  exact ⟨_, _, rfl⟩
theorem rk_low {a h : Nat} (hn : n ≤ 1000) (hW : W ≤ 1000) (hh : h < n) (hc : c < W) (hp : A h c ≠ 0) (hA : ∀ i, i < n → ∀ j, j < W → Sm (a + 1) (A i j)) (ha : 3 * a + 3 ≤ 4000) (x4 x5 x6 x7 x8 : Sl) :
    ∃ y6 y7 y8, rk_2_1t_1 (KE R (matL n W A) h c x4 x5 x6 x7 x8) none = some (.nx (KE R (matL n W (elow A h c)) h c x4 x5 y6 y7 y8) none) := by
  have src : mRng rng2 (aCons (mOp dAdd (mV 2) (mC (.int 1))) (aCons (mCall gLen (aCons (mV 1) (aNil))) (aNil))) (KE R (matL n W A) h c x4 x5 x6 x7 x8) none = some ((List.range' (h + 1) (n - (h + 1))).map (fun k : Nat => D.int (k : Nat)), none) := by
    have e := x_rng2 ((h + 1 : Nat) : Int) (n : Int) (by omega) (by omega) (by omega) (by omega)
    rw [show ((n : Int) - ((h + 1 : Nat) : Int)).toNat = n - (h + 1) by omega, rangeD_nat] at e
    have e1 : (h : Int) + 1 = ((h + 1 : Nat) : Int) := by omega
    simp only [KE, x_mRng, x_aCons, x_mOp, x_mVr, List.getElem?_cons_succ, List.getElem?_cons_zero, x_rdV, x_rdO, Option.bind_some, x_mC, x_addI, Option.map_some, x_mCall, x_aNil, x_lenL, mat_len, e1, e]
  unfold rk_2_1t_1
  rw [x_sForS src]
  obtain ⟨E', p', e1, e2⟩ := for_inv (g := gN 6) (b := rk_2_1t_1_b) (fun k : Nat => D.int (k : Nat)) (fun t E p => p = none ∧ ∃ y6 y7 y8, E = KE R (matL n W (partL A h c (h + 1 + t))) h c x4 x5 y6 y7 y8) (List.range' (h + 1) (n - (h + 1))) 0 _ none ⟨rfl, x6, x7, x8, by rw [Nat.add_zero, partL_first]⟩ fun j t E p hj hp => by
    obtain ⟨rfl, y6, y7, y8, rfl⟩ := hp
    have hjn : j < n - (h + 1) := by have := (List.getElem?_eq_some_iff.mp hj).1; rwa [List.length_range'] at this
    have : t = h + 1 + j := by
      rw [List.getElem?_range' hjn] at hj; have := Option.some.inj hj; omega
    subst this
    rw [Nat.zero_add]
    refine ⟨_, rfl, ?_⟩
    obtain ⟨z7, z8, e⟩ := rk_turn (R := R) hn hW hh (by omega : h + 1 + j < n) (by omega) hc hp hA ha x4 x5 y7 y8
    exact ⟨_, none, .inl e, rfl, _, z7, z8, rfl⟩
  obtain ⟨rfl, y6, y7, y8, rfl⟩ := e2
  rw [e1, Nat.zero_add, List.length_range', show h + 1 + (n - (h + 1)) = n by omega, partL_all]
  exact ⟨y6, y7, y8, rfl⟩
theorem rk_col {a : Nat} {L : List Nat} (hn : n ≤ 900) (hW : W ≤ 900) (hL : L.length ≤ n) (hc : c < W) (hA : Cd n W a A) (ha : L.length < n → 3 * a + 3 ≤ 4000) (x4 x5 x6 x7 x8 : Sl) :
    ∃ y4 y6 y7 y8, rk_2_b (KE R (matL n W A) L.length c x4 x5 x6 x7 x8) none = some (.nx (KE R (matL n W (stp n elow (A, L) c).1) (stp n elow (A, L) c).2.length c y4 x5 y6 y7 y8) none) := by
  have ff := first_filter (fun k => decide (A k c ≠ 0)) (n - L.length) L.length
  unfold rk_2_b
  rw [x_sSeq, rk_k0 (by omega) hL hc, x_nxN]
  unfold rk_2_1 stp
  dsimp only
  cases e : first (fun k => decide (A k c ≠ 0)) L.length (n - L.length) with
  | none =>
    rw [e] at ff
    have : someL A c L.length n = [] := List.head?_eq_none_iff.mp ff
    rw [this]
    refine ⟨.val (.lst (ldL [])), x6, x7, x8, ?_⟩
    rw [x_sIf]
    have t : mTst (mOp dGt (mCall gLen (aCons (mV 4) (aNil))) (mC (.int 0))) (KE R (matL n W A) L.length c (.val (.lst (ldL []))) x5 x6 x7 x8) none = some (false, none) := rfl
    rw [t]
    rfl
  | some k =>
    rw [e] at ff
    obtain ⟨s, hs⟩ : ∃ s, someL A c L.length n = k :: s := by
      change (someL A c L.length n).head? = some k at ff
      cases q : someL A c L.length n with
      | nil => rw [q] at ff; cases ff
      | cons z s => rw [q] at ff; cases ff; exact ⟨s, rfl⟩
    rw [hs]
    obtain ⟨f1, f2, f3, _⟩ := first_some e
    have f3' : A k c ≠ 0 := by simpa using f3
    have hk : k < n := by omega
    have hh : L.length < n := by omega
    have ha := ha hh
    have sA := hA.swp hh hk
    have hp : swp A L.length k L.length c ≠ 0 := by unfold swp; rw [if_pos rfl]; exact f3'
    obtain ⟨y6, y7, y8, e5⟩ := rk_low (R := R) (by omega) (by omega) hh hc hp (fun i hi j hj => sA.sm hi hj) ha (.val (.lst (ldL (k :: s)))) x5 x6 x7 x8
    refine ⟨.val (.lst (ldL (k :: s))), y6, y7, y8, ?_⟩
    rw [x_sIf]
    have t : mTst (mOp dGt (mCall gLen (aCons (mV 4) (aNil))) (mC (.int 0))) (KE R (matL n W A) L.length c (.val (.lst (ldL (k :: s)))) x5 x6 x7 x8) none = some (true, none) := by
      have e1 : gLen [.lst (ldL (k :: s))] = some (.int (((ldL s).length + 1 : Nat) : Int)) := rfl
      have e2 : mV 4 (KE R (matL n W A) L.length c (.val (.lst (ldL (k :: s)))) x5 x6 x7 x8) none = some (.lst (ldL (k :: s)), none) := rfl
      have e3 : decide ((0 : Int) < (((ldL s).length + 1 : Nat) : Int)) = true := decide_eq_true (by omega)
      simp only [x_mTst, x_mOp, x_mCall, x_aCons, e2, Option.bind_some, x_aNil, e1, Option.map_some, x_mC, x_gt, x_blD, e3]
    rw [t]
    simp only [Option.bind_some, x_bT]
    unfold rk_2_1t_b
    rw [x_sSeq, show ldL (k :: s) = .int (k : Nat) :: ldL s from rfl, rk_swp hh hk, x_nxN, x_sSeq]
    change nxt (rk_2_1t_1 (KE R (matL n W (swp A L.length k)) L.length c (.val (.lst (ldL (k :: s)))) x5 x6 x7 x8) none) rk_2_1t_2 = _
    rw [e5, x_nxN, List.length_append, List.length_singleton]
    generalize matL n W (elow (swp A L.length k) L.length c) = M1 at *
    unfold rk_2_1t_2
    have e6 : mOp dAdd (mV 2) (mC (.int 1)) (vw [] (KE R M1 L.length c (.val (.lst (ldL (k :: s)))) x5 y6 y7 y8)) none = some (.int ((L.length + 1 : Nat) : Int), none) := by
      have e7 : mV 2 (vw [] (KE R M1 L.length c (.val (.lst (ldL (k :: s)))) x5 y6 y7 y8)) none = some (.int (L.length : Nat), none) := rfl
      simp only [x_mOp, e7, Option.bind_some, x_mC, x_addI, Option.map_some]
      rfl
    rw [x_sAsgF, e6]
    rfl
end
theorem rank_ok {n W a : Nat} (F : Mat) (h0 : 0 < n) (hn : n ≤ 900) (hW : W ≤ 900) (hA : Cd n W a F) (ha : ∀ t, t < n → t < W → 3 * gr t a + 3 ≤ 4000) :
    m__law_rank [.lst (matL n W F)] = some (.int ((run n elow F W).2.length : Nat)) := by
  unfold m__law_rank
  rw [rk_eq]
  simp only [x_runF, e0c, e0n, e00]
  have zn : sized n = true := x_sized (by omega)
  have k0 : rk_0 [.val (.lst (matL n W F)), .un, .un, .un, .un, .un, .un, .un, .un] none = some (.nx [.val (.lst (matL n W F)), .own (matL n W F), .un, .un, .un, .un, .un, .un, .un] none) := by
    unfold rk_0
    rw [x_sOwn, x_mLc]
    have src : mIt itD (mV 0) (vw [] [.val (.lst (matL n W F)), .un, .un, .un, .un, .un, .un, .un, .un]) none = some (matL n W F, none) := rfl
    rw [src]
    simp only [Option.bind_some, mat_len, zn, x_bT]
    have lc := lc_map (E := wipeE (vw [] [.val (.lst (matL n W F)), .un, .un, .un, .un, .un, .un, .un, .un]) [5]) (pl := none) (gN 5) (mFrz (mCallL gList (aCons (mV 5) (aNil)))) (fun i => rowD W (F i)) (fun i => rowD W (F i)) (List.range n) fun i hi => ⟨_, rfl, by
      generalize matL n W F = M
      simp [rowD]⟩
    change (lcL _ _ _ _ ((List.range n).map fun i => rowD W (F i)) none).bind _ = _
    rw [lc]
    rfl
  have k1 : rk_1 [.val (.lst (matL n W F)), .own (matL n W F), .un, .un, .un, .un, .un, .un, .un] none = some (.nx [.val (.lst (matL n W F)), .own (matL n W F), .val (.int 0), .un, .un, .un, .un, .un, .un] none) := rfl
  have k2 : ∃ y3 y4 y5 y6 y7 y8, rk_2 [.val (.lst (matL n W F)), .own (matL n W F), .val (.int 0), .un, .un, .un, .un, .un, .un] none = some (.nx [.val (.lst (matL n W F)), .own (matL n W (run n elow F W).1), .val (.int ((run n elow F W).2.length : Nat)), y3, y4, y5, y6, y7, y8] none) := by
    have src : mRng rng1 (aCons (mIte (mTst (mOp dGt (mCall gLen (aCons (mV 1) (aNil))) (mC (.int 0)))) (mCall gLen (aCons (mOp dIx (mV 1) (mC (.int 0))) (aNil))) (mC (.int 0))) (aNil)) [.val (.lst (matL n W F)), .own (matL n W F), .val (.int 0), .un, .un, .un, .un, .un, .un] none = some ((List.range W).map (fun i => D.int ((0 : Int) + (i : Nat))), none) := by
      have e := x_rng1 (W : Int) (by omega) (by omega)
      rw [Int.toNat_natCast, rangeD_map] at e
      have i1 := mat_at (W := W) F h0
      have l1 := mat_len n W F
      have e3 : decide ((0 : Int) < (n : Int)) = true := decide_eq_true (by omega)
      generalize matL n W F = M at *
      simp only [x_mRng, x_aCons, x_mIte, x_mTst, x_mOp, x_mCall, x_mVr, List.getElem?_cons_succ, List.getElem?_cons_zero, x_rdO, Option.bind_some, x_aNil, x_lenL, l1, Option.map_some, x_mC, x_gt, x_blD, e3, x_bT, x_ixL]
      rw [show (0 : Int) = ((0 : Nat) : Int) from rfl, i1]
      simp only [Option.bind_some, Option.map_some, rowD, x_lenL, row_len, e]
      rfl
    unfold rk_2
    rw [x_sForS src]
    obtain ⟨E', p', e1, e2⟩ := for_inv (g := gN 3) (b := rk_2_b) (fun i : Nat => D.int ((0 : Int) + (i : Nat))) (fun t E p => p = none ∧ ∃ y3 y4 y5 y6 y7 y8, E = [.val (.lst (matL n W F)), .own (matL n W (run n elow F t).1), .val (.int ((run n elow F t).2.length : Nat)), y3, y4, y5, y6, y7, y8]) (List.range W) 0 [.val (.lst (matL n W F)), .own (matL n W F), .val (.int 0), .un, .un, .un, .un, .un, .un] none
      ⟨rfl, .un, .un, .un, .un, .un, .un, rfl⟩ fun j t E p hj hp => by
      obtain ⟨rfl, y3, y4, y5, y6, y7, y8, rfl⟩ := hp
      have hjn : j < W := by have := (List.getElem?_eq_some_iff.mp hj).1; rwa [List.length_range] at this
      have : t = j := by rw [List.getElem?_range hjn] at hj; exact (Option.some.inj hj).symm
      subst this
      rw [Nat.zero_add, Int.zero_add]
      refine ⟨_, rfl, ?_⟩
      have ec := ech_run (good_elow n) F t
      have cd := cd_run (good_elow n) (sized_elow n W) hA t (by omega)
      generalize hr : run n elow F t = r at *
      obtain ⟨A, L⟩ := r
      dsimp only at *
      rw [run_succ, hr]
      have lt : L.length ≤ t := by
        have : L.length ≤ (List.range t).length := by
          refine nodup_le L (List.range t) (ec.ris.imp fun h => Nat.ne_of_lt h) fun c hc => List.mem_range.mpr (ec.bnd c hc)
        rwa [List.length_range] at this
      obtain ⟨z4, z6, z7, z8, e⟩ := rk_col (R := .lst (matL n W F)) hn hW ec.few hjn cd (fun full => ha _ full (by omega)) y4 y5 y6 y7 y8
      exact ⟨_, none, .inl e, rfl, .val (.int (t : Nat)), z4, y5, z6, z7, z8, rfl⟩
    obtain ⟨rfl, y3, y4, y5, y6, y7, y8, rfl⟩ := e2
    rw [Nat.zero_add, List.length_range] at e1
    exact ⟨y3, y4, y5, y6, y7, y8, e1⟩
  obtain ⟨y3, y4, y5, y6, y7, y8, k2⟩ := k2
  rw [x_sSeq, k0, x_nxN, x_sSeq, k1, x_nxN, x_sSeq, k2, x_nxN]
  rfl
end Lw
set_option Elab.async false
set_option linter.all false
set_option maxRecDepth 100000
set_option maxHeartbeats 2000000
/-! Defs by names: what a def comes to, without slots. -/
namespace Dn
open PySem PySem.Spec PyProof.Rows L2

abbrev XM (α : Type) := Option Pl → Option (α × Option Pl)
section
variable {α β γ σ ρ : Type}
/-! ### expressions -/
def sqX (m : XM α) (f : α → XM β) : XM β := fun pl => match m pl with
  | some (a, p) => f a p
  | none => none
def kx (a : α) : XM α := fun pl => some (a, pl)
def lfX (o : Option α) : XM α := fun pl => o.map fun d => (d, pl)
def op2 (g : α → β → Option γ) (a : XM α) (b : XM β) : XM γ := sqX a fun x => sqX b fun y => lfX (g x y)
def op1 (g : α → Option γ) (a : XM α) : XM γ := sqX a fun x => lfX (g x)
def an : XM (List α) := kx []
def ac (a : XM α) (r : XM (List α)) : XM (List α) := sqX a fun x => sqX r fun xs => kx (x :: xs)
def cal (g : List D → Option γ) (m : XM (List D)) : XM γ := sqX m fun xs => lfX (g xs)
def notX (m : XM Bool) : XM Bool := sqX m fun b => kx (!b)
def andX (m n : XM Bool) : XM Bool := sqX m fun b => bM b n (kx false)
def orX (m n : XM Bool) : XM Bool := sqX m fun b => bM b (kx true) n
def iteX (c : XM Bool) (a b : XM D) : XM D := sqX c fun t => bM t a b
def andV (a b : XM D) : XM D := sqX a fun x => sqX (lfX (tru x)) fun t => bM t b (kx x)
def orV (a b : XM D) : XM D := sqX a fun x => sqX (lfX (tru x)) fun t => bM t (kx x) b
def notV (a : XM D) : XM D := sqX a fun x => sqX (lfX (tru x)) fun t => kx (.bl (!t))
def chn (g g' : D → D → Option D) (ma mb mc : XM D) : XM D := sqX ma fun x => sqX mb fun y => sqX (lfX ((g x y).bind blD)) fun t => bM t (sqX mc fun z => lfX (g' y z)) (kx (.bl false))
def tupX (m : XM (List D)) : XM D := sqX m fun xs => bM (sized xs.length) (kx (.tup xs)) (lfX none)
def lstX (m : XM (List D)) : XM (List D) := sqX m fun xs => bM (sized xs.length) (kx xs) (lfX none)
def frzX (m : XM (List D)) : XM D := sqX m fun xs => kx (.lst xs)
def isiX (T : String) (m : XM D) : XM D := sqX m fun x => kx (.bl (isTy T x))
def osX (m : XM D) : XM (Option Int) := sqX m fun x => lfX ((intD x).map some)
def slX (g : D → Option Int → Option Int → Option γ) (m : XM D) (lo hi : XM (Option Int)) : XM γ := sqX m fun x => sqX lo fun l => sqX hi fun h => lfX (g x l h)
def rdX (sl : Sl) : XM D := fun pl => match some sl with
  | some (.val d) => some (d, pl)
  | some (.own xs) => some (.lst xs, pl)
  | some (.owd ks vs) => some (.dct ks vs, pl)
  | _ => none
def pixX (j : Int) : XM D := fun pl => match some Sl.pool, pl with
  | some .pool, some P => (plIx P j).map fun d => (d, some P)
  | _, _ => none
def calP (g : Pl → List D → Option (γ × Pl)) (m : XM (List D)) : XM γ := fun pl => match m pl with
  | some (xs, some P) => (g P xs).map fun r => (r.1, some r.2)
  | _ => none
/-! targets -/
def bdE (o : Option Env) (k : Env → Option β) : Option β := match o with
  | none => none
  | some E => k E
def un1 (d : D) (f : D → Option β) : Option β := match d with
  | .tup [x] => f x
  | .lst [x] => f x
  | _ => none
def un2 (d : D) (f : D → D → Option β) : Option β := match d with
  | .tup [x, y] => f x y
  | .lst [x, y] => f x y
  | _ => none
def un3 (d : D) (f : D → D → D → Option β) : Option β := match d with
  | .tup [x, y, z] => f x y z
  | .lst [x, y, z] => f x y z
  | _ => none
def un4 (d : D) (f : D → D → D → D → Option β) : Option β := match d with
  | .tup [x, y, z, w] => f x y z w
  | .lst [x, y, z, w] => f x y z w
  | _ => none
/-! comprehensions -/
def telX (t : XM Bool) (e : XM D) : XM (Option D) := fun pl => match t pl with
  | none => none
  | some (false, p) => some (none, p)
  | some (true, p) => match e p with
    | none => none
    | some (y, p2) => some (some y, p2)
def elX (e : XM D) : XM (Option D) := fun pl => match e pl with
  | none => none
  | some (y, p2) => some (some y, p2)
def lcR (one : D → XM (Option D)) : List D → XM (List D)
  | [], pl => some ([], pl)
  | d :: ds, pl => match one d pl with
    | none => none
    | some (none, p) => lcR one ds p
    | some (some y, p2) => match lcR one ds p2 with
      | none => none
      | some (ys, p3) => some (y :: ys, p3)
def lcB (src : XM (List D)) (one : D → XM (Option D)) : XM (List D) := fun pl => match src pl with
  | none => none
  | some (ds, p) => bM (sized ds.length) (lcR one ds p) none
/-! ### statements -/
def bd (x : Option (α × Option Pl)) (f : α → Option Pl → Option β) : Option β := match x with
  | none => none
  | some r => f r.1 r.2
def gd (b : Bool) (o : Option β) : Option β := bM b o none
def ifX (c : Option (Bool × Option Pl)) (a b : Option Pl → Option β) : Option β := match c with
  | some (true, p) => a p
  | some (false, p) => b p
  | none => none
def lstU (d : D) (f : List D → Option β) : Option β := match d with
  | .lst xs => f xs
  | _ => none
def wth (a : γ) (p : Option Pl) (f : γ → Option Pl → Option β) : Option β := f a p
def intU (d : D) (f : Int → Option β) : Option β := match d with
  | .int i => f i
  | _ => none
def atU (o : Option γ) (f : γ → Option β) : Option β := match o with
  | some j => f j
  | none => none
def pnX (x : Option (List D × Option Pl)) (f : Option Pl → Option β) : Option β := match x with
  | some ([.scr ns, .int a, .int b, .int c], none) => f (some ⟨ns, a, b, c⟩)
  | _ => none
def psX (j : Int) (x : Option (D × Option Pl)) (f : Option Pl → Option β) : Option β := match x with
  | some (.int z, some P) => match plSet P j z with
    | some P' => f (some P')
    | none => none
  | _ => none
/-- what a turn hands on -/
inductive Lr (σ ρ : Type) where
  | go (s : σ) (p : Option Pl)
  | br (s : σ) (p : Option Pl)
  | rt (d : ρ) (p : Option Pl)
def lpS (step : D → σ → Option Pl → Option (σ × Option Pl)) : List D → σ → Option Pl → Option (σ × Option Pl)
  | [], s, p => some (s, p)
  | d :: ds, s, p => bd (step d s p) (lpS step ds)
def lpG (step : D → σ → Option Pl → Option (Lr σ ρ)) : List D → σ → Option Pl → Option (Lr σ ρ)
  | [], s, p => some (.go s p)
  | d :: ds, s, p => match step d s p with
    | none => none
    | some (.go s p) => lpG step ds s p
    | some (.br s p) => some (.br s p)
    | some (.rt d p) => some (.rt d p)
def whS (c : σ → XM Bool) (step : σ → Option Pl → Option (σ × Option Pl)) : Nat → σ → Option Pl → Option (σ × Option Pl)
  | 0, _, _ => none
  | n + 1, s, p => ifX (c s p) (fun p => bd (step s p) (whS c step n)) (fun p => some (s, p))
def whG (c : σ → XM Bool) (step : σ → Option Pl → Option (Lr σ ρ)) : Nat → σ → Option Pl → Option (Lr σ ρ)
  | 0, _, _ => none
  | n + 1, s, p => ifX (c s p) (fun p => match step s p with
    | none => none
    | some (.go s p) => whG c step n s p
    | some (.br s p) => some (.br s p)
    | some (.rt d p) => some (.rt d p)) (fun p => some (.go s p))
def bo (x : Option (Lr σ ρ)) (f : σ → Option Pl → Option β) (h : ρ → Option Pl → Option β) : Option β := match x with
  | none => none
  | some (.go s p) => f s p
  | some (.br s p) => f s p
  | some (.rt d p) => h d p
/-! ### what one says of the other -/
def Rel (G : Out → α → Prop) (o : Option Out) (r : Option α) : Prop := ∀ x, r = some x → ∃ o', o = some o' ∧ G o' x
def GrF (o : Out) (d : D) (p : Option Pl) : Prop := (∃ E, o = .rt d E p) ∨ ∃ xs E, o = .rtl xs E p ∧ d = .lst xs
def GrL (o : Out) (d : List D) (p : Option Pl) : Prop := ∃ E, o = .rtl d E p
def Gf (o : Out) (r : D × Option Pl) : Prop := GrF o r.1 r.2 ∨ ∃ E, o = .nx E r.2 ∧ r.1 = .non
def Gl (o : Out) (r : List D × Option Pl) : Prop := GrL o r.1 r.2
/-- a block that falls through -/
def Gn (mk : σ → Env → Prop) (o : Out) (r : σ × Option Pl) : Prop := ∃ E, o = .nx E r.2 ∧ mk r.1 E
/-- a turn without exits -/
def Gs (mk : σ → Env → Prop) (o : Out) (r : σ × Option Pl) : Prop := ∃ E, (o = .nx E r.2 ∨ o = .ct E r.2) ∧ mk r.1 E
/-- a turn -/
def Gt (mk : σ → Env → Prop) (Gr : Out → ρ → Option Pl → Prop) (o : Out) : Lr σ ρ → Prop
  | .go s p => ∃ E, (o = .nx E p ∨ o = .ct E p) ∧ mk s E
  | .br s p => ∃ E, o = .bk E p ∧ mk s E
  | .rt d p => Gr o d p
variable {G : Out → α → Prop} {a b c : SM} {E : Env} {pl : Option Pl} {r : Option α}
theorem Rel.none (o : Option Out) : Rel G o (Option.none : Option α) := fun x h => nomatch h
theorem q_eq {o o' : Option Out} (h : o = o') (k : Rel G o' r) : Rel G o r := h ▸ k
theorem seq_nil (a : SM) : sSeq a sNil E pl = a E pl := by
  unfold sSeq sNil
  cases a E pl with
  | none => rfl
  | some o => cases o <;> rfl
theorem q_last (h : Rel G (sSeq a sNil E pl) r) : Rel G (a E pl) r := q_eq (seq_nil a).symm h
theorem q_assoc (h : Rel G (sSeq a (sSeq b c) E pl) r) : Rel G (sSeq (sSeq a b) c E pl) r := q_eq (by
  simp only [x_sSeq]
  cases a E pl with
  | none => rfl
  | some o => cases o <;> simp) h
theorem q_nil (h : Rel G (b E pl) r) : Rel G (sSeq sNil b E pl) r := h
theorem q_bd {x : Option (β × Option Pl)} {o : Option Out} {f : β → Option Pl → Option α} (h : ∀ v p, x = some (v, p) → Rel G o (f v p)) : Rel G o (bd x f) := by
  cases x with
  | none => exact Rel.none _
  | some q => exact h q.1 q.2 rfl
theorem q_asgF {F : List Nat} {g : TM} {m : EM} {X : XM D} {f : D → Option Pl → Option α} (hx : m (vw F E) = X) (h : ∀ d p, Rel G (bdE (g d (frz F E)) fun E' => b E' p) (f d p)) : Rel G (sSeq (sAsgF F g m) b E pl) (bd (X pl) f) := by
  subst hx
  refine q_bd fun v p e => ?_
  refine q_eq ?_ (h v p)
  rw [x_sSeq, x_sAsgF, e, Option.bind_some]
  cases g v (frz F E) with
  | none => rfl
  | some E1 => rfl
theorem q_asgS {g : TM} {m : EM} {X : XM D} {f : D → Option Pl → Option α} (hx : m E = X) (h : ∀ d p, Rel G (bdE (g d E) fun E' => b E' p) (f d p)) : Rel G (sSeq (sAsgS g m) b E pl) (bd (X pl) fun d p => gd (noL d) (f d p)) := by
  subst hx
  refine q_bd fun v p e => ?_
  cases hn : noL v with
  | false => exact Rel.none _
  | true =>
    refine q_eq ?_ (h v p)
    rw [x_sSeq, x_sAsgS, e, Option.bind_some, hn]
    cases g v E with
    | none => rfl
    | some E1 => rfl
theorem q_own {F : List Nat} {i : Nat} {m : AM} {X : XM (List D)} {E' : List D → Env} {f : List D → Option Pl → Option α} (hx : m (vw F E) = X) (he : ∀ xs, (frz F E).set i (.own xs) = E' xs) (h : ∀ d p, Rel G (b (E' d) p) (f d p)) : Rel G (sSeq (sOwn F i m) b E pl) (bd (X pl) f) := by
  subst hx
  refine q_bd fun v p e => ?_
  refine q_eq ?_ (h v p)
  rw [x_sSeq, x_sOwn, e, Option.bind_some, he]; rfl
theorem q_ownS {i : Nat} {m : AM} {X : XM (List D)} {E' : List D → Env} {f : List D → Option Pl → Option α} (hx : m E = X) (he : ∀ xs, E.set i (.own xs) = E' xs) (h : ∀ d p, Rel G (b (E' d) p) (f d p)) : Rel G (sSeq (sOwnS i m) b E pl) (bd (X pl) fun d p => gd (noLL d) (f d p)) := by
  subst hx
  refine q_bd fun v p e => ?_
  cases hn : noLL v with
  | false => exact Rel.none _
  | true =>
    refine q_eq ?_ (h v p)
    rw [x_sSeq, x_sOwnS, e, Option.bind_some, hn, he]; rfl
theorem q_asgLS {i : Nat} {m : AM} {X : XM (List D)} {E' : List D → Env} {f : List D → Option Pl → Option α} (hx : m E = X) (he : ∀ xs, E.set i (.val (.lst xs)) = E' xs) (h : ∀ d p, Rel G (b (E' d) p) (f d p)) : Rel G (sSeq (sAsgLS i m) b E pl) (bd (X pl) fun d p => gd (noLL d) (f d p)) := by
  subst hx
  refine q_bd fun v p e => ?_
  cases hn : noLL v with
  | false => exact Rel.none _
  | true =>
    refine q_eq ?_ (h v p)
    rw [x_sSeq, x_sAsgLS, e, Option.bind_some, hn, he]; rfl
theorem q_par {F : List Nat} {i j : Nat} {ma mb : EM} {X Y : XM D} {E' : D → D → Env} {f : D → D → Option Pl → Option α} (hx : ma (vw F E) = X) (hy : mb (vw F E) = Y) (he : ∀ x y, ((frz F E).set i (.val x)).set j (.val y) = E' x y) (h : ∀ x y p, Rel G (b (E' x y) p) (f x y p)) : Rel G (sSeq (sPar F i j (aCons ma (aCons mb aNil))) b E pl) (bd (X pl) fun x p => bd (Y p) fun y p => f x y p) := by
  subst hx; subst hy
  refine q_bd fun x p e => q_bd fun y q e' => ?_
  refine q_eq ?_ (h x y q)
  rw [x_sSeq, x_sPar, e, Option.bind_some]
  dsimp only
  rw [e', Option.bind_some, ← he]; rfl
theorem q_drop {m : EM} {X : XM D} {f : D → Option Pl → Option α} (hx : m E = X) (h : ∀ d p, Rel G (b E p) (f d p)) : Rel G (sSeq (sDrop m) b E pl) (bd (X pl) f) := by
  subst hx
  refine q_bd fun v p e => ?_
  refine q_eq ?_ (h v p)
  rw [x_sSeq, x_sDrop, e]; rfl
theorem q_appS {i : Nat} {m : EM} {X : XM D} {xs : List D} {E' : List D → Env} {f : List D → Option Pl → Option α} (hx : m E = X) (ho : ownS E[i]? = some xs) (he : ∀ xs, E.set i (.own xs) = E' xs) (h : ∀ xs p, Rel G (b (E' xs) p) (f xs p)) : Rel G (sSeq (sAppS i m) b E pl) (bd (X pl) fun d p => gd (noL d && sized xs.length) (wth (xs ++ [d]) p f)) := by
  subst hx
  refine q_bd fun v p e => ?_
  cases hn : (noL v && sized xs.length) with
  | false => exact Rel.none _
  | true =>
    refine q_eq ?_ (h _ p)
    rw [x_sSeq, x_sAppS, e, Option.bind_some, ho, Option.bind_some, hn, he]; rfl
theorem q_appF {F : List Nat} {i : Nat} {m : EM} {X : XM D} {xs : List D} {E' : List D → Env} {f : List D → Option Pl → Option α} (hx : m (vw F E) = X) (ho : ownS (frz F E)[i]? = some xs) (he : ∀ xs, (frz F E).set i (.own xs) = E' xs) (h : ∀ xs p, Rel G (b (E' xs) p) (f xs p)) : Rel G (sSeq (sAppF F i m) b E pl) (bd (X pl) fun d p => gd (sized xs.length) (wth (xs ++ [d]) p f)) := by
  subst hx
  refine q_bd fun v p e => ?_
  cases hn : sized xs.length with
  | false => exact Rel.none _
  | true =>
    refine q_eq ?_ (h _ p)
    rw [x_sSeq, x_sAppF, e, Option.bind_some, ho, Option.bind_some, hn, he]; rfl
theorem q_appLS {i : Nat} {m : AM} {X : XM (List D)} {xs : List D} {E' : List D → Env} {f : List D → Option Pl → Option α} (hx : m E = X) (ho : E[i]? = some (.own xs)) (he : ∀ xs, E.set i (.own xs) = E' xs) (h : ∀ xs p, Rel G (b (E' xs) p) (f xs p)) : Rel G (sSeq (sAppLS i m) b E pl) (bd (X pl) fun d p => gd (noLL d && sized xs.length) (wth (xs ++ [.lst d]) p f)) := by
  subst hx
  refine q_bd fun v p e => ?_
  cases hn : (noLL v && sized xs.length) with
  | false => exact Rel.none _
  | true =>
    refine q_eq ?_ (h _ p)
    rw [x_sSeq]; unfold sAppLS; rw [e]; dsimp only; rw [ho]; dsimp only; rw [hn, he]; rfl
theorem q_extF {F : List Nat} {i : Nat} {m : EM} {X : XM D} {xs : List D} {E' : List D → Env} {f : List D → Option Pl → Option α} (hx : m (vw F E) = X) (ho : ownS (frz F E)[i]? = some xs) (he : ∀ xs, (frz F E).set i (.own xs) = E' xs) (h : ∀ xs p, Rel G (b (E' xs) p) (f xs p)) : Rel G (sSeq (sExtF F i m) b E pl) (bd (X pl) fun d p => lstU d fun ys => gd (sized (xs.length + ys.length)) (wth (xs ++ ys) p f)) := by
  subst hx
  refine q_bd fun v p e => ?_
  cases v <;> try exact Rel.none _
  case lst ys =>
  show Rel G _ (gd _ _)
  cases hn : sized (xs.length + ys.length) with
  | false => exact Rel.none _
  | true =>
    refine q_eq ?_ (h _ p)
    rw [x_sSeq, x_sExtF, e, Option.bind_some, x_lstD, Option.bind_some, ho, Option.bind_some, hn, he]; rfl
theorem q_extS {i : Nat} {m : EM} {X : XM D} {xs : List D} {E' : List D → Env} {f : List D → Option Pl → Option α} (hx : m E = X) (ho : ownS E[i]? = some xs) (he : ∀ xs, E.set i (.own xs) = E' xs) (h : ∀ xs p, Rel G (b (E' xs) p) (f xs p)) : Rel G (sSeq (sExtS i m) b E pl) (bd (X pl) fun d p => lstU d fun ys => gd (noLL ys && sized (xs.length + ys.length)) (wth (xs ++ ys) p f)) := by
  subst hx
  refine q_bd fun v p e => ?_
  cases v <;> try exact Rel.none _
  case lst ys =>
  show Rel G _ (gd _ _)
  cases hn : (noLL ys && sized (xs.length + ys.length)) with
  | false => exact Rel.none _
  | true =>
    refine q_eq ?_ (h _ p)
    rw [x_sSeq, x_sExtS, e, Option.bind_some, x_lstD, Option.bind_some, ho, Option.bind_some, hn, he]; rfl
theorem q_setS {i : Nat} {mi m : EM} {X Y : XM D} {xs : List D} {E' : List D → Env} {f : List D → Option Pl → Option α} (hx : m E = X) (hy : mi E = Y) (ho : E[i]? = some (.own xs)) (he : ∀ xs, E.set i (.own xs) = E' xs) (h : ∀ xs p, Rel G (b (E' xs) p) (f xs p)) :
    Rel G (sSeq (sSetS i mi m) b E pl) (bd (X pl) fun d p => bd (Y p) fun k p => intU k fun k => atU (ixN xs.length k) fun j => gd (noL d) (wth (xs.set j d) p f)) := by
  subst hx; subst hy
  refine q_bd fun v p e => q_bd fun k q e' => ?_
  cases k <;> try exact Rel.none _
  case int k =>
  show Rel G _ (atU _ _)
  cases hj : ixN xs.length k with
  | none => exact Rel.none _
  | some j =>
    show Rel G _ (gd _ _)
    cases hn : noL v with
    | false => exact Rel.none _
    | true =>
      refine q_eq ?_ (h _ q)
      rw [x_sSeq]; unfold sSetS; rw [e]; dsimp only; rw [e']; dsimp only; rw [ho]; dsimp only; rw [hj]; dsimp only; rw [hn, he]; rfl
theorem q_setLS {i : Nat} {mi : EM} {m : AM} {X : XM (List D)} {Y : XM D} {xs : List D} {E' : List D → Env} {f : List D → Option Pl → Option α} (hx : m E = X) (hy : mi E = Y) (ho : E[i]? = some (.own xs)) (he : ∀ xs, E.set i (.own xs) = E' xs) (h : ∀ xs p, Rel G (b (E' xs) p) (f xs p)) :
    Rel G (sSeq (sSetLS i mi m) b E pl) (bd (X pl) fun d p => bd (Y p) fun k p => intU k fun k => atU (ixN xs.length k) fun j => gd (noLL d) (wth (xs.set j (.lst d)) p f)) := by
  subst hx; subst hy
  refine q_bd fun v p e => q_bd fun k q e' => ?_
  cases k <;> try exact Rel.none _
  case int k =>
  show Rel G _ (atU _ _)
  cases hj : ixN xs.length k with
  | none => exact Rel.none _
  | some j =>
    show Rel G _ (gd _ _)
    cases hn : noLL v with
    | false => exact Rel.none _
    | true =>
      refine q_eq ?_ (h _ q)
      rw [x_sSeq]; unfold sSetLS; rw [e]; dsimp only; rw [e']; dsimp only; rw [ho]; dsimp only; rw [hj]; dsimp only; rw [hn, he]; rfl
/-- what xs[a], xs[b] = xs[c], xs[d] makes of xs -/
def swpX (xs : List D) (k1 k2 k3 k4 : Int) : Option (List D) := (atI xs k3).bind fun d3 => (atI xs k4).bind fun d4 => (ixN xs.length k1).bind fun j1 => (ixN xs.length k2).map fun j2 => (xs.set j1 d3).set j2 d4
theorem q_swp {i : Nat} {m1 m2 m3 m4 : EM} {X1 X2 X3 X4 : XM D} {xs : List D} {E' : List D → Env} {f : List D → Option Pl → Option α} (h1 : m1 E = X1) (h2 : ∀ xs, m2 (E' xs) = X2) (h3 : m3 E = X3) (h4 : m4 E = X4) (ho : E[i]? = some (.own xs)) (he : ∀ xs, E.set i (.own xs) = E' xs) (he2 : ∀ xs ys, (E' xs).set i (.own ys) = E' ys) (h : ∀ xs p, Rel G (b (E' xs) p) (f xs p)) :
    Rel G (sSeq (sSwp i m1 m2 m3 m4) b E pl) (bd (X3 pl) fun k3 p => bd (X4 p) fun k4 p => bd (X1 p) fun k1 p => bd (X2 p) fun k2 p => intU k1 fun k1 => intU k2 fun k2 => intU k3 fun k3 => intU k4 fun k4 => atU (swpX xs k1 k2 k3 k4) fun xs => wth xs p f) := by
  subst h1; subst h3; subst h4
  refine q_bd fun k3 p3 e3 => q_bd fun k4 p4 e4 => q_bd fun k1 p1 e1 => q_bd fun k2 p2 e2 => ?_
  cases k1 <;> try exact Rel.none _
  case int k1 =>
  cases k2 <;> try exact Rel.none _
  case int k2 =>
  cases k3 <;> try exact Rel.none _
  case int k3 =>
  cases k4 <;> try exact Rel.none _
  case int k4 =>
  show Rel G _ (atU _ _)
  unfold swpX
  cases a3 : atI xs k3 with
  | none => exact Rel.none _
  | some d3 =>
    cases a4 : atI xs k4 with
    | none => exact Rel.none _
    | some d4 =>
      cases j1 : ixN xs.length k1 with
      | none => exact Rel.none _
      | some j1' =>
        cases j2 : ixN xs.length k2 with
        | none => exact Rel.none _
        | some j2' =>
          refine q_eq ?_ (h _ p2)
          rw [x_sSeq]; unfold sSwp; rw [e3]; dsimp only; rw [e4]; dsimp only; rw [ho]; dsimp only; rw [a3]; dsimp only; rw [a4]; dsimp only; rw [e1]; dsimp only
          unfold swOut
          rw [j1]; dsimp only
          rw [he, h2, e2]; dsimp only
          rw [j2]; dsimp only; first | (rw [he2]; rfl) | (rw [he]; rfl)
theorem q_insF {i : Nat} {m : AM} {X : XM (List D)} {xs : List D} {E' : List D → Env} {f : List D → Option Pl → Option α} (hx : m (vw [] E) = X) (ho : E[i]? = some (.own xs)) (he : ∀ xs, E.set i (.own xs) = E' xs) (h : ∀ xs p, Rel G (b (E' xs) p) (f xs p)) :
    Rel G (sSeq (sInsF i m) b E pl) (bd (X pl) fun as p => un2 (.tup as) fun k d => intU k fun k => gd (sized xs.length && (decide (0 ≤ k) && decide (k < 2 ^ 60))) (wth (insD xs k d) p f)) := by
  subst hx
  refine q_bd fun as p e => ?_
  match as, e with
  | [], _ => exact Rel.none _
  | [_], _ => exact Rel.none _
  | [k, d], e =>
    cases k <;> try exact Rel.none _
    case int k =>
    show Rel G _ (gd _ _)
    cases hn : (sized xs.length && (decide (0 ≤ k) && decide (k < 2 ^ 60))) with
    | false => exact Rel.none _
    | true =>
      refine q_eq ?_ (h _ p)
      rw [x_sSeq]; unfold sInsF; rw [e]; dsimp only; rw [ho]; dsimp only; rw [hn, he]; rfl
  | _ :: _ :: _ :: _, _ => exact Rel.none _
theorem q_retF {F : List Nat} {m : EM} {X : XM D} {f : D → Option Pl → Option α} (hx : m (vw F E) = X) (h : ∀ d E p x, f d p = some x → G (.rt d E p) x) : Rel G (sSeq (sRetF F m) b E pl) (bd (X pl) f) := by
  subst hx
  refine q_bd fun v p e => ?_
  intro x hx
  refine ⟨_, ?_, h v (frz F E) p x hx⟩
  rw [x_sSeq, x_sRetF, e]; rfl
theorem q_retL {F : List Nat} {m : AM} {X : XM (List D)} {f : List D → Option Pl → Option α} (hx : m (vw F E) = X) (h : ∀ d E p x, f d p = some x → G (.rtl d E p) x) : Rel G (sSeq (sRetL F m) b E pl) (bd (X pl) f) := by
  subst hx
  refine q_bd fun v p e => ?_
  intro x hx
  refine ⟨_, ?_, h v (frz F E) p x hx⟩
  rw [x_sSeq, x_sRetL, e]; rfl
theorem q_retO {i : Nat} {xs : List D} {f : List D → Option Pl → Option α} (ho : ownS E[i]? = some xs) (h : ∀ d E p x, f d p = some x → G (.rtl d E p) x) : Rel G (sSeq (sRetO i) b E pl) (f xs pl) := by
  intro x hx
  refine ⟨_, ?_, h xs (E.set i .un) pl x hx⟩
  rw [x_sSeq, x_sRetO, ho]; rfl
theorem q_retN {f : D → Option Pl → Option α} (h : ∀ d E p x, f d p = some x → G (.rt d E p) x) : Rel G (sSeq sRetN b E pl) (f .non pl) := by
  intro x hx
  exact ⟨_, rfl, h .non E pl x hx⟩
theorem q_brk (h : ∀ x, r = some x → G (.bk E pl) x) : Rel G (sSeq sBrk b E pl) r := fun x hx => ⟨_, rfl, h x hx⟩
theorem q_cnt (h : ∀ x, r = some x → G (.ct E pl) x) : Rel G (sSeq sCnt b E pl) r := fun x hx => ⟨_, rfl, h x hx⟩
theorem q_end (h : ∀ x, r = some x → G (.nx E pl) x) : Rel G (sNil E pl) r := fun x hx => ⟨_, rfl, h x hx⟩
/-- a test: both ways go on by themselves -/
theorem q_if {m : BM} {X : XM Bool} {fa fb : Option Pl → Option α} (hx : m E = X) (ha : ∀ p, Rel G (sSeq a c E p) (fa p)) (hb : ∀ p, Rel G (sSeq b c E p) (fb p)) : Rel G (sSeq (sIf m a b) c E pl) (ifX (X pl) fa fb) := by
  subst hx
  cases e : m E pl with
  | none => exact Rel.none _
  | some q =>
    obtain ⟨t, p⟩ := q
    cases t with
    | true => exact q_eq (by rw [x_sSeq, x_sIf, e]; simp) (ha p)
    | false => exact q_eq (by rw [x_sSeq, x_sIf, e]; simp) (hb p)
/-- a test behind which both ways meet -/
theorem q_join (mk : σ → Env → Prop) {m : BM} {X : XM Bool} {fa fb : Option Pl → Option (σ × Option Pl)} {f : σ → Option Pl → Option α} (hx : m E = X) (ha : ∀ p, Rel (Gn mk) (sSeq a sNil E p) (fa p)) (hb : ∀ p, Rel (Gn mk) (sSeq b sNil E p) (fb p)) (h : ∀ s p E, mk s E → Rel G (c E p) (f s p)) :
    Rel G (sSeq (sIf m a b) c E pl) (bd (ifX (X pl) fa fb) f) := by
  subst hx
  cases e : m E pl with
  | none => exact Rel.none _
  | some q =>
    obtain ⟨t, p⟩ := q
    cases t with
    | true =>
      refine q_bd fun s p2 e2 => ?_
      obtain ⟨o', h1, E', rfl, h2⟩ := ha p (s, p2) e2
      exact q_eq (by rw [x_sSeq, x_sIf, e, Option.bind_some]; dsimp only [x_bT]; rw [seq_nil] at h1; rw [h1]; rfl) (h s p2 E' h2)
    | false =>
      refine q_bd fun s p2 e2 => ?_
      obtain ⟨o', h1, E', rfl, h2⟩ := hb p (s, p2) e2
      exact q_eq (by rw [x_sSeq, x_sIf, e, Option.bind_some]; dsimp only [x_bF]; rw [seq_nil] at h1; rw [h1]; rfl) (h s p2 E' h2)
/-! loops -/
/-- one turn -/
def trn (g : TM) (b : SM) (d : D) (E : Env) (p : Option Pl) : Option Out := bdE (g d E) fun E1 => b E1 p
theorem q_lpS {g : TM} {b : SM} {mk : σ → Env → Prop} {step : D → σ → Option Pl → Option (σ × Option Pl)} (hs : ∀ d s E p, mk s E → Rel (Gs mk) (trn g b d E p) (step d s p)) : ∀ (ds : List D) (s : σ) (E : Env) (p : Option Pl), mk s E → Rel (Gn mk) (forL g b ds E p) (lpS step ds s p)
  | [], s, E, p, h => fun x hx => by cases hx; exact ⟨_, rfl, E, rfl, h⟩
  | d :: ds, s, E, p, h => by
    refine q_bd fun s2 p2 e => ?_
    obtain ⟨o', h1, E2, h2, h3⟩ := hs d s E p h (s2, p2) e
    refine q_eq ?_ (q_lpS hs ds s2 E2 p2 h3)
    rw [x_forC]
    unfold trn bdE at h1
    cases hg : g d E with
    | none => rw [hg] at h1; cases h1
    | some E1 =>
      rw [hg] at h1; dsimp only at h1
      rw [Option.bind_some, h1]
      rcases h2 with rfl | rfl <;> rfl
theorem q_lpG {g : TM} {b : SM} {mk : σ → Env → Prop} {Gr : Out → ρ → Option Pl → Prop} (hr : ∀ o d p, Gr o d p → (∃ d E, o = .rt d E p) ∨ ∃ d E, o = .rtl d E p) {step : D → σ → Option Pl → Option (Lr σ ρ)} (hs : ∀ d s E p, mk s E → Rel (Gt mk Gr) (trn g b d E p) (step d s p)) : ∀ (ds : List D) (s : σ) (E : Env) (p : Option Pl), mk s E →
    ∀ x, lpG step ds s p = some x → ∃ o', forL g b ds E p = some o' ∧ match x with
      | .go s p => ∃ E, o' = .nx E p ∧ mk s E
      | .br s p => ∃ E, o' = .nx E p ∧ mk s E
      | .rt d p => Gr o' d p
  | [], s, E, p, h, x, hx => by cases hx; exact ⟨_, rfl, E, rfl, h⟩
  | d :: ds, s, E, p, h, x, hx => by
    unfold lpG at hx
    cases e : step d s p with
    | none => rw [e] at hx; cases hx
    | some y =>
      rw [e] at hx
      obtain ⟨o', h1, h2⟩ := hs d s E p h y e
      rw [x_forC]
      unfold trn bdE at h1
      cases hg : g d E with
      | none => rw [hg] at h1; cases h1
      | some E1 =>
        rw [hg] at h1; dsimp only at h1
        rw [Option.bind_some, h1]
        cases y with
        | go s2 p2 =>
          obtain ⟨E2, h3, h4⟩ := h2
          have ih := q_lpG hr hs ds s2 E2 p2 h4 x hx
          rcases h3 with rfl | rfl <;> exact ih
        | br s2 p2 =>
          obtain ⟨E2, rfl, h4⟩ := h2
          cases hx
          exact ⟨_, rfl, E2, rfl, h4⟩
        | rt d2 p2 =>
          cases hx
          have h2' : Gr o' d2 p2 := h2
          rcases hr o' d2 p2 h2' with ⟨d3, E3, rfl⟩ | ⟨d3, E3, rfl⟩ <;> exact ⟨_, rfl, h2'⟩
theorem q_for (mk : σ → Env → Prop) {F : List Nat} {g : TM} {m : AM} {X : XM (List D)} {step : D → σ → Option Pl → Option (σ × Option Pl)} {s0 : σ} {f : σ → Option Pl → Option α} (hx : m (vw F E) = X) (h0 : mk s0 (frz F E)) (hs : ∀ d s E p, mk s E → Rel (Gs mk) (trn g b d E p) (step d s p)) (h : ∀ s p E, mk s E → Rel G (c E p) (f s p)) :
    Rel G (sSeq (sFor F g m b) c E pl) (bd (X pl) fun ds p => bd (lpS step ds s0 p) f) := by
  subst hx
  refine q_bd fun ds p e => q_bd fun s p2 e2 => ?_
  obtain ⟨o', h1, E', rfl, h2⟩ := q_lpS hs ds s0 _ p h0 (s, p2) e2
  refine q_eq ?_ (h s p2 E' h2)
  rw [x_sSeq, x_sFor, e, Option.bind_some]; dsimp only; rw [h1]; rfl
theorem q_forS (mk : σ → Env → Prop) {g : TM} {m : AM} {X : XM (List D)} {step : D → σ → Option Pl → Option (σ × Option Pl)} {s0 : σ} {f : σ → Option Pl → Option α} (hx : m E = X) (h0 : mk s0 E) (hs : ∀ d s E p, mk s E → Rel (Gs mk) (trn g b d E p) (step d s p)) (h : ∀ s p E, mk s E → Rel G (c E p) (f s p)) :
    Rel G (sSeq (sForS g m b) c E pl) (bd (X pl) fun ds p => bd (lpS step ds s0 p) f) := by
  subst hx
  refine q_bd fun ds p e => q_bd fun s p2 e2 => ?_
  obtain ⟨o', h1, E', rfl, h2⟩ := q_lpS hs ds s0 _ p h0 (s, p2) e2
  refine q_eq ?_ (h s p2 E' h2)
  rw [x_sSeq]; unfold sForS; rw [e]; dsimp only; rw [h1]; rfl
theorem q_bo {x : Option (Lr σ ρ)} {o : Option Out} {f : σ → Option Pl → Option α} {k : ρ → Option Pl → Option α} (h : ∀ s p, x = some (.go s p) ∨ x = some (.br s p) → Rel G o (f s p)) (h' : ∀ d p, x = some (.rt d p) → Rel G o (k d p)) : Rel G o (bo x f k) := by
  cases x with
  | none => exact Rel.none _
  | some y => cases y with
    | go s p => exact h s p (.inl rfl)
    | br s p => exact h s p (.inr rfl)
    | rt d p => exact h' d p rfl
theorem grF_ret : ∀ (o : Out) (d : D) (p : Option Pl), GrF o d p → (∃ d E, o = .rt d E p) ∨ ∃ d E, o = .rtl d E p
  | o, d, p, .inl ⟨E, h⟩ => .inl ⟨d, E, h⟩
  | o, d, p, .inr ⟨xs, E, h, _⟩ => .inr ⟨xs, E, h⟩
theorem grL_ret : ∀ (o : Out) (d : List D) (p : Option Pl), GrL o d p → (∃ d E, o = .rt d E p) ∨ ∃ d E, o = .rtl d E p
  | o, d, p, ⟨E, h⟩ => .inr ⟨d, E, h⟩
theorem seq_ret {o : Out} {c : SM} {p : Option Pl} (h : (∃ d E, o = .rt d E p) ∨ ∃ d E, o = .rtl d E p) : nxt (some o) c = some o := by
  rcases h with ⟨d, E, rfl⟩ | ⟨d, E, rfl⟩ <;> rfl
theorem q_forG (mk : σ → Env → Prop) {Gr : Out → ρ → Option Pl → Prop} (hr : ∀ o d p, Gr o d p → (∃ d E, o = .rt d E p) ∨ ∃ d E, o = .rtl d E p) {F : List Nat} {g : TM} {m : AM} {X : XM (List D)} {step : D → σ → Option Pl → Option (Lr σ ρ)} {s0 : σ} {f : σ → Option Pl → Option α} {k : ρ → Option Pl → Option α} (hx : m (vw F E) = X) (h0 : mk s0 (frz F E)) (hs : ∀ d s E p, mk s E → Rel (Gt mk Gr) (trn g b d E p) (step d s p)) (hk : ∀ o d p x, Gr o d p → k d p = some x → G o x) (h : ∀ s p E, mk s E → Rel G (c E p) (f s p)) :
    Rel G (sSeq (sFor F g m b) c E pl) (bd (X pl) fun ds p => bo (lpG step ds s0 p) f k) := by
  subst hx
  refine q_bd fun ds p e => q_bo (fun s p2 e2 => ?_) (fun d p2 e2 => ?_)
  · have : ∃ E', forL g b ds (frz F E) p = some (.nx E' p2) ∧ mk s E' := by
      rcases e2 with e2 | e2 <;> (obtain ⟨o', h1, E', rfl, h2⟩ := q_lpG hr hs ds s0 _ p h0 _ e2; exact ⟨E', h1, h2⟩)
    obtain ⟨E', h1, h2⟩ := this
    refine q_eq ?_ (h s p2 E' h2)
    rw [x_sSeq, x_sFor, e, Option.bind_some]; dsimp only; rw [h1]; rfl
  · obtain ⟨o', h1, h2⟩ := q_lpG hr hs ds s0 _ p h0 _ e2
    intro x hx
    refine ⟨o', ?_, hk o' d p2 x h2 hx⟩
    rw [x_sSeq, x_sFor, e, Option.bind_some]; dsimp only; rw [h1]
    exact seq_ret (hr _ _ _ h2)
theorem q_forGS (mk : σ → Env → Prop) {Gr : Out → ρ → Option Pl → Prop} (hr : ∀ o d p, Gr o d p → (∃ d E, o = .rt d E p) ∨ ∃ d E, o = .rtl d E p) {g : TM} {m : AM} {X : XM (List D)} {step : D → σ → Option Pl → Option (Lr σ ρ)} {s0 : σ} {f : σ → Option Pl → Option α} {k : ρ → Option Pl → Option α} (hx : m E = X) (h0 : mk s0 E) (hs : ∀ d s E p, mk s E → Rel (Gt mk Gr) (trn g b d E p) (step d s p)) (hk : ∀ o d p x, Gr o d p → k d p = some x → G o x) (h : ∀ s p E, mk s E → Rel G (c E p) (f s p)) :
    Rel G (sSeq (sForS g m b) c E pl) (bd (X pl) fun ds p => bo (lpG step ds s0 p) f k) := by
  subst hx
  refine q_bd fun ds p e => q_bo (fun s p2 e2 => ?_) (fun d p2 e2 => ?_)
  · have : ∃ E', forL g b ds E p = some (.nx E' p2) ∧ mk s E' := by
      rcases e2 with e2 | e2 <;> (obtain ⟨o', h1, E', rfl, h2⟩ := q_lpG hr hs ds s0 _ p h0 _ e2; exact ⟨E', h1, h2⟩)
    obtain ⟨E', h1, h2⟩ := this
    refine q_eq ?_ (h s p2 E' h2)
    rw [x_sSeq]; unfold sForS; rw [e]; dsimp only; rw [h1]; rfl
  · obtain ⟨o', h1, h2⟩ := q_lpG hr hs ds s0 _ p h0 _ e2
    intro x hx
    refine ⟨o', ?_, hk o' d p2 x h2 hx⟩
    rw [x_sSeq]; unfold sForS; rw [e]; dsimp only; rw [h1]
    exact seq_ret (hr _ _ _ h2)
theorem q_whL {c : BM} {b : SM} {mk : σ → Env → Prop} {C : σ → XM Bool} {step : σ → Option Pl → Option (σ × Option Pl)} (hc : ∀ s E, mk s E → c E = C s) (hs : ∀ s E p, mk s E → Rel (Gs mk) (b E p) (step s p)) : ∀ (n : Nat) (s : σ) (E : Env) (p : Option Pl), mk s E → Rel (Gn mk) (whL c b n E p) (whS C step n s p)
  | 0, s, E, p, h => Rel.none _
  | n + 1, s, E, p, h => by
    have hx := hc s E h
    unfold whS
    rw [← hx, x_whS]
    cases e : c E p with
    | none => exact Rel.none _
    | some q =>
      obtain ⟨t, p1⟩ := q
      rw [Option.bind_some]
      cases t with
      | false => intro x hx; cases hx; exact ⟨_, rfl, E, rfl, h⟩
      | true =>
        refine q_bd (x := step s p1) fun s2 p2 e2 => ?_
        obtain ⟨o', h1, E2, h2, h3⟩ := hs s E p1 h (s2, p2) e2
        refine q_eq ?_ (q_whL hc hs n s2 E2 p2 h3)
        dsimp only [x_bT]; rw [h1]
        rcases h2 with rfl | rfl <;> rfl
theorem q_while (mk : σ → Env → Prop) {k : BM} {n : Nat} {C : σ → XM Bool} {step : σ → Option Pl → Option (σ × Option Pl)} {s0 : σ} {f : σ → Option Pl → Option α} (h0 : mk s0 E) (hc : ∀ s E, mk s E → k E = C s) (hs : ∀ s E p, mk s E → Rel (Gs mk) (b E p) (step s p)) (h : ∀ s p E, mk s E → Rel G (c E p) (f s p)) :
    Rel G (sSeq (whL k b n) c E pl) (bd (whS C step n s0 pl) f) := by
  refine q_bd fun s p2 e2 => ?_
  obtain ⟨o', h1, E', rfl, h2⟩ := q_whL hc hs n s0 _ pl h0 (s, p2) e2
  refine q_eq ?_ (h s p2 E' h2)
  rw [x_sSeq, h1]; rfl
theorem q_whLG {c : BM} {b : SM} {mk : σ → Env → Prop} {Gr : Out → ρ → Option Pl → Prop} (hr : ∀ o d p, Gr o d p → (∃ d E, o = .rt d E p) ∨ ∃ d E, o = .rtl d E p) {C : σ → XM Bool} {step : σ → Option Pl → Option (Lr σ ρ)} (hc : ∀ s E, mk s E → c E = C s) (hs : ∀ s E p, mk s E → Rel (Gt mk Gr) (b E p) (step s p)) : ∀ (n : Nat) (s : σ) (E : Env) (p : Option Pl), mk s E →
    ∀ x, whG C step n s p = some x → ∃ o', whL c b n E p = some o' ∧ match x with
      | .go s p => ∃ E, o' = .nx E p ∧ mk s E
      | .br s p => ∃ E, o' = .nx E p ∧ mk s E
      | .rt d p => Gr o' d p
  | 0, s, E, p, h, x, hx => by cases hx
  | n + 1, s, E, p, h, x, hx => by
    unfold whG at hx
    rw [← hc s E h] at hx
    rw [x_whS]
    cases e : c E p with
    | none => rw [e] at hx; cases hx
    | some q =>
      obtain ⟨t, p1⟩ := q
      rw [e] at hx
      rw [Option.bind_some]
      cases t with
      | false => cases hx; exact ⟨_, rfl, E, rfl, h⟩
      | true =>
        dsimp only [ifX] at hx
        dsimp only [x_bT]
        cases e2 : step s p1 with
        | none => rw [e2] at hx; cases hx
        | some y =>
          rw [e2] at hx
          obtain ⟨o', h1, h2⟩ := hs s E p1 h y e2
          rw [h1]
          cases y with
          | go s2 p2 =>
            obtain ⟨E2, h3, h4⟩ := h2
            have ih := q_whLG hr hc hs n s2 E2 p2 h4 x hx
            rcases h3 with rfl | rfl <;> exact ih
          | br s2 p2 =>
            obtain ⟨E2, rfl, h4⟩ := h2
            cases hx
            exact ⟨_, rfl, E2, rfl, h4⟩
          | rt d2 p2 =>
            cases hx
            have h2' : Gr o' d2 p2 := h2
            rcases hr o' d2 p2 h2' with ⟨d3, E3, rfl⟩ | ⟨d3, E3, rfl⟩ <;> exact ⟨_, rfl, h2'⟩
theorem q_whileG (mk : σ → Env → Prop) {Gr : Out → ρ → Option Pl → Prop} (hr : ∀ o d p, Gr o d p → (∃ d E, o = .rt d E p) ∨ ∃ d E, o = .rtl d E p) {kc : BM} {n : Nat} {C : σ → XM Bool} {step : σ → Option Pl → Option (Lr σ ρ)} {s0 : σ} {f : σ → Option Pl → Option α} {k : ρ → Option Pl → Option α} (h0 : mk s0 E) (hc : ∀ s E, mk s E → kc E = C s) (hs : ∀ s E p, mk s E → Rel (Gt mk Gr) (b E p) (step s p)) (hk : ∀ o d p x, Gr o d p → k d p = some x → G o x) (h : ∀ s p E, mk s E → Rel G (c E p) (f s p)) :
    Rel G (sSeq (whL kc b n) c E pl) (bo (whG C step n s0 pl) f k) := by
  refine q_bo (fun s p2 e2 => ?_) (fun d p2 e2 => ?_)
  · have : ∃ E', whL kc b n E pl = some (.nx E' p2) ∧ mk s E' := by
      rcases e2 with e2 | e2 <;> (obtain ⟨o', h1, E', rfl, h2⟩ := q_whLG hr hc hs n s0 _ pl h0 _ e2; exact ⟨E', h1, h2⟩)
    obtain ⟨E', h1, h2⟩ := this
    refine q_eq ?_ (h s p2 E' h2)
    rw [x_sSeq, h1]; rfl
  · obtain ⟨o', h1, h2⟩ := q_whLG hr hc hs n s0 _ pl h0 _ e2
    intro x hx
    refine ⟨o', ?_, hk o' d p2 x h2 hx⟩
    rw [x_sSeq, h1]
    exact seq_ret (hr _ _ _ h2)
/-! targets -/
theorem q_bN {i : Nat} {d : D} {E' : Env} {k : Env → Option Out} (he : E.set i (.val d) = E') (h : Rel G (k E') r) : Rel G (bdE (gN i d E) k) r := by subst he; exact h
theorem bdE_bind (o : Option Env) (f : Env → Option Env) (k : Env → Option β) : bdE (o.bind f) k = bdE o fun E => bdE (f E) k := by cases o <;> rfl
theorem bdE_1 (g1 : TM) (d : D) (E : Env) (k : Env → Option β) : bdE (gTL 1 (gsC g1 gsN) d E) k = un1 d fun x => bdE (g1 x E) k := by
  have key : ∀ ds : List D, bdE (bM (ds.length == 1) (gsC g1 gsN ds E) none) k = match ds with | [x] => bdE (g1 x E) k | _ => none := by
    intro ds
    match ds with
    | [] => rfl
    | [x] => show bdE ((g1 x E).bind (gsN [])) k = _; rw [bdE_bind]; rfl
    | _ :: _ :: t => rw [show ((_ :: _ :: t : List D).length == 1) = false by simp]; rfl
  cases d <;> first | rfl | (rename_i ds; show bdE (bM _ _ _) k = _; rw [key]; match ds with | [] => rfl | [x] => rfl | _ :: _ :: _ => rfl)
theorem bdE_2 (g1 g2 : TM) (d : D) (E : Env) (k : Env → Option β) : bdE (gTL 2 (gsC g1 (gsC g2 gsN)) d E) k = un2 d fun x y => bdE (g1 x E) fun E1 => bdE (g2 y E1) k := by
  have key : ∀ ds : List D, bdE (bM (ds.length == 2) (gsC g1 (gsC g2 gsN) ds E) none) k = match ds with | [x, y] => bdE (g1 x E) fun E1 => bdE (g2 y E1) k | _ => none := by
    intro ds
    match ds with
    | [] => rfl
    | [_] => rfl
    | [x, y] =>
      show bdE ((g1 x E).bind fun E1 => (g2 y E1).bind (gsN [])) k = _
      rw [bdE_bind]
      congr 1; funext E1
      rw [bdE_bind]; rfl
    | _ :: _ :: _ :: t => rw [show ((_ :: _ :: _ :: t : List D).length == 2) = false by simp]; rfl
  cases d <;> first | rfl | (rename_i ds; show bdE (bM _ _ _) k = _; rw [key]; match ds with | [] => rfl | [x] => rfl | [_, _] => rfl | _ :: _ :: _ :: _ => rfl)
theorem bdE_3 (g1 g2 g3 : TM) (d : D) (E : Env) (k : Env → Option β) : bdE (gTL 3 (gsC g1 (gsC g2 (gsC g3 gsN))) d E) k = un3 d fun x y z => bdE (g1 x E) fun E1 => bdE (g2 y E1) fun E2 => bdE (g3 z E2) k := by
  have key : ∀ ds : List D, bdE (bM (ds.length == 3) (gsC g1 (gsC g2 (gsC g3 gsN)) ds E) none) k = match ds with | [x, y, z] => bdE (g1 x E) fun E1 => bdE (g2 y E1) fun E2 => bdE (g3 z E2) k | _ => none := by
    intro ds
    match ds with
    | [] => rfl
    | [_] => rfl
    | [_, _] => rfl
    | [x, y, z] =>
      show bdE ((g1 x E).bind fun E1 => (g2 y E1).bind fun E2 => (g3 z E2).bind (gsN [])) k = _
      rw [bdE_bind]
      congr 1; funext E1
      rw [bdE_bind]
      congr 1; funext E2
      rw [bdE_bind]; rfl
    | _ :: _ :: _ :: _ :: t => rw [show ((_ :: _ :: _ :: _ :: t : List D).length == 3) = false by simp]; rfl
  cases d <;> first | rfl | (rename_i ds; show bdE (bM _ _ _) k = _; rw [key]; match ds with | [] => rfl | [x] => rfl | [_, _] => rfl | [_, _, _] => rfl | _ :: _ :: _ :: _ :: _ => rfl)
theorem bdE_4 (g1 g2 g3 g4 : TM) (d : D) (E : Env) (k : Env → Option β) : bdE (gTL 4 (gsC g1 (gsC g2 (gsC g3 (gsC g4 gsN)))) d E) k = un4 d fun x y z w => bdE (g1 x E) fun E1 => bdE (g2 y E1) fun E2 => bdE (g3 z E2) fun E3 => bdE (g4 w E3) k := by
  have key : ∀ ds : List D, bdE (bM (ds.length == 4) (gsC g1 (gsC g2 (gsC g3 (gsC g4 gsN))) ds E) none) k = match ds with | [x, y, z, w] => bdE (g1 x E) fun E1 => bdE (g2 y E1) fun E2 => bdE (g3 z E2) fun E3 => bdE (g4 w E3) k | _ => none := by
    intro ds
    match ds with
    | [] => rfl
    | [_] => rfl
    | [_, _] => rfl
    | [_, _, _] => rfl
    | [x, y, z, w] =>
      show bdE ((g1 x E).bind fun E1 => (g2 y E1).bind fun E2 => (g3 z E2).bind fun E3 => (g4 w E3).bind (gsN [])) k = _
      rw [bdE_bind]
      congr 1; funext E1
      rw [bdE_bind]
      congr 1; funext E2
      rw [bdE_bind]
      congr 1; funext E3
      rw [bdE_bind]; rfl
    | _ :: _ :: _ :: _ :: _ :: t => rw [show ((_ :: _ :: _ :: _ :: _ :: t : List D).length == 4) = false by simp]; rfl
  cases d <;> first | rfl | (rename_i ds; show bdE (bM _ _ _) k = _; rw [key]; match ds with | [] => rfl | [x] => rfl | [_, _] => rfl | [_, _, _] => rfl | [_, _, _, _] => rfl | _ :: _ :: _ :: _ :: _ :: _ => rfl)
theorem q_b1 {g1 : TM} {d : D} {k : Env → Option Out} {f : D → Option α} (h : ∀ x, Rel G (bdE (g1 x E) k) (f x)) : Rel G (bdE (gTL 1 (gsC g1 gsN) d E) k) (un1 d f) := by
  rw [bdE_1]
  unfold un1
  split <;> first | exact h _ | exact Rel.none _
theorem q_b2 {g1 g2 : TM} {d : D} {k : Env → Option Out} {f : D → D → Option α} (h : ∀ x y, Rel G (bdE (g1 x E) fun E1 => bdE (g2 y E1) k) (f x y)) : Rel G (bdE (gTL 2 (gsC g1 (gsC g2 gsN)) d E) k) (un2 d f) := by
  rw [bdE_2]
  unfold un2
  split <;> first | exact h _ _ | exact Rel.none _
theorem q_b3 {g1 g2 g3 : TM} {d : D} {k : Env → Option Out} {f : D → D → D → Option α} (h : ∀ x y z, Rel G (bdE (g1 x E) fun E1 => bdE (g2 y E1) fun E2 => bdE (g3 z E2) k) (f x y z)) : Rel G (bdE (gTL 3 (gsC g1 (gsC g2 (gsC g3 gsN))) d E) k) (un3 d f) := by
  rw [bdE_3]
  unfold un3
  split <;> first | exact h _ _ _ | exact Rel.none _
theorem q_b4 {g1 g2 g3 g4 : TM} {d : D} {k : Env → Option Out} {f : D → D → D → D → Option α} (h : ∀ x y z w, Rel G (bdE (g1 x E) fun E1 => bdE (g2 y E1) fun E2 => bdE (g3 z E2) fun E3 => bdE (g4 w E3) k) (f x y z w)) : Rel G (bdE (gTL 4 (gsC g1 (gsC g2 (gsC g3 (gsC g4 gsN)))) d E) k) (un4 d f) := by
  rw [bdE_4]
  unfold un4
  split <;> first | exact h _ _ _ _ | exact Rel.none _
theorem q_g2M {f1 f2 : TM} {d : D} {k : Env → Option Out} (h : Rel G (bdE (f1 d E) fun E1 => bdE (f2 d E1) k) r) : Rel G (bdE (g2M f1 f2 d E) k) r := q_eq (bdE_bind _ _ _) h
theorem q_pnew {i : Nat} {m : AM} {X : XM (List D)} {E' : Env} {f : Option Pl → Option α} (hx : m (vw [] E) = X) (he : (frz [] E).set i .pool = E') (h : ∀ p, Rel G (b E' p) (f p)) : Rel G (sSeq (sPnew i m) b E pl) (pnX (X pl) f) := by
  subst hx
  unfold pnX
  split
  case h_1 ns a b' c e =>
    refine q_eq ?_ (h _)
    rw [x_sSeq]; unfold sPnew; rw [e]; dsimp only; rw [he]; rfl
  case h_2 => exact Rel.none _
theorem q_pset {i : Nat} {j : Int} {m : EM} {X : XM D} {f : Option Pl → Option α} (hx : m E = X) (ho : E[i]? = some .pool) (h : ∀ p, Rel G (b E p) (f p)) : Rel G (sSeq (sPset i j m) b E pl) (psX j (X pl) f) := by
  subst hx
  unfold psX
  split
  case h_1 z P e =>
    split
    case h_1 P' e' =>
      refine q_eq ?_ (h _)
      rw [x_sSeq]; unfold sPset; rw [e]; dsimp only; rw [ho]; dsimp only; rw [e']; rfl
    case h_2 => exact Rel.none _
  case h_2 => exact Rel.none _
/-! comprehensions -/
theorem mLc_eq (vs : List Nat) (src : AM) (f : TM) (mt : BM) (me : EM) (E : Env) : mLc vs src f mt me E = lcB (src E) fun d pl => bdE (f d (wipeE E vs)) fun E1 => telX (mt E1) (me E1) pl := by
  funext pl
  unfold mLc lcB
  cases src E pl with
  | none => rfl
  | some q =>
    obtain ⟨ds, p⟩ := q
    dsimp only
    congr 1
    generalize wipeE E vs = Ew
    clear pl
    induction ds generalizing p with
    | nil => rfl
    | cons d ds ih =>
      unfold lcL lcR
      cases f d Ew with
      | none => rfl
      | some E1 =>
        dsimp only [bdE, telX]
        cases mt E1 p with
        | none => rfl
        | some t =>
          obtain ⟨t, p1⟩ := t
          cases t with
          | false => exact ih p1
          | true =>
            dsimp only
            cases me E1 p1 with
            | none => rfl
            | some y => dsimp only; rw [ih]; try rfl

theorem bdE_N (i : Nat) (d : D) (E : Env) (k : Env → Option β) : bdE (gN i d E) k = k (E.set i (.val d)) := rfl

theorem y_mC (d : D) (E : Env) : mC d E = kx d := rfl
theorem y_mOp (g : D → D → Option D) (a b : EM) (E : Env) : mOp g a b E = op2 g (a E) (b E) := rfl
theorem y_mOpL (g : D → D → Option (List D)) (a b : EM) (E : Env) : mOpL g a b E = op2 g (a E) (b E) := rfl
theorem y_mUn (g : D → Option D) (a : EM) (E : Env) : mUn g a E = op1 g (a E) := rfl
theorem y_aNil (E : Env) : aNil E = an := rfl
theorem y_aCons (a : EM) (r : AM) (E : Env) : aCons a r E = ac (a E) (r E) := rfl
theorem y_mCall (g : List D → Option D) (m : AM) (E : Env) : mCall g m E = cal g (m E) := rfl
theorem y_mCallL (g : List D → Option (List D)) (m : AM) (E : Env) : mCallL g m E = cal g (m E) := rfl
theorem y_mTru (m : EM) (E : Env) : mTru m E = op1 tru (m E) := rfl
theorem y_mTst (m : EM) (E : Env) : mTst m E = op1 blD (m E) := rfl
theorem y_mNot (m : BM) (E : Env) : mNot m E = notX (m E) := rfl
theorem bM_ap {α' β' : Type} (t : Bool) (a b : α' → β') (E : α') : bM t a b E = bM t (a E) (b E) := by cases t <;> rfl
theorem y_mAnd (m n : BM) (E : Env) : mAnd m n E = andX (m E) (n E) := by
  funext pl; unfold mAnd andX seqM sqX
  cases m E pl with
  | none => rfl
  | some q => obtain ⟨t, p⟩ := q; cases t <;> rfl
theorem y_mOr (m n : BM) (E : Env) : mOr m n E = orX (m E) (n E) := by
  funext pl; unfold mOr orX seqM sqX
  cases m E pl with
  | none => rfl
  | some q => obtain ⟨t, p⟩ := q; cases t <;> rfl
theorem y_mIte (c : BM) (a b : EM) (E : Env) : mIte c a b E = iteX (c E) (a E) (b E) := by
  funext pl; unfold mIte iteX seqM sqX
  cases c E pl with
  | none => rfl
  | some q => obtain ⟨t, p⟩ := q; cases t <;> rfl
theorem y_mAndV (a b : EM) (E : Env) : mAndV a b E = andV (a E) (b E) := by
  funext pl; unfold mAndV andV seqM sqX
  cases a E pl with
  | none => rfl
  | some q =>
    obtain ⟨t, p⟩ := q
    dsimp only [lftM, lfX]
    cases tru t with
    | none => rfl
    | some t => cases t <;> rfl
theorem y_mOrV (a b : EM) (E : Env) : mOrV a b E = orV (a E) (b E) := by
  funext pl; unfold mOrV orV seqM sqX
  cases a E pl with
  | none => rfl
  | some q =>
    obtain ⟨t, p⟩ := q
    dsimp only [lftM, lfX]
    cases tru t with
    | none => rfl
    | some t => cases t <;> rfl
theorem y_mNotV (a : EM) (E : Env) : mNotV a E = notV (a E) := rfl
theorem y_mChain (g g' : D → D → Option D) (a b c : EM) (E : Env) : mChain g g' a b c E = chn g g' (a E) (b E) (c E) := by
  funext pl; unfold mChain chn seqM sqX
  cases a E pl with
  | none => rfl
  | some q =>
    dsimp only
    cases b E q.2 with
    | none => rfl
    | some q2 =>
      dsimp only [lftM, lfX]
      cases (g q.1 q2.1).bind blD with
      | none => rfl
      | some t => cases t <;> rfl
theorem y_mTup (m : AM) (E : Env) : mTup m E = tupX (m E) := by
  funext pl; unfold mTup tupX seqM sqX
  cases m E pl with
  | none => rfl
  | some q => dsimp only; cases sized q.1.length <;> rfl
theorem y_mLstL (m : AM) (E : Env) : mLstL m E = lstX (m E) := by
  funext pl; unfold mLstL lstX seqM sqX
  cases m E pl with
  | none => rfl
  | some q => dsimp only; cases sized q.1.length <;> rfl
theorem y_mFrz (m : AM) (E : Env) : mFrz m E = frzX (m E) := rfl
theorem y_mIsi (T : String) (m : EM) (E : Env) : mIsi T m E = isiX T (m E) := rfl
theorem y_oNo (E : Env) : oNo E = kx none := rfl
theorem y_oSome (m : EM) (E : Env) : oSome m E = osX (m E) := rfl
theorem y_mSl (m : EM) (lo hi : OM) (E : Env) : mSl m lo hi E = slX dSl (m E) (lo E) (hi E) := rfl
theorem y_mSlL (m : EM) (lo hi : OM) (E : Env) : mSlL m lo hi E = slX dSlL (m E) (lo E) (hi E) := rfl
theorem y_mIt (f : D → Option (List D)) (m : EM) (E : Env) : mIt f m E = op1 f (m E) := rfl
theorem y_mRng (f : List D → Option (List D)) (m : AM) (E : Env) : mRng f m E = cal f (m E) := rfl
theorem y_mRevL (m : EM) (E : Env) : mRevL m E = op1 lrev (m E) := rfl
theorem y_mRgL (m : AM) (E : Env) : mRgL m E = cal lrg (m E) := rfl
theorem y_mCallP (i : Nat) (g : Pl → List D → Option (D × Pl)) (m : AM) (E : Env) (h : E[i]? = some .pool) : mCallP i g m E = calP g (m E) := by
  funext pl; unfold mCallP calP; rw [h]; try rfl
theorem y_mCallPL (i : Nat) (g : Pl → List D → Option (List D × Pl)) (m : AM) (E : Env) (h : E[i]? = some .pool) : mCallPL i g m E = calP g (m E) := by
  funext pl; unfold mCallPL calP; rw [h]; try rfl
theorem y_mPix (i : Nat) (j : Int) (E : Env) (h : E[i]? = some .pool) : mPix i j E = pixX j := by
  funext pl; unfold mPix pixX; rw [h]; try rfl
def rdO : Option Sl → XM D := fun o pl => match o with
  | some (.val d) => some (d, pl)
  | some (.own xs) => some (.lst xs, pl)
  | some (.owd ks vs) => some (.dct ks vs, pl)
  | _ => none
theorem y_mV (i : Nat) (E : Env) : mV i E = rdO E[i]? := by
  funext pl; unfold mV rdO
  cases E[i]? with
  | none => rfl
  | some sl => cases sl <;> rfl
theorem r_val (d : D) : rdO (some (.val d)) = kx d := rfl
theorem r_own (xs : List D) : rdO (some (.own xs)) = kx (.lst xs) := rfl
theorem r_owd (ks vs : List D) : rdO (some (.owd ks vs)) = kx (.dct ks vs) := rfl
theorem r_raw (sl : Sl) : rdO (some sl) = rdX sl := by
  funext pl; unfold rdO rdX
  cases sl <;> rfl
/-! ### for those who read: equations -/
section
variable {pl p : Option Pl} {δ : Type}
@[simp] theorem n_kx (a : α) : kx a pl = some (a, pl) := rfl
@[simp] theorem n_lfX (o : Option α) : lfX o pl = o.map fun d => (d, pl) := rfl
@[simp] theorem n_op2 (g : α → β → Option γ) (a : XM α) (b : XM β) : op2 g a b pl = (a pl).bind fun x => (b x.2).bind fun y => (g x.1 y.1).map fun d => (d, y.2) := by
  unfold op2 sqX
  cases a pl with
  | none => rfl
  | some q => dsimp only [Option.bind_some]; cases b q.2 <;> rfl
@[simp] theorem n_op1 (g : α → Option γ) (a : XM α) : op1 g a pl = (a pl).bind fun x => (g x.1).map fun d => (d, x.2) := by
  unfold op1 sqX; cases a pl <;> rfl
@[simp] theorem n_an : (an : XM (List α)) pl = some ([], pl) := rfl
@[simp] theorem n_ac (a : XM α) (r : XM (List α)) : ac a r pl = (a pl).bind fun x => (r x.2).bind fun xs => some (x.1 :: xs.1, xs.2) := by
  unfold ac sqX
  cases a pl with
  | none => rfl
  | some q => dsimp only [Option.bind_some]; cases r q.2 <;> rfl
@[simp] theorem n_cal (g : List D → Option γ) (m : XM (List D)) : cal g m pl = (m pl).bind fun x => (g x.1).map fun d => (d, x.2) := by
  unfold cal sqX; cases m pl <;> rfl
@[simp] theorem n_notX (m : XM Bool) : notX m pl = (m pl).bind fun a => some (!a.1, a.2) := by unfold notX sqX; cases m pl <;> rfl
@[simp] theorem n_andX (m n : XM Bool) : andX m n pl = (m pl).bind fun a => bM a.1 (n a.2) (some (false, a.2)) := by
  unfold andX sqX
  cases m pl with
  | none => rfl
  | some q => obtain ⟨t, p⟩ := q; cases t <;> rfl
@[simp] theorem n_orX (m n : XM Bool) : orX m n pl = (m pl).bind fun a => bM a.1 (some (true, a.2)) (n a.2) := by
  unfold orX sqX
  cases m pl with
  | none => rfl
  | some q => obtain ⟨t, p⟩ := q; cases t <;> rfl
@[simp] theorem n_iteX (c : XM Bool) (a b : XM D) : iteX c a b pl = (c pl).bind fun t => bM t.1 (a t.2) (b t.2) := by
  unfold iteX sqX
  cases c pl with
  | none => rfl
  | some q => obtain ⟨t, p⟩ := q; cases t <;> rfl
@[simp] theorem n_andV (a b : XM D) : andV a b pl = (a pl).bind fun x => (tru x.1).bind fun t => bM t (b x.2) (some (x.1, x.2)) := by
  unfold andV sqX
  cases a pl with
  | none => rfl
  | some q =>
    obtain ⟨d, p⟩ := q
    dsimp only [Option.bind_some, lfX]
    cases tru d with
    | none => rfl
    | some t => cases t <;> rfl
@[simp] theorem n_orV (a b : XM D) : orV a b pl = (a pl).bind fun x => (tru x.1).bind fun t => bM t (some (x.1, x.2)) (b x.2) := by
  unfold orV sqX
  cases a pl with
  | none => rfl
  | some q =>
    obtain ⟨d, p⟩ := q
    dsimp only [Option.bind_some, lfX]
    cases tru d with
    | none => rfl
    | some t => cases t <;> rfl
@[simp] theorem n_notV (a : XM D) : notV a pl = (a pl).bind fun x => (tru x.1).map fun t => (.bl (!t), x.2) := by
  unfold notV sqX
  cases a pl with
  | none => rfl
  | some q => dsimp only [Option.bind_some, lfX]; cases tru q.1 <;> rfl
@[simp] theorem n_chn (g g' : D → D → Option D) (a b c : XM D) : chn g g' a b c pl = (a pl).bind fun x => (b x.2).bind fun y => ((g x.1 y.1).bind blD).bind fun t => bM t ((c y.2).bind fun z => (g' y.1 z.1).map fun d => (d, z.2)) (some (.bl false, y.2)) := by
  unfold chn sqX
  cases a pl with
  | none => rfl
  | some q =>
    dsimp only [Option.bind_some]
    cases b q.2 with
    | none => rfl
    | some q2 =>
      dsimp only [Option.bind_some, lfX]
      cases (g q.1 q2.1).bind blD with
      | none => rfl
      | some t =>
        cases t with
        | false => rfl
        | true => dsimp only [Option.bind_some, Option.map_some, bM]; cases c q2.2 <;> rfl
@[simp] theorem n_tupX (m : XM (List D)) : tupX m pl = (m pl).bind fun a => bM (sized a.1.length) (some (.tup a.1, a.2)) none := by
  unfold tupX sqX
  cases m pl with
  | none => rfl
  | some q => dsimp only [Option.bind_some]; cases sized q.1.length <;> rfl
@[simp] theorem n_lstX (m : XM (List D)) : lstX m pl = (m pl).bind fun a => bM (sized a.1.length) (some (a.1, a.2)) none := by
  unfold lstX sqX
  cases m pl with
  | none => rfl
  | some q => dsimp only [Option.bind_some]; cases sized q.1.length <;> rfl
@[simp] theorem n_frzX (m : XM (List D)) : frzX m pl = (m pl).bind fun a => some (.lst a.1, a.2) := by unfold frzX sqX; cases m pl <;> rfl
@[simp] theorem n_isiX (T : String) (m : XM D) : isiX T m pl = (m pl).bind fun a => some (.bl (isTy T a.1), a.2) := by unfold isiX sqX; cases m pl <;> rfl
@[simp] theorem n_osX (m : XM D) : osX m pl = (m pl).bind fun a => (intD a.1).map fun i => (some i, a.2) := by
  unfold osX sqX
  cases m pl with
  | none => rfl
  | some q => dsimp only [Option.bind_some, lfX]; cases intD q.1 <;> rfl
@[simp] theorem n_slX (g : D → Option Int → Option Int → Option γ) (m : XM D) (lo hi : XM (Option Int)) : slX g m lo hi pl = (m pl).bind fun a => (lo a.2).bind fun l => (hi l.2).bind fun h => (g a.1 l.1 h.1).map fun d => (d, h.2) := by
  unfold slX sqX
  cases m pl with
  | none => rfl
  | some q =>
    dsimp only [Option.bind_some]
    cases lo q.2 with
    | none => rfl
    | some q2 => dsimp only [Option.bind_some]; cases hi q2.2 <;> rfl
@[simp] theorem n_rdV (d : D) : rdX (.val d) pl = some (d, pl) := rfl
@[simp] theorem n_rdO (xs : List D) : rdX (.own xs) pl = some (.lst xs, pl) := rfl
@[simp] theorem n_pixX (j : Int) (P : Pl) : pixX j (some P) = (plIx P j).map fun d => (d, some P) := rfl
/-- a call that draws -/
def calS (g : Pl → List D → Option (γ × Pl)) : Option (List D × Option Pl) → Option (γ × Option Pl)
  | some (xs, some P) => (g P xs).map fun r => (r.1, some r.2)
  | _ => none
@[simp] theorem n_calS (g : Pl → List D → Option (γ × Pl)) (xs : List D) (P : Pl) : calS g (some (xs, some P)) = (g P xs).map fun r => (r.1, some r.2) := rfl
@[simp] theorem n_calP (g : Pl → List D → Option (γ × Pl)) (m : XM (List D)) : calP g m pl = calS g (m pl) := by
  unfold calP calS
  cases m pl with
  | none => rfl
  | some q => obtain ⟨xs, p⟩ := q; cases p <;> rfl
@[simp] theorem n_un1t (x : D) (f : D → Option β) : un1 (.tup [x]) f = f x := rfl
@[simp] theorem n_un2t (x y : D) (f : D → D → Option β) : un2 (.tup [x, y]) f = f x y := rfl
@[simp] theorem n_un2l (x y : D) (f : D → D → Option β) : un2 (.lst [x, y]) f = f x y := rfl
@[simp] theorem n_un3t (x y z : D) (f : D → D → D → Option β) : un3 (.tup [x, y, z]) f = f x y z := rfl
@[simp] theorem n_un3l (x y z : D) (f : D → D → D → Option β) : un3 (.lst [x, y, z]) f = f x y z := rfl
@[simp] theorem n_un4t (x y z w : D) (f : D → D → D → D → Option β) : un4 (.tup [x, y, z, w]) f = f x y z w := rfl
@[simp] theorem n_elX (e : XM D) : elX e pl = (e pl).bind fun y => some (some y.1, y.2) := by unfold elX; cases e pl <;> rfl
@[simp] theorem n_telX (t : XM Bool) (e : XM D) : telX t e pl = (t pl).bind fun b => bM b.1 ((e b.2).bind fun y => some (some y.1, y.2)) (some (none, b.2)) := by
  unfold telX
  cases t pl with
  | none => rfl
  | some q =>
    obtain ⟨b, p⟩ := q
    cases b with
    | false => rfl
    | true => dsimp only [Option.bind_some, bM]; cases e p <;> rfl
@[simp] theorem n_lcB (src : XM (List D)) (one : D → XM (Option D)) : lcB src one pl = (src pl).bind fun r => bM (sized r.1.length) (lcR one r.1 r.2) none := by
  unfold lcB
  cases src pl with
  | none => rfl
  | some q => rfl
@[simp] theorem n_bd (a : α) (f : α → Option Pl → Option β) : bd (some (a, p)) f = f a p := rfl
@[simp] theorem n_bd0 (f : α → Option Pl → Option β) : bd none f = none := rfl
theorem bd_eq (x : Option (α × Option Pl)) (f : α → Option Pl → Option β) : bd x f = x.bind fun r => f r.1 r.2 := by cases x <;> rfl
@[simp] theorem n_wth (a : γ) (f : γ → Option Pl → Option β) : wth a p f = f a p := rfl
@[simp] theorem n_gd (o : Option β) : gd true o = o := rfl
@[simp] theorem n_if (t : Bool) (a b : Option Pl → Option β) : ifX (some (t, p)) a b = if t = true then a p else b p := by cases t <;> rfl
@[simp] theorem n_lstU (xs : List D) (f : List D → Option β) : lstU (.lst xs) f = f xs := rfl
@[simp] theorem n_intU (i : Int) (f : Int → Option β) : intU (.int i) f = f i := rfl
@[simp] theorem n_atU (j : γ) (f : γ → Option β) : atU (some j) f = f j := rfl
@[simp] theorem n_pnX (ns : List Int) (a b c : Int) (f : Option Pl → Option β) : pnX (some ([.scr ns, .int a, .int b, .int c], none)) f = f (some ⟨ns, a, b, c⟩) := rfl
@[simp] theorem n_boG (s : σ) (f : σ → Option Pl → Option β) (h : ρ → Option Pl → Option β) : bo (some (.go s p)) f h = f s p := rfl
@[simp] theorem n_boB (s : σ) (f : σ → Option Pl → Option β) (h : ρ → Option Pl → Option β) : bo (some (.br s p)) f h = f s p := rfl
@[simp] theorem n_boR (d : ρ) (f : σ → Option Pl → Option β) (h : ρ → Option Pl → Option β) : bo (some (.rt d p)) f h = h d p := rfl
@[simp] theorem n_lpS0 (step : D → σ → Option Pl → Option (σ × Option Pl)) (s : σ) : lpS step [] s p = some (s, p) := rfl
theorem n_lpSc (step : D → σ → Option Pl → Option (σ × Option Pl)) (d : D) (ds : List D) (s : σ) : lpS step (d :: ds) s p = bd (step d s p) (lpS step ds) := rfl
/-- a loop, by what holds after each turn -/
theorem lpS_inv {step : D → σ → Option Pl → Option (σ × Option Pl)} (f : α → D) (Pv : Nat → σ → Option Pl → Prop) : ∀ (xs : List α) (i : Nat) (s : σ) (p : Option Pl), Pv i s p →
    (∀ (j : Nat) (x : α) (s : σ) (p : Option Pl), xs[j]? = some x → Pv (i + j) s p → ∃ s' p', step (f x) s p = some (s', p') ∧ Pv (i + j + 1) s' p') →
    ∃ s' p', lpS step (xs.map f) s p = some (s', p') ∧ Pv (i + xs.length) s' p'
  | [], i, s, p, h, _ => ⟨s, p, rfl, h⟩
  | x :: xs, i, s, p, h, hs => by
    obtain ⟨s1, p1, e1, h1⟩ := hs 0 x s p rfl h
    obtain ⟨s', p', e3, h3⟩ := lpS_inv f Pv xs (i + 1) s1 p1 h1 (fun j y s p hy hp => by
      have z := hs (j + 1) y s p (by simpa using hy) (by rw [show i + (j + 1) = i + 1 + j by omega]; exact hp)
      rw [show i + (j + 1) = i + 1 + j by omega] at z
      exact z)
    refine ⟨s', p', ?_, by rw [List.length_cons, show i + (xs.length + 1) = i + 1 + xs.length by omega]; exact h3⟩
    rw [List.map_cons, n_lpSc, e1]
    exact e3
/-- a loop that folds -/
theorem lpS_fold {step : D → σ → Option Pl → Option (σ × Option Pl)} (f : α → D) (mk : δ → σ) (g : δ → α → δ) (p : Option Pl) (Pv : Nat → δ → Prop) (xs : List α) (s : δ) (h0 : Pv 0 s)
    (hs : ∀ (j : Nat) (x : α) (s : δ), xs[j]? = some x → Pv j s → step (f x) (mk s) p = some (mk (g s x), p) ∧ Pv (j + 1) (g s x)) :
    lpS step (xs.map f) (mk s) p = some (mk (xs.foldl g s), p) ∧ Pv xs.length (xs.foldl g s) := by
  obtain ⟨s', p', e, h1, h2, h3⟩ := lpS_inv (step := step) f (fun i s' p' => s' = mk ((xs.take i).foldl g s) ∧ p' = p ∧ Pv i ((xs.take i).foldl g s)) xs 0 (mk s) p ⟨rfl, rfl, h0⟩ (fun j x s' p' hx hp => by
    obtain ⟨rfl, rfl, hv⟩ := hp
    rw [Nat.zero_add] at hv ⊢
    obtain ⟨e1, e2⟩ := hs j x _ hx hv
    have ht : xs.take (j + 1) = xs.take j ++ [x] := by rw [List.take_add_one, hx]; rfl
    refine ⟨_, _, e1, ?_, rfl, ?_⟩
    · rw [ht, List.foldl_append]; rfl
    · rw [ht, List.foldl_append]; exact e2)
  rw [Nat.zero_add, List.take_length] at h1 h3
  exact ⟨by rw [e, h1, h2], h3⟩
theorem n_lpGc (step : D → σ → Option Pl → Option (Lr σ ρ)) (d : D) (ds : List D) (s : σ) : lpG step (d :: ds) s p = match step d s p with
    | none => none
    | some (.go s p) => lpG step ds s p
    | some (.br s p) => some (.br s p)
    | some (.rt d p) => some (.rt d p) := rfl
@[simp] theorem n_lpG0 (step : D → σ → Option Pl → Option (Lr σ ρ)) (s : σ) : lpG step [] s p = some (.go s p) := rfl
/-- a loop none of whose turns leaves it -/
theorem lpG_inv {step : D → σ → Option Pl → Option (Lr σ ρ)} (f : α → D) (Pv : Nat → σ → Option Pl → Prop) : ∀ (xs : List α) (i : Nat) (s : σ) (p : Option Pl), Pv i s p →
    (∀ (j : Nat) (x : α) (s : σ) (p : Option Pl), xs[j]? = some x → Pv (i + j) s p → ∃ s' p', step (f x) s p = some (.go s' p') ∧ Pv (i + j + 1) s' p') →
    ∃ s' p', lpG step (xs.map f) s p = some (.go s' p') ∧ Pv (i + xs.length) s' p'
  | [], i, s, p, h, _ => ⟨s, p, rfl, h⟩
  | x :: xs, i, s, p, h, hs => by
    obtain ⟨s1, p1, e1, h1⟩ := hs 0 x s p rfl h
    obtain ⟨s', p', e3, h3⟩ := lpG_inv f Pv xs (i + 1) s1 p1 h1 (fun j y s p hy hp => by
      have z := hs (j + 1) y s p (by simpa using hy) (by rw [show i + (j + 1) = i + 1 + j by omega]; exact hp)
      rw [show i + (j + 1) = i + 1 + j by omega] at z
      exact z)
    refine ⟨s', p', ?_, by rw [List.length_cons, show i + (xs.length + 1) = i + 1 + xs.length by omega]; exact h3⟩
    rw [List.map_cons, n_lpGc, e1]
    exact e3
/-- a loop that hands back d at the first item that fails -/
theorem lpG_all {step : D → σ → Option Pl → Option (Lr σ ρ)} (f : α → D) (d : ρ) (t : α → Bool) (s : σ) (p : Option Pl) : ∀ (xs : List α), (∀ x ∈ xs, step (f x) s p = if t x = true then some (.go s p) else some (.rt d p)) →
    lpG step (xs.map f) s p = if xs.all t = true then some (.go s p) else some (.rt d p)
  | [], _ => rfl
  | x :: xs, h => by
    have h1 := h x List.mem_cons_self
    have ih := lpG_all f d t s p xs fun y hy => h y (List.mem_cons_of_mem _ hy)
    rw [List.map_cons, n_lpGc, h1, List.all_cons]
    cases t x with
    | false => rfl
    | true => simp only [if_true, Bool.true_and]; exact ih
@[simp] theorem n_lcR0 (one : D → XM (Option D)) : lcR one [] p = some ([], p) := rfl
theorem n_lcRc (one : D → XM (Option D)) (d : D) (ds : List D) : lcR one (d :: ds) p = (one d p).bind fun r => match r.1 with
    | none => lcR one ds r.2
    | some y => (lcR one ds r.2).map fun q => (y :: q.1, q.2) := by
  conv => lhs; unfold lcR
  cases one d p with
  | none => rfl
  | some q =>
    obtain ⟨o, p1⟩ := q
    cases o with
    | none => rfl
    | some y => dsimp only [Option.bind_some]; cases lcR one ds p1 <;> rfl
/-- a comprehension without tests -/
theorem lc_mapN {one : D → XM (Option D)} (f : α → D) (g : α → D) : ∀ (xs : List α), (∀ x ∈ xs, one (f x) p = some (some (g x), p)) → lcR one (xs.map f) p = some (xs.map g, p)
  | [], _ => rfl
  | x :: xs, h => by
    rw [List.map_cons, n_lcRc, h x List.mem_cons_self, Option.bind_some]
    dsimp only
    rw [lc_mapN f g xs fun y hy => h y (List.mem_cons_of_mem _ hy)]; rfl
/-- .. with a test -/
theorem lc_filN {one : D → XM (Option D)} (f : α → D) (t : α → Bool) (g : α → D) : ∀ (xs : List α), (∀ x ∈ xs, one (f x) p = some (if t x = true then some (g x) else none, p)) → lcR one (xs.map f) p = some ((xs.filter t).map g, p)
  | [], _ => rfl
  | x :: xs, h => by
    have ih := lc_filN f t g xs fun y hy => h y (List.mem_cons_of_mem _ hy)
    rw [List.map_cons, n_lcRc, h x List.mem_cons_self, Option.bind_some]
    cases ht : t x with
    | false => rw [List.filter_cons_of_neg (by simp [ht])]; exact ih
    | true => rw [List.filter_cons_of_pos ht, List.map_cons]; simp only [if_true]; rw [ih]; rfl
/-- a comprehension that draws -/
theorem lc_drawN {one : D → XM (Option D)} (Q : D → Prop) : ∀ (ds : List D) (P : Pl), (∀ d ∈ ds, ∀ P : Pl, ∃ v P', one d (some P) = some (some v, some P') ∧ Q v) → ∃ vs P', lcR one ds (some P) = some (vs, some P') ∧ vs.length = ds.length ∧ ∀ v ∈ vs, Q v
  | [], P, _ => ⟨[], P, rfl, rfl, by simp⟩
  | d :: ds, P, h => by
    obtain ⟨v, P1, e1, q⟩ := h d List.mem_cons_self P
    obtain ⟨vs, P2, e3, l, a⟩ := lc_drawN Q ds P1 fun d hd => h d (List.mem_cons_of_mem _ hd)
    refine ⟨v :: vs, P2, ?_, by simp [l], fun x hx => ?_⟩
    · rw [n_lcRc, e1, Option.bind_some]; dsimp only; rw [e3]; rfl
    · rcases List.mem_cons.mp hx with rfl | hx
      · exact q
      · exact a x hx
end
/-- slots seen, at each construct -/
theorem yy : (∀ (d : D) (E : Env), mC d E = kx d) ∧
    (∀ (g : D → D → Option D) (a b : EM) (E : Env), mOp g a b E = op2 g (a E) (b E)) ∧
    (∀ (g : D → D → Option (List D)) (a b : EM) (E : Env), mOpL g a b E = op2 g (a E) (b E)) ∧
    (∀ (g : D → Option D) (a : EM) (E : Env), mUn g a E = op1 g (a E)) ∧
    (∀ (E : Env), aNil E = an) ∧
    (∀ (a : EM) (r : AM) (E : Env), aCons a r E = ac (a E) (r E)) ∧
    (∀ (g : List D → Option D) (m : AM) (E : Env), mCall g m E = cal g (m E)) ∧
    (∀ (g : List D → Option (List D)) (m : AM) (E : Env), mCallL g m E = cal g (m E)) ∧
    (∀ (m : EM) (E : Env), mTru m E = op1 tru (m E)) ∧
    (∀ (m : EM) (E : Env), mTst m E = op1 blD (m E)) ∧
    (∀ (m : BM) (E : Env), mNot m E = notX (m E)) ∧
    (∀ (m n : BM) (E : Env), mAnd m n E = andX (m E) (n E)) ∧
    (∀ (m n : BM) (E : Env), mOr m n E = orX (m E) (n E)) ∧
    (∀ (c : BM) (a b : EM) (E : Env), mIte c a b E = iteX (c E) (a E) (b E)) ∧
    (∀ (a b : EM) (E : Env), mAndV a b E = andV (a E) (b E)) ∧
    (∀ (a b : EM) (E : Env), mOrV a b E = orV (a E) (b E)) ∧
    (∀ (a : EM) (E : Env), mNotV a E = notV (a E)) ∧
    (∀ (g g' : D → D → Option D) (a b c : EM) (E : Env), mChain g g' a b c E = chn g g' (a E) (b E) (c E)) ∧
    (∀ (m : AM) (E : Env), mTup m E = tupX (m E)) ∧
    (∀ (m : AM) (E : Env), mLstL m E = lstX (m E)) ∧
    (∀ (m : AM) (E : Env), mFrz m E = frzX (m E)) ∧
    (∀ (T : String) (m : EM) (E : Env), mIsi T m E = isiX T (m E)) ∧
    (∀ (E : Env), oNo E = kx none) ∧
    (∀ (m : EM) (E : Env), oSome m E = osX (m E)) ∧
    (∀ (m : EM) (lo hi : OM) (E : Env), mSl m lo hi E = slX dSl (m E) (lo E) (hi E)) ∧
    (∀ (m : EM) (lo hi : OM) (E : Env), mSlL m lo hi E = slX dSlL (m E) (lo E) (hi E)) ∧
    (∀ (f : D → Option (List D)) (m : EM) (E : Env), mIt f m E = op1 f (m E)) ∧
    (∀ (f : List D → Option (List D)) (m : AM) (E : Env), mRng f m E = cal f (m E)) ∧
    (∀ (m : EM) (E : Env), mRevL m E = op1 lrev (m E)) ∧
    (∀ (m : AM) (E : Env), mRgL m E = cal lrg (m E)) ∧
    (∀ (i : Nat) (g : Pl → List D → Option (D × Pl)) (m : AM) (E : Env) (h : E[i]? = some .pool), mCallP i g m E = calP g (m E)) ∧
    (∀ (i : Nat) (g : Pl → List D → Option (List D × Pl)) (m : AM) (E : Env) (h : E[i]? = some .pool), mCallPL i g m E = calP g (m E)) ∧
    (∀ (i : Nat) (j : Int) (E : Env) (h : E[i]? = some .pool), mPix i j E = pixX j) ∧
    (∀ (i : Nat) (E : Env), mV i E = rdO E[i]?) ∧
    (∀ (d : D), rdO (some (.val d)) = kx d) ∧
    (∀ (xs : List D), rdO (some (.own xs)) = kx (.lst xs)) ∧
    (∀ (ks vs : List D), rdO (some (.owd ks vs)) = kx (.dct ks vs)) ∧
    (∀ (E : Env), vw [] E = E.map hide1) ∧
    (∀ (s : Sl) (E : Env), (s :: E).map hide1 = hide1 s :: E.map hide1) ∧
    ((([] : Env).map hide1) = []) ∧
    (hide1 .un = .un) ∧
    (∀ d : D, hide1 (.val d) = .val d) ∧
    (∀ xs : List D, hide1 (.own xs) = .un) ∧
    (hide1 .pool = .pool) ∧
    (∀ (s : Sl) (E : Env), (s :: E)[0]? = some s) ∧
    (∀ (s : Sl) (E : Env) (n : Nat), (s :: E)[n + 1]? = E[n]?) ∧
    (∀ vs src f mt me E, mLc vs src f mt me E = lcB (src E) fun d pl => bdE (f d (wipeE E vs)) fun E1 => telX (mt E1) (me E1) pl) ∧
    (∀ (i : Nat) (d : D) (E : Env) (k : Env → Option (Option D × Option Pl)), bdE (gN i d E) k = k (E.set i (.val d))) ∧
    (∀ g1 d E (k : Env → Option (Option D × Option Pl)), bdE (gTL 1 (gsC g1 gsN) d E) k = un1 d fun x => bdE (g1 x E) k) ∧
    (∀ g1 g2 d E (k : Env → Option (Option D × Option Pl)), bdE (gTL 2 (gsC g1 (gsC g2 gsN)) d E) k = un2 d fun x y => bdE (g1 x E) fun E1 => bdE (g2 y E1) k) ∧
    (∀ g1 g2 g3 d E (k : Env → Option (Option D × Option Pl)), bdE (gTL 3 (gsC g1 (gsC g2 (gsC g3 gsN))) d E) k = un3 d fun x y z => bdE (g1 x E) fun E1 => bdE (g2 y E1) fun E2 => bdE (g3 z E2) k) ∧
    (∀ g1 g2 g3 g4 d E (k : Env → Option (Option D × Option Pl)), bdE (gTL 4 (gsC g1 (gsC g2 (gsC g3 (gsC g4 gsN)))) d E) k = un4 d fun x y z w => bdE (g1 x E) fun E1 => bdE (g2 y E1) fun E2 => bdE (g3 z E2) fun E3 => bdE (g4 w E3) k) ∧
    (∀ (E : Env), wipeE E [] = E) ∧
    (∀ (E : Env) v vs, wipeE E (v :: vs) = (wipeE E vs).set v .un) ∧
    (∀ (s x : Sl) (E : Env), (s :: E).set 0 x = x :: E) ∧
    (∀ (s x : Sl) (E : Env) (n : Nat), (s :: E).set (n + 1) x = s :: E.set n x) :=
  ⟨y_mC, y_mOp, y_mOpL, y_mUn, y_aNil, y_aCons, y_mCall, y_mCallL, y_mTru, y_mTst, y_mNot, y_mAnd, y_mOr, y_mIte, y_mAndV, y_mOrV, y_mNotV, y_mChain, y_mTup, y_mLstL, y_mFrz, y_mIsi, y_oNo, y_oSome, y_mSl, y_mSlL, y_mIt, y_mRng, y_mRevL, y_mRgL, y_mCallP, y_mCallPL, y_mPix, y_mV, r_val, r_own, r_owd, fun _ => x_vw0, fun _ _ => rfl, rfl, rfl, fun _ => rfl, fun _ => rfl, rfl, fun _ _ => rfl, fun _ _ _ => rfl, mLc_eq, bdE_N, bdE_1, bdE_2, bdE_3, bdE_4, fun _ => rfl, fun _ _ _ => rfl, fun _ _ _ => rfl, fun _ _ _ _ => rfl⟩

/-! ends -/
theorem e_rF : ∀ (d : D) (E : Env) (p : Option Pl) (x : D × Option Pl), some (d, p) = some x → Gf (.rt d E p) x := fun d E p x h => by cases h; exact .inl (.inl ⟨E, rfl⟩)
theorem e_rFL : ∀ (d : List D) (E : Env) (p : Option Pl) (x : D × Option Pl), some (D.lst d, p) = some x → Gf (.rtl d E p) x := fun d E p x h => by cases h; exact .inl (.inr ⟨d, E, rfl, rfl⟩)
theorem e_rL : ∀ (d : List D) (E : Env) (p : Option Pl) (x : List D × Option Pl), some (d, p) = some x → Gl (.rtl d E p) x := fun d E p x h => by cases h; exact ⟨E, rfl⟩
theorem e_rT {mk : σ → Env → Prop} : ∀ (d : D) (E : Env) (p : Option Pl) (x : Lr σ D), some (Lr.rt d p) = some x → Gt mk GrF (.rt d E p) x := fun d E p x h => by cases h; exact .inl ⟨E, rfl⟩
theorem e_rTL {mk : σ → Env → Prop} : ∀ (d : List D) (E : Env) (p : Option Pl) (x : Lr σ (List D)), some (Lr.rt d p) = some x → Gt mk GrL (.rtl d E p) x := fun d E p x h => by cases h; exact ⟨E, rfl⟩
theorem e_nF {E : Env} {p : Option Pl} : ∀ (x : D × Option Pl), some (D.non, p) = some x → Gf (.nx E p) x := fun x h => by cases h; exact .inr ⟨E, rfl, rfl⟩
theorem k_F : ∀ (o : Out) (d : D) (p : Option Pl) (x : D × Option Pl), GrF o d p → some (d, p) = some x → Gf o x := fun o d p x g h => by cases h; exact .inl g
theorem k_L : ∀ (o : Out) (d : List D) (p : Option Pl) (x : List D × Option Pl), GrL o d p → some (d, p) = some x → Gl o x := fun o d p x g h => by cases h; exact g
theorem k_T {mk : σ → Env → Prop} {Gr : Out → ρ → Option Pl → Prop} : ∀ (o : Out) (d : ρ) (p : Option Pl) (x : Lr σ ρ), Gr o d p → some (Lr.rt d p) = some x → Gt mk Gr o x := fun o d p x g h => by cases h; exact g
/-- a loop that hands back at the first item that tells something -/
theorem lpG_find {step : D → σ → Option Pl → Option (Lr σ ρ)} (f : α → D) (t : α → Option ρ) (s : σ) (p : Option Pl) : ∀ (xs : List α), (∀ x ∈ xs, step (f x) s p = match t x with | none => some (.go s p) | some d => some (.rt d p)) →
    lpG step (xs.map f) s p = match xs.findSome? t with | none => some (.go s p) | some d => some (.rt d p)
  | [], _ => rfl
  | x :: xs, h => by
    have h1 := h x List.mem_cons_self
    have ih := lpG_find f t s p xs fun y hy => h y (List.mem_cons_of_mem _ hy)
    rw [List.map_cons, n_lpGc, h1, List.findSome?_cons]
    cases t x with
    | none => exact ih
    | some d => rfl
theorem enumD_map (f : α → D) : ∀ (xs : List α) (i : Nat), enumD i (xs.map f) = (xs.zipIdx i).map fun q => D.tup [.int (q.2 : Nat), f q.1]
  | [], _ => rfl
  | x :: xs, i => by rw [List.map_cons, List.zipIdx_cons, List.map_cons, ← enumD_map f xs (i + 1)]; rfl
/-! steps -/
section
variable {p q : Option Pl}
theorem bd_of {x : Option (α × Option Pl)} {a : α} {f : α → Option Pl → Option β} {r : Option β} (h : x = some (a, p)) (k : f a p = r) : bd x f = r := by subst h; exact k
theorem bdn {x : Option (α × Option Pl)} (a : α) {f : α → Option Pl → Option β} {r : Option β} (h : x = some (a, none)) (k : f a none = r) : bd x f = r := by subst h; exact k
theorem if_t {c : Option (Bool × Option Pl)} {a b : Option Pl → Option β} {r : Option β} (h : c = some (true, p)) (k : a p = r) : ifX c a b = r := by subst h; exact k
theorem if_f {c : Option (Bool × Option Pl)} {a b : Option Pl → Option β} {r : Option β} (h : c = some (false, p)) (k : b p = r) : ifX c a b = r := by subst h; exact k
theorem if_b {c : Option (Bool × Option Pl)} {t : Bool} {a b : Option Pl → Option β} {r : Option β} (h : c = some (t, p)) (k1 : t = true → a p = r) (k2 : t = false → b p = r) : ifX c a b = r := by
  subst h
  cases t with
  | true => exact k1 rfl
  | false => exact k2 rfl
theorem gd_of {b : Bool} {o r : Option β} (h : b = true) (k : o = r) : gd b o = r := by subst h; exact k
theorem atU_of {o : Option γ} {j : γ} {f : γ → Option β} {r : Option β} (h : o = some j) (k : f j = r) : atU o f = r := by subst h; exact k
theorem bo_go {x : Option (Lr σ ρ)} {s : σ} {f : σ → Option Pl → Option β} {g : ρ → Option Pl → Option β} {r : Option β} (h : x = some (.go s p)) (k : f s p = r) : bo x f g = r := by subst h; exact k
theorem bo_br {x : Option (Lr σ ρ)} {s : σ} {f : σ → Option Pl → Option β} {g : ρ → Option Pl → Option β} {r : Option β} (h : x = some (.br s p)) (k : f s p = r) : bo x f g = r := by subst h; exact k
theorem bo_rt {x : Option (Lr σ ρ)} {d : ρ} {f : σ → Option Pl → Option β} {g : ρ → Option Pl → Option β} {r : Option β} (h : x = some (.rt d p)) (k : g d p = r) : bo x f g = r := by subst h; exact k
end
/-! expressions, by parts -/
section
variable {p p1 p2 p3 p4 : Option Pl}
theorem op2_ok {g : α → β → Option γ} {a : XM α} {b : XM β} {x : α} {y : β} {z : γ} (ha : a p = some (x, p1)) (hb : b p1 = some (y, p2)) (hg : g x y = some z) : op2 g a b p = some (z, p2) := by
  rw [n_op2, ha, Option.bind_some, hb, Option.bind_some, hg]; rfl
theorem op1_ok {g : α → Option γ} {a : XM α} {x : α} {z : γ} (ha : a p = some (x, p1)) (hg : g x = some z) : op1 g a p = some (z, p1) := by
  rw [n_op1, ha, Option.bind_some, hg]; rfl
theorem cal0 {g : List D → Option γ} {z : γ} (hg : g [] = some z) : cal g an p = some (z, p) := by simp [hg]
theorem cal1 {g : List D → Option γ} {a : XM D} {x : D} {z : γ} (ha : a p = some (x, p1)) (hg : g [x] = some z) : cal g (ac a an) p = some (z, p1) := by simp [ha, hg]
theorem cal2 {g : List D → Option γ} {a b : XM D} {x y : D} {z : γ} (ha : a p = some (x, p1)) (hb : b p1 = some (y, p2)) (hg : g [x, y] = some z) : cal g (ac a (ac b an)) p = some (z, p2) := by simp [ha, hb, hg]
theorem cal3 {g : List D → Option γ} {a b c : XM D} {x y w : D} {z : γ} (ha : a p = some (x, p1)) (hb : b p1 = some (y, p2)) (hc : c p2 = some (w, p3)) (hg : g [x, y, w] = some z) : cal g (ac a (ac b (ac c an))) p = some (z, p3) := by simp [ha, hb, hc, hg]
theorem cal4 {g : List D → Option γ} {a b c d : XM D} {x y w v : D} {z : γ} (ha : a p = some (x, p1)) (hb : b p1 = some (y, p2)) (hc : c p2 = some (w, p3)) (hd : d p3 = some (v, p4)) (hg : g [x, y, w, v] = some z) : cal g (ac a (ac b (ac c (ac d an)))) p = some (z, p4) := by simp [ha, hb, hc, hd, hg]
theorem or_t {a b : XM Bool} (h : a p = some (true, p1)) : orX a b p = some (true, p1) := by rw [n_orX, h]; rfl
theorem or_f {a b : XM Bool} {t : Bool} (h : a p = some (false, p1)) (g : b p1 = some (t, p2)) : orX a b p = some (t, p2) := by rw [n_orX, h]; exact g
theorem and_t {a b : XM Bool} {t : Bool} (h : a p = some (true, p1)) (g : b p1 = some (t, p2)) : andX a b p = some (t, p2) := by rw [n_andX, h]; exact g
theorem and_f {a b : XM Bool} (h : a p = some (false, p1)) : andX a b p = some (false, p1) := by rw [n_andX, h]; rfl
theorem not_ok {a : XM Bool} {t : Bool} (h : a p = some (t, p1)) : notX a p = some (!t, p1) := by rw [n_notX, h]; rfl
theorem frz_ok {m : XM (List D)} {xs : List D} (h : m p = some (xs, p1)) : frzX m p = some (.lst xs, p1) := by simp [h]
theorem lcB_map {src : XM (List D)} {one : D → XM (Option D)} (f g : α → D) (xs : List α) (h : src p = some (xs.map f, p1)) (hl : xs.length ≤ 1000000) (ho : ∀ x ∈ xs, one (f x) p1 = some (some (g x), p1)) : lcB src one p = some (xs.map g, p1) := by
  rw [n_lcB, h, Option.bind_some, List.length_map, x_sized hl, x_bT]
  exact lc_mapN f g xs ho
theorem lcB_fil {src : XM (List D)} {one : D → XM (Option D)} (f : α → D) (t : α → Bool) (g : α → D) (xs : List α) (h : src p = some (xs.map f, p1)) (hl : xs.length ≤ 1000000) (ho : ∀ x ∈ xs, one (f x) p1 = some (if t x = true then some (g x) else none, p1)) : lcB src one p = some ((xs.filter t).map g, p1) := by
  rw [n_lcB, h, Option.bind_some, List.length_map, x_sized hl, x_bT]
  exact lc_filN f t g xs ho
theorem tup1 {q1 : Option Pl} {a : XM D} {x0 : D} (ha : a p = some (x0, q1)) : tupX (ac a an) p = some (.tup [x0], q1) := by simp [ha]
theorem tup2 {q1 q2 : Option Pl} {a b : XM D} {x0 x1 : D} (ha : a p = some (x0, q1)) (hb : b q1 = some (x1, q2)) : tupX (ac a (ac b an)) p = some (.tup [x0, x1], q2) := by simp [ha, hb]
theorem tup3 {q1 q2 q3 : Option Pl} {a b c : XM D} {x0 x1 x2 : D} (ha : a p = some (x0, q1)) (hb : b q1 = some (x1, q2)) (hc : c q2 = some (x2, q3)) : tupX (ac a (ac b (ac c an))) p = some (.tup [x0, x1, x2], q3) := by simp [ha, hb, hc]
theorem tup4 {q1 q2 q3 q4 : Option Pl} {a b c d : XM D} {x0 x1 x2 x3 : D} (ha : a p = some (x0, q1)) (hb : b q1 = some (x1, q2)) (hc : c q2 = some (x2, q3)) (hd : d q3 = some (x3, q4)) : tupX (ac a (ac b (ac c (ac d an)))) p = some (.tup [x0, x1, x2, x3], q4) := by simp [ha, hb, hc, hd]
theorem tup5 {q1 q2 q3 q4 q5 : Option Pl} {a b c d e : XM D} {x0 x1 x2 x3 x4 : D} (ha : a p = some (x0, q1)) (hb : b q1 = some (x1, q2)) (hc : c q2 = some (x2, q3)) (hd : d q3 = some (x3, q4)) (he : e q4 = some (x4, q5)) : tupX (ac a (ac b (ac c (ac d (ac e an))))) p = some (.tup [x0, x1, x2, x3, x4], q5) := by simp [ha, hb, hc, hd, he]
theorem lst1 {q1 : Option Pl} {a : XM D} {x0 : D} (ha : a p = some (x0, q1)) : lstX (ac a an) p = some ([x0], q1) := by simp [ha]
theorem lst2 {q1 q2 : Option Pl} {a b : XM D} {x0 x1 : D} (ha : a p = some (x0, q1)) (hb : b q1 = some (x1, q2)) : lstX (ac a (ac b an)) p = some ([x0, x1], q2) := by simp [ha, hb]
theorem lst3 {q1 q2 q3 : Option Pl} {a b c : XM D} {x0 x1 x2 : D} (ha : a p = some (x0, q1)) (hb : b q1 = some (x1, q2)) (hc : c q2 = some (x2, q3)) : lstX (ac a (ac b (ac c an))) p = some ([x0, x1, x2], q3) := by simp [ha, hb, hc]
theorem lst4 {q1 q2 q3 q4 : Option Pl} {a b c d : XM D} {x0 x1 x2 x3 : D} (ha : a p = some (x0, q1)) (hb : b q1 = some (x1, q2)) (hc : c q2 = some (x2, q3)) (hd : d q3 = some (x3, q4)) : lstX (ac a (ac b (ac c (ac d an)))) p = some ([x0, x1, x2, x3], q4) := by simp [ha, hb, hc, hd]
theorem lst5 {q1 q2 q3 q4 q5 : Option Pl} {a b c d e : XM D} {x0 x1 x2 x3 x4 : D} (ha : a p = some (x0, q1)) (hb : b q1 = some (x1, q2)) (hc : c q2 = some (x2, q3)) (hd : d q3 = some (x3, q4)) (he : e q4 = some (x4, q5)) : lstX (ac a (ac b (ac c (ac d (ac e an))))) p = some ([x0, x1, x2, x3, x4], q5) := by simp [ha, hb, hc, hd, he]
end
/-! slices -/
@[simp] theorem cutTo (xs : List α) (k : Nat) : cutD xs none (some (k : Int)) = xs.take k := by
  have hn : ¬ ((k : Int) < 0) := by omega
  unfold cutD
  simp only [HT.sIx]
  rw [if_neg hn]
  simp only [Int.toNat_natCast, Nat.sub_zero, List.drop_zero]
  by_cases h : k ≤ xs.length
  · rw [Nat.min_eq_left h]
  · rw [Nat.min_eq_right (by omega), List.take_of_length_le (Nat.le_refl _), List.take_of_length_le (by omega)]
@[simp] theorem cutFrom (xs : List α) (k : Nat) : cutD xs (some (k : Int)) none = xs.drop k := by
  have hn : ¬ ((k : Int) < 0) := by omega
  unfold cutD
  simp only [HT.sIx]
  rw [if_neg hn]
  simp only [Int.toNat_natCast]
  by_cases h : k ≤ xs.length
  · rw [Nat.min_eq_left h]; exact List.take_of_length_le (Nat.le_of_eq List.length_drop)
  · rw [Nat.min_eq_right (by omega), List.drop_of_length_le (Nat.le_refl _), List.drop_of_length_le (show xs.length ≤ k by omega), List.take_nil]
theorem cutMid (xs : List α) (a b : Nat) (h : a ≤ b) : cutD xs (some (a : Int)) (some (b : Int)) = (xs.drop a).take (b - a) := by
  have hn : ¬ ((a : Int) < 0) := by omega
  have hm : ¬ ((b : Int) < 0) := by omega
  unfold cutD
  simp only [HT.sIx]
  rw [if_neg hn, if_neg hm]
  simp only [Int.toNat_natCast]
  by_cases h1 : b ≤ xs.length
  · rw [Nat.min_eq_left h1, Nat.min_eq_left (by omega)]
  · rw [Nat.min_eq_right (show xs.length ≤ b by omega)]
    by_cases h2 : a ≤ xs.length
    · rw [Nat.min_eq_left h2, List.take_of_length_le (by rw [List.length_drop]; exact Nat.le_refl _), List.take_of_length_le (by rw [List.length_drop]; omega)]
    · rw [Nat.min_eq_right (by omega), Nat.sub_self, List.take_zero, List.drop_of_length_le (show xs.length ≤ a by omega), List.take_nil]
@[simp] theorem cutFrom1 (xs : List α) (k : Nat) : cutD xs (some ((k : Nat) + 1 : Int)) none = xs.drop (k + 1) := by
  rw [show ((k : Nat) + 1 : Int) = ((k + 1 : Nat) : Int) by omega, cutFrom]
theorem slFrom {f : α → D} (xs : List α) (k : Nat) : dSl (.lst (xs.map f)) (some ((k : Nat) + 1 : Int)) none = some (.lst ((xs.drop (k + 1)).map f)) := by
  rw [x_dSlL, show ((k : Nat) + 1 : Int) = ((k + 1 : Nat) : Int) by omega, cutFrom, List.map_drop]
theorem bo_find {step : D → σ → Option Pl → Option (Lr σ ρ)} {g : σ → Option Pl → Option β} {h : ρ → Option Pl → Option β} {r : Option β} (f : α → D) (t : α → Option ρ) (s : σ) (p : Option Pl) (xs : List α) (hs : ∀ x ∈ xs, step (f x) s p = match t x with | none => some (.go s p) | some d => some (.rt d p))
    (k1 : xs.findSome? t = none → g s p = r) (k2 : ∀ d, xs.findSome? t = some d → h d p = r) : bo (lpG step (xs.map f) s p) g h = r := by
  rw [lpG_find f t s p xs hs]
  cases e : xs.findSome? t with
  | none => exact k1 e
  | some d => exact k2 d e
theorem at_lastN (xs : List α) (x : α) : atI (xs ++ [x]) (-1) = some x := by
  have e : ixN (xs ++ [x]).length (-1) = some xs.length := by
    unfold ixN
    rw [List.length_append, List.length_singleton, if_neg (by decide), if_pos (by omega)]
    congr 1
    omega
  unfold atI
  rw [e]
  simp
/-! what holds of the outcome -/
def Wp (o : Option β) (Q : β → Prop) : Prop := ∃ x, o = some x ∧ Q x
section
variable {p q : Option Pl} {Q : β → Prop}
theorem wp_some {x : β} (h : Q x) : Wp (some x) Q := ⟨x, rfl, h⟩
theorem wp_mono {o : Option β} {Q' : β → Prop} (h : Wp o Q') (k : ∀ x, Q' x → Q x) : Wp o Q := let ⟨x, e, hx⟩ := h; ⟨x, e, k x hx⟩
theorem wp_bd {x : Option (α × Option Pl)} {a : α} {f : α → Option Pl → Option β} (h : x = some (a, p)) (k : Wp (f a p) Q) : Wp (bd x f) Q := by subst h; exact k
theorem wp_bdn {x : Option (α × Option Pl)} (a : α) {f : α → Option Pl → Option β} (h : x = some (a, none)) (k : Wp (f a none) Q) : Wp (bd x f) Q := by subst h; exact k
theorem wp_ex {x : Option (α × Option Pl)} {f : α → Option Pl → Option β} (Q' : α × Option Pl → Prop) (h : Wp x Q') (k : ∀ a p, Q' (a, p) → Wp (f a p) Q) : Wp (bd x f) Q := by
  obtain ⟨⟨a, p⟩, rfl, hx⟩ := h; exact k a p hx
theorem wp_if {c : Option (Bool × Option Pl)} {t : Bool} {a b : Option Pl → Option β} (h : c = some (t, p)) (k1 : t = true → Wp (a p) Q) (k2 : t = false → Wp (b p) Q) : Wp (ifX c a b) Q := by
  subst h
  cases t with
  | true => exact k1 rfl
  | false => exact k2 rfl
theorem wp_ift {c : Option (Bool × Option Pl)} {a b : Option Pl → Option β} (h : c = some (true, p)) (k : Wp (a p) Q) : Wp (ifX c a b) Q := by subst h; exact k
theorem wp_iff {c : Option (Bool × Option Pl)} {a b : Option Pl → Option β} (h : c = some (false, p)) (k : Wp (b p) Q) : Wp (ifX c a b) Q := by subst h; exact k
theorem wp_gd {b : Bool} {o : Option β} (h : b = true) (k : Wp o Q) : Wp (gd b o) Q := by subst h; exact k
theorem wp_atU {o : Option γ} {j : γ} {f : γ → Option β} (h : o = some j) (k : Wp (f j) Q) : Wp (atU o f) Q := by subst h; exact k
theorem wp_lpS0 {step : D → σ → Option Pl → Option (σ × Option Pl)} (f : α → D) (Pv : Nat → σ → Option Pl → Prop) (xs : List α) {s : σ} (h0 : Pv 0 s p)
    (hs : ∀ (j : Nat) (x : α) (s : σ) (p : Option Pl), xs[j]? = some x → Pv j s p → Wp (step (f x) s p) fun r => Pv (j + 1) r.1 r.2) : Wp (lpS step (xs.map f) s p) fun r => Pv xs.length r.1 r.2 := by
  obtain ⟨s', p', e, h⟩ := lpS_inv (step := step) f Pv xs 0 s p h0 (fun j x s p hx hp => by
    rw [Nat.zero_add] at hp ⊢
    obtain ⟨r, e, h⟩ := hs j x s p hx hp
    exact ⟨r.1, r.2, e, h⟩)
  rw [Nat.zero_add] at h
  exact ⟨(s', p'), e, h⟩
theorem wp_lpS {step : D → σ → Option Pl → Option (σ × Option Pl)} (f : α → D) (Pv : Nat → σ → Option Pl → Prop) (xs : List α) {s : σ} {g : σ → Option Pl → Option β} (h0 : Pv 0 s p)
    (hs : ∀ (j : Nat) (x : α) (s : σ) (p : Option Pl), xs[j]? = some x → Pv j s p → Wp (step (f x) s p) fun r => Pv (j + 1) r.1 r.2) (k : ∀ s p, Pv xs.length s p → Wp (g s p) Q) : Wp (bd (lpS step (xs.map f) s p) g) Q :=
  wp_ex _ (wp_lpS0 f Pv xs h0 hs) k
/-- no turn leaves the loop -/
theorem wp_lpG {step : D → σ → Option Pl → Option (Lr σ ρ)} (f : α → D) (Pv : Nat → σ → Option Pl → Prop) (xs : List α) {s : σ} {g : σ → Option Pl → Option β} {h : ρ → Option Pl → Option β} (h0 : Pv 0 s p)
    (hs : ∀ (j : Nat) (x : α) (s : σ) (p : Option Pl), xs[j]? = some x → Pv j s p → Wp (step (f x) s p) fun r => ∃ s' p', r = .go s' p' ∧ Pv (j + 1) s' p') (k : ∀ s p, Pv xs.length s p → Wp (g s p) Q) : Wp (bo (lpG step (xs.map f) s p) g h) Q := by
  obtain ⟨s', p', e, h1⟩ := lpG_inv (step := step) f Pv xs 0 s p h0 (fun j x s p hx hp => by
    rw [Nat.zero_add] at hp ⊢
    obtain ⟨r, e, s', p', rfl, h⟩ := hs j x s p hx hp
    exact ⟨s', p', e, h⟩)
  rw [Nat.zero_add] at h1
  rw [e]
  exact k s' p' h1
theorem wp_bo {x : Option (Lr σ ρ)} {s : σ} {f : σ → Option Pl → Option β} {g : ρ → Option Pl → Option β} (h : x = some (.go s p)) (k : Wp (f s p) Q) : Wp (bo x f g) Q := by subst h; exact k
theorem wp_bor {x : Option (Lr σ ρ)} {d : ρ} {f : σ → Option Pl → Option β} {g : ρ → Option Pl → Option β} (h : x = some (.rt d p)) (k : Wp (g d p) Q) : Wp (bo x f g) Q := by subst h; exact k
theorem wp_pn {x : Option (List D × Option Pl)} {ns : List Int} {a b c : Int} {f : Option Pl → Option β} (h : x = some ([.scr ns, .int a, .int b, .int c], none)) (k : Wp (f (some ⟨ns, a, b, c⟩)) Q) : Wp (pnX x f) Q := by subst h; exact k
theorem wp_fin {o : Option (α × Option Pl)} {v : α} (h : Wp o fun r => r.1 = v) : ∃ p, o = some (v, p) := by
  obtain ⟨⟨a, p⟩, e, rfl⟩ := h; exact ⟨p, e⟩
theorem wp_eq {o : Option β} {x : β} (h : o = some x) (k : Q x) : Wp o Q := ⟨x, h, k⟩
end
/-! a def by its name -/
theorem u_F {n : Nat} {b : SM} {ds : List D} {d : D} {p : Option Pl} {r : Option (D × Option Pl)} (h : Rel Gf (b (env0 n ds) none) r) (e : r = some (d, p)) : runF n b ds = some d := by
  obtain ⟨o', h1, h2⟩ := h (d, p) e
  rw [x_runF, h1]
  rcases h2 with (⟨E, rfl⟩ | ⟨xs, E, rfl, h3⟩) | ⟨E, rfl, h3⟩
  · rfl
  · dsimp only at h3; subst h3; rfl
  · dsimp only at h3; subst h3; rfl
theorem u_L {n : Nat} {b : SM} {ds : List D} {d : List D} {p : Option Pl} {r : Option (List D × Option Pl)} (h : Rel Gl (b (env0 n ds) none) r) (e : r = some (d, p)) : runL n b ds = some d := by
  obtain ⟨o', h1, E, h2⟩ := h (d, p) e
  subst h2
  rw [x_runL, h1]; rfl
theorem u_P {n : Nat} {b : SM} {ds : List D} {d : D} {P P' : Pl} {r : Option (D × Option Pl)} (h : Rel Gf (b (Sl.pool :: env0 (n - 1) ds) (some P)) r) (e : r = some (d, some P')) : runP n b P ds = some (d, P') := by
  obtain ⟨o', h1, h2⟩ := h (d, some P') e
  rw [x_runP, h1]
  rcases h2 with (⟨E, rfl⟩ | ⟨xs, E, rfl, h3⟩) | ⟨E, rfl, h3⟩
  · rfl
  · dsimp only at h3; subst h3; rfl
  · dsimp only at h3; subst h3; rfl
theorem u_PL {n : Nat} {b : SM} {ds : List D} {d : List D} {P P' : Pl} {r : Option (List D × Option Pl)} (h : Rel Gl (b (Sl.pool :: env0 (n - 1) ds) (some P)) r) (e : r = some (d, some P')) : runPL n b P ds = some (d, P') := by
  obtain ⟨o', h1, E, h2⟩ := h (d, some P') e
  subst h2
  rw [x_runPL, h1]; rfl
end
end Dn
set_option Elab.async false
set_option linter.all false
set_option maxRecDepth 100000
set_option maxHeartbeats 1000000
/-! Vectors: products of rows, numbers drawn. -/
namespace Lw
open PySem PySem.Spec PyProof.Rows L2 Dn
def b__law_dot : SM := sSeq (sAsgF [] (gN 2) (mTup (aCons (mC (.int 0)) (aCons (mC (.int 1)) (aNil))))) (sSeq (sFor [] (gN 3) (mRng rng1 (aCons (mCall gLen (aCons (mV 0) (aNil))) (aNil))) (sIf (mAnd (mTst (mOp dNe (mOp dIx (mOp dIx (mV 0) (mV 3)) (mC (.int 0))) (mC (.int 0)))) (mTst (mOp dNe (mOp dIx (mOp dIx (mV 1) (mV 3)) (mC (.int 0))) (mC (.int 0))))) (sAsgF [] (gN 2) (mCall m__law_add (aCons (mV 2) (aCons (mCall m__law_mul (aCons (mOp dIx (mV 0) (mV 3)) (aCons (mOp dIx (mV 1) (mV 3)) (aNil)))) (aNil))))) (sNil))) (sRetF [] (mV 2)))
def m__law_dot : List D → Option D := runF 4 b__law_dot
def f__law_dot (row other : D) (p : Option Pl) : Option (D × Option Pl) :=
  bd ((tupX (ac (kx (.int 0)) (ac (kx (.int 1)) (an)))) p) fun found p =>
  bd ((cal rng1 (ac (cal gLen (ac (kx row) (an))) (an))) p) fun ds p =>
  bd (lpS (σ := D) (fun k found p => ifX ((andX (op1 blD (op2 dNe (op2 dIx (op2 dIx (kx row) (kx k)) (kx (.int 0))) (kx (.int 0)))) (op1 blD (op2 dNe (op2 dIx (op2 dIx (kx other) (kx k)) (kx (.int 0))) (kx (.int 0))))) p)
    (fun p => bd ((cal m__law_add (ac (kx found) (ac (cal m__law_mul (ac (op2 dIx (kx row) (kx k)) (ac (op2 dIx (kx other) (kx k)) (an)))) (an)))) p) fun found p =>
      some (found, p))
    (fun p => some (found, p))) ds found p) fun found p =>
  bd ((kx found) p) fun v_ p => some (v_, p)
theorem r__law_dot (row other : D) (p : Option Pl) : Rel Gf (b__law_dot [.val row, .val other, .un, .un] p) (f__law_dot row other p) := by
  unfold b__law_dot f__law_dot
  refine q_asgF (by simp only [yy]; try rfl) (fun found p => ?_)
  refine q_bN (E' := [.val row, .val other, .val found, .un]) rfl ?_
  refine q_for (σ := D) (fun s E => ∃ j1 : Sl, E = [.val row, .val other, .val s, j1]) (by simp only [yy]; try rfl) ⟨.un, rfl⟩ (fun v s E p hE => ?_) (fun s p E hE => ?_)
  · skip
    revert s; intro found hE
    obtain ⟨j1, rfl⟩ := hE
    refine q_bN (E' := [.val row, .val other, .val found, .val v]) rfl ?_
    revert v; intro k
    refine q_last ?_
    refine q_if (by simp only [yy]; try rfl) (fun p => ?_) (fun p => ?_)
    · skip
      refine q_asgF (by simp only [yy]; try rfl) (fun found p => ?_)
      refine q_bN (E' := [.val row, .val other, .val found, .val k]) rfl ?_
      exact q_end (fun x hx => by cases hx; exact ⟨_, .inl rfl, (.val k), rfl⟩)
    · skip
      refine q_nil ?_
      exact q_end (fun x hx => by cases hx; exact ⟨_, .inl rfl, (.val k), rfl⟩)
  revert s; intro found hE
  obtain ⟨j1, rfl⟩ := hE
  refine q_last ?_
  exact q_retF (by simp only [yy]; try rfl) e_rF
theorem e__law_dot {row other : D} {v_ : D} {p : Option Pl} (h : f__law_dot row other none = some (v_, p)) : m__law_dot [row, other] = some v_ := u_F (n := 4) (b := b__law_dot) (ds := [row, other]) (r__law_dot row other none) h
def b__law_small_told : SM := sRetF [] (mCallP 0 m__law_pick (aCons (mFrz (mLstL (aCons (mTup (aCons (mOp dSub (mCallP 0 m__law_draw (aCons (mC (.int 9)) (aNil))) (mC (.int 4))) (aCons (mC (.int 1)) (aNil)))) (aCons (mTup (aCons (mOp dSub (mCallP 0 m__law_draw (aCons (mC (.int 5)) (aNil))) (mC (.int 2))) (aCons (mC (.int 1)) (aNil)))) (aCons (mCall m__law_ratio (aCons (mOp dSub (mCallP 0 m__law_draw (aCons (mC (.int 9)) (aNil))) (mC (.int 4))) (aCons (mOp dAdd (mC (.int 1)) (mCallP 0 m__law_draw (aCons (mC (.int 3)) (aNil)))) (aNil)))) (aNil)))))) (aNil)))
def m__law_small_told : Pl → List D → Option (D × Pl) := runP 1 b__law_small_told
def f__law_small_told (p : Option Pl) : Option (D × Option Pl) :=
  bd ((calP m__law_pick (ac (frzX (lstX (ac (tupX (ac (op2 dSub (calP m__law_draw (ac (kx (.int 9)) (an))) (kx (.int 4))) (ac (kx (.int 1)) (an)))) (ac (tupX (ac (op2 dSub (calP m__law_draw (ac (kx (.int 5)) (an))) (kx (.int 2))) (ac (kx (.int 1)) (an)))) (ac (cal m__law_ratio (ac (op2 dSub (calP m__law_draw (ac (kx (.int 9)) (an))) (kx (.int 4))) (ac (op2 dAdd (kx (.int 1)) (calP m__law_draw (ac (kx (.int 3)) (an)))) (an)))) (an)))))) (an))) p) fun v_ p => some (v_, p)
theorem r__law_small_told (p : Option Pl) : Rel Gf (b__law_small_told [.pool] p) (f__law_small_told  p) := by
  unfold b__law_small_told f__law_small_told
  refine q_last ?_
  exact q_retF (by simp only [yy]; try rfl) e_rF
theorem e__law_small_told {P P' : Pl} {v_ : D} (h : f__law_small_told  (some P) = some (v_, some P')) : m__law_small_told P [] = some (v_, P') := u_P (n := 1) (b := b__law_small_told) (ds := []) (r__law_small_told  (some P)) h

open Rw Bm
/-- a row by a vector: what is asked -/
structure Ter (w : Nat) (r x : Nat → Rat) : Prop where
  hr : ∀ j, j < w → Ok (r j)
  hx : ∀ j, j < w → Ok (x j)
  hp : ∃ N b, 0 < N ∧ N < 2 ^ 4000 ∧ b ≤ 3980 ∧ ∀ j, j < w → Bm.In N b (r j * x j)
theorem sg_inB {N B : Nat} (h0 : 0 < N) {f : Nat → Rat} : ∀ {n : Nat}, (∀ j, j < n → InB N B (f j)) → InB N (n * B + 1) (sg n f)
  | 0, _ => ⟨h0, 0, by show (0 : Rat) = _; rw [show ((0 : Int) : Rat) = 0 from rfl, Rat.div_def, Rat.zero_mul], by simp⟩
  | n + 1, h => by
    have := (sg_inB h0 (n := n) fun j hj => h j (by omega)).add (h n (by omega))
    exact this.mono (by rw [Nat.add_mul]; omega)
theorem sg_in {N b n : Nat} (h0 : 0 < N) (hn : n < 1024) {f : Nat → Rat} (h : ∀ j, j < n → Bm.In N b (f j)) : Bm.In N (b + 10) (sg n f) := by
  refine (sg_inB h0 h).mono ?_
  rw [Nat.pow_add]
  have : 0 < 2 ^ b := Nat.two_pow_pos b
  have h1 : n * 2 ^ b ≤ 1023 * 2 ^ b := Nat.mul_le_mul_right _ (by omega)
  show n * 2 ^ b + 1 ≤ 2 ^ b * 1024
  omega
theorem Ter.sm {w : Nat} {r x : Nat → Rat} (h : Ter w r x) (hw : w < 1024) {j : Nat} (hj : j ≤ w) : Ok (sg j fun j => r j * x j) := by
  obtain ⟨N, b, h0, h1, h2, h3⟩ := h.hp
  exact (sg_in h0 (by omega) (n := j) fun k hk => h3 k (by omega)).sm h1 (by omega)
theorem Ter.one {w : Nat} {r x : Nat → Rat} (h : Ter w r x) {j : Nat} (hj : j < w) : Ok (r j * x j) := by
  obtain ⟨N, b, h0, h1, h2, h3⟩ := h.hp
  exact (h3 j hj).sm h1 (by omega)
theorem sumR_range (g : Nat → Rat) : ∀ n, sumR 0 ((List.range n).map g) = sg n g
  | 0 => rfl
  | n + 1 => by
    rw [List.range_succ, List.map_append]
    unfold sumR
    rw [List.foldl_append]
    have := sumR_range g n
    unfold sumR at this
    rw [this]; rfl
theorem sg_fold (g : Nat → Rat) : ∀ n, (List.range n).foldl (fun s j => s + g j) 0 = sg n g
  | 0 => rfl
  | n + 1 => by rw [List.range_succ, List.foldl_append, sg_fold g n]; rfl
theorem oks_sg {f : Nat → Rat} : ∀ (n : Nat), (∀ j, j < n → Ok (f j)) → (∀ j, j ≤ n → Ok (sg j f)) → OkS 0 ((List.range n).map f) := by
  have key : ∀ (n k : Nat), (∀ j, j < n → Ok (f (k + j))) → (∀ j, j ≤ n → Ok (sg (k + j) f)) → OkS (sg k f) ((List.range' k n).map f) := by
    intro n
    induction n with
    | zero => intro k _ _; trivial
    | succ n ih =>
      intro k h1 h2
      rw [List.range'_succ, List.map_cons]
      have e : sg k f + f k = sg (k + 1) f := rfl
      refine ⟨h1 0 (by omega), ?_, ?_⟩
      · rw [e]; exact h2 1 (by omega)
      · rw [e]; exact ih (k + 1) (fun j hj => by rw [show k + 1 + j = k + (j + 1) by omega]; exact h1 _ (by omega)) (fun j hj => by rw [show k + 1 + j = k + (j + 1) by omega]; exact h2 _ (by omega))
  intro n h1 h2
  have := key n 0 (fun j hj => by rw [Nat.zero_add]; exact h1 j hj) (fun j hj => by rw [Nat.zero_add]; exact h2 j hj)
  rw [← List.range_eq_range'] at this
  exact this
theorem Ter.oks {w : Nat} {r x : Nat → Rat} (h : Ter w r x) (hw : w < 1024) : OkS 0 ((List.range w).map fun j => r j * x j) :=
  oks_sg w (fun j hj => h.one hj) (fun j hj => h.sm hw hj)
theorem dot_ok {w : Nat} {r x : Nat → Rat} (h : Ter w r x) (hw : w < 1024) : m_dot [.lst (rowL w r), .lst (rowL w x)] = some (rD (sg w fun j => r j * x j)) := by
  have sm := sum_okS _ (h.oks hw)
  rw [sumR_range, List.map_map] at sm
  have hz : zipI [.lst (rowL w r), .lst (rowL w x)] = some ((List.range w).map fun j => D.tup [rD (r j), rD (x j)]) := by
    unfold zipI
    simp only [x_itL, row_len, if_true]
    rw [zip_row]
  have lc := lc_map (E := wipeE (vw [] [.val (.lst (rowL w r)), .val (.lst (rowL w x)), .un, .un]) [2, 3]) (pl := none) (gTL 2 (gsC (gN 2) (gsC (gN 3) (gsN)))) (mCall m_times (aCons (mV 2) (aCons (mV 3) (aNil)))) (fun j => D.tup [rD (r j), rD (x j)]) (fun j => rD (r j * x j)) (List.range w) fun j hj => by
    have hj' := List.mem_range.mp hj
    have t := times_ok (h.hr j hj') (h.hx j hj')
    refine ⟨_, by rw [x_gTLt]; rfl, ?_⟩
    generalize rowL w r = R1 at *
    generalize rowL w x = R2 at *
    simp [t]
  have zl : sized w = true := x_sized (by omega)
  unfold m_dot b_dot
  simp only [x_runF, e0c, e0n, e00]
  rw [x_sRetF, x_mCall, x_aCons, x_mFrz, x_mLc, x_mRng, x_aCons]
  have e0 : mV 0 (vw [] [.val (.lst (rowL w r)), .val (.lst (rowL w x)), .un, .un]) none = some (.lst (rowL w r), none) := rfl
  have e1 : mV 1 (vw [] [.val (.lst (rowL w r)), .val (.lst (rowL w x)), .un, .un]) none = some (.lst (rowL w x), none) := rfl
  simp only [e0, Option.bind_some, x_aCons, e1, x_aNil, hz, Option.map_some, List.length_map, List.length_range, zl, x_bT]
  rw [lc]
  simp only [Option.bind_some]
  rw [show (List.range w).map (fun j => rD (r j * x j)) = (List.range w).map (rD ∘ fun j => r j * x j) from rfl, sm]
  rfl
theorem rangeN (n : Nat) : rangeD 0 n = (List.range n).map fun i : Nat => D.int (i : Nat) := by
  unfold rangeD
  refine List.map_congr_left fun i _ => ?_
  simp
theorem rng1N (n : Nat) (h : n < 2 ^ 59) : rng1 [.int (n : Nat)] = some ((List.range n).map fun i : Nat => D.int (i : Nat)) := by
  have r := x_rng1 (n : Nat) (by omega) (by omega)
  rw [Int.toNat_natCast, rangeN] at r
  exact r
theorem num0 (r : Rat) : (decide (r.num = 0)) = decide (r = 0) := by
  rw [decide_eq_decide]; exact Rat.num_eq_zero
theorem at_range {n j k : Nat} (hk : (List.range n)[j]? = some k) : j < n ∧ k = j := by
  rw [List.getElem?_eq_some_iff] at hk
  obtain ⟨h1, h2⟩ := hk
  rw [List.length_range] at h1
  rw [List.getElem_range] at h2
  exact ⟨h1, h2.symm⟩
theorem num_at (r : Rat) : dIx (rD r) (.int 0) = some (.int r.num) := by simp [rD]
theorem ldot_ok {w : Nat} {r x : Nat → Rat} (h : Ter w r x) (hw : w < 1024) : m__law_dot [.lst (rowL w r), .lst (rowL w x)] = some (rD (sg w fun j => r j * x j)) := by
  refine e__law_dot (p := none) ?_
  unfold f__law_dot
  refine bdn (rD 0) (by simp [tup01]) ?_
  refine bdn ((List.range w).map fun i : Nat => D.int (i : Nat)) (by simp [row_len, rng1N w (by omega)]) ?_
  refine bd_of (lpS_fold (fun i : Nat => D.int (i : Nat)) (fun s : Rat => rD s) (fun s j => s + r j * x j) none (fun j s => s = sg j fun j => r j * x j) (List.range w) 0 rfl (fun j k s hk hs => ?_)).1 (by rw [sg_fold]; simp)
  obtain ⟨hj, rfl⟩ := at_range hk
  subst hs
  refine ⟨?_, rfl⟩
  have t := _law_mul_ok (h.hr k hj) (h.hx k hj)
  have u := _law_add_ok (h.sm hw (Nat.le_of_lt hj)) (h.one hj)
  by_cases z1 : r k = 0
  · simp [row_at r hj, num_at, z1, Rat.zero_mul, Rat.add_zero]
  · by_cases z2 : x k = 0
    · simp [row_at r hj, row_at x hj, num_at, num0, z1, z2, Rat.mul_zero, Rat.add_zero]
    · simp [row_at r hj, row_at x hj, num_at, num0, z1, z2, t, u]
/-- a small number -/
abbrev Sml (r : Rat) : Prop := Bm.In 6 5 r
theorem small_q {z : Int} {q : Nat} (h : z.natAbs ≤ 4) (hq : 0 < q) (h3 : q ≤ 3) : Sml ((z : Rat) / ((q : Int) : Rat)) := by
  have : q = 1 ∨ q = 2 ∨ q = 3 := by omega
  rcases this with rfl | rfl | rfl
  · refine ⟨by decide, z * 6, ?_, by omega⟩
    rw [Rat.intCast_mul]; grind
  · refine ⟨by decide, z * 3, ?_, by omega⟩
    rw [Rat.intCast_mul]; grind
  · refine ⟨by decide, z * 2, ?_, by omega⟩
    rw [Rat.intCast_mul]; grind
theorem small_ok (P : Pl) : ∃ r P', m__law_small_told P [] = some (rD r, P') ∧ Sml r := by
  obtain ⟨v1, P1, d1, l1, u1⟩ := draw_ok P 9 (by decide) (by decide)
  obtain ⟨v2, P2, d2, l2, u2⟩ := draw_ok P1 5 (by decide) (by decide)
  obtain ⟨v3, P3, d3, l3, u3⟩ := draw_ok P2 9 (by decide) (by decide)
  obtain ⟨v4, P4, d4, l4, u4⟩ := draw_ok P3 3 (by decide) (by decide)
  have rt := ratio_ok (p := v3 - 4) (q := 1 + v4) (by omega) (Nat.lt_of_lt_of_le (show (1 + v4).natAbs < 2 ^ 2 by omega) (Nat.pow_le_pow_right (by decide) (by decide)))
  have e1 : ∀ z : Int, D.tup [.int z, .int 1] = rD ((z : Rat) / ((1 : Nat) : Int)) := fun z => by
    have : ((z : Rat) / (((1 : Nat) : Int) : Rat)) = (z : Rat) := by rw [show (((1 : Nat) : Int) : Rat) = 1 from rfl]; grind
    rw [this]; simp [rD]
  obtain ⟨d, P5, hp, hd⟩ := pick_ok P4 [rD (((v1 - 4 : Int) : Rat) / ((1 : Nat) : Int)), rD (((v2 - 2 : Int) : Rat) / ((1 : Nat) : Int)), rD (((v3 - 4 : Int) : Rat) / (((1 + v4).toNat : Nat) : Int))] (by simp) (by simp)
  have e4 : (((1 + v4).toNat : Nat) : Int) = 1 + v4 := by omega
  have : ∃ r, d = rD r ∧ Sml r := by
    simp only [List.mem_cons, List.not_mem_nil, or_false] at hd
    rcases hd with rfl | rfl | rfl
    · exact ⟨_, rfl, small_q (by omega) (by decide) (by decide)⟩
    · exact ⟨_, rfl, small_q (by omega) (by decide) (by decide)⟩
    · exact ⟨_, rfl, small_q (by omega) (by omega) (by omega)⟩
  obtain ⟨r, rfl, hs⟩ := this
  refine ⟨r, P5, e__law_small_told ?_, hs⟩
  unfold f__law_small_told
  rw [e4] at hp
  refine bd_of (a := rD r) (p := some P5) ?_ rfl
  have e2 := e1 (v1 - 4)
  have e3 := e1 (v2 - 2)
  clear e1 hd
  generalize (((v1 - 4 : Int) : Rat) / ((1 : Nat) : Int)) = q1 at *
  generalize (((v2 - 2 : Int) : Rat) / ((1 : Nat) : Int)) = q2 at *
  generalize (((v3 - 4 : Int) : Rat) / ((1 + v4 : Int) : Rat)) = q3 at *
  simp [d1, d2, d3, d4, rt, e2, e3, hp]
/-! ranks -/
theorem rank_solv {n W : Nat} {F G : Mat} (hFG : ∀ i, i < n → ∀ j, j < W → F i j = G i j) : (Solv n W G → (run n elow G (W + 1)).2.length = (run n elow F W).2.length) ∧ (¬ Solv n W G → (run n elow G (W + 1)).2.length = (run n elow F W).2.length + 1) := by
  have e1 := ech_run (good_elow n) F W
  have e2 := ech_run (good_elow n) G (W + 1)
  have hN : ∀ v, Null n W (run n elow F W).1 v ↔ Null n W G v := fun v => by
    rw [null_run (good_elow n)]
    constructor
    · intro h i hi
      rw [← h i hi]; exact sg_congr fun j hj => by rw [hFG i hi j hj]
    · intro h i hi
      rw [← h i hi]; exact sg_congr fun j hj => by rw [hFG i hi j hj]
  have w := ech_wide e1 hN e2 (fun v => null_run (good_elow n) G (W + 1) v (W + 1))
  exact ⟨fun h => by rw [w.1 h], fun h => by rw [w.2 h, List.length_append]; rfl⟩
theorem map_getD {α β : Type} (d : α) (f : α → β) : ∀ l : List α, (List.range l.length).map (fun i => f (l.getD i d)) = l.map f
  | [] => rfl
  | a :: l => by
    rw [List.length_cons, List.range_succ_eq_map, List.map_cons, List.map_map, List.map_cons, ← map_getD d f l]
    rfl
theorem zipIdx_getD {α : Type} (d : α) (l : List α) : l.zipIdx = (List.range l.length).map fun k => (l.getD k d, k) := by
  apply List.ext_getElem
  · simp
  · intro i h1 h2
    simp only [List.getElem_zipIdx, List.getElem_map, List.getElem_range, Nat.zero_add]
    have hi : i < l.length := by simpa using h1
    rw [show l.getD i d = l[i] by simp [List.getD, List.getElem?_eq_getElem hi]]
theorem getD_memα {α : Type} {d : α} {l : List α} {i : Nat} (h : i < l.length) : l.getD i d ∈ l := by
  have : l.getD i d = l[i] := by simp [List.getD, List.getElem?_eq_getElem h]
  rw [this]; exact List.getElem_mem h
/-! texts -/
abbrev plS (x : Str) : Bool := x.cps.all (· < 0x110000)
theorem str_eqD {a b : Str} (h : plS a = true) (g : plS b = true) : dEq (.str a) (.str b) = some (.bl (a == b)) := by
  unfold dEq
  simp only [fl_str, h, g, Bool.and_true, if_true, eqd]
theorem str_neD {a b : Str} (h : plS a = true) (g : plS b = true) : dNe (.str a) (.str b) = some (.bl (!(a == b))) := by
  unfold dNe
  simp only [fl_str, h, g, Bool.and_true, if_true, eqd]
/-! lists drawn -/
theorem list_fun {α : Type} [Inhabited α] {g : α → D} {P : α → Prop} : ∀ (vs : List D), (∀ v ∈ vs, ∃ r, v = g r ∧ P r) → ∃ f : Nat → α, vs = (List.range vs.length).map (fun j => g (f j)) ∧ ∀ j, j < vs.length → P (f j)
  | [], _ => ⟨fun _ => default, rfl, fun j h => by simp at h⟩
  | v :: vs, h => by
    obtain ⟨r, rfl, hr⟩ := h v List.mem_cons_self
    obtain ⟨f, e, hf⟩ := list_fun vs fun v hv => h v (List.mem_cons_of_mem _ hv)
    refine ⟨fun j => match j with | 0 => r | j + 1 => f j, ?_, fun j hj => ?_⟩
    · rw [List.length_cons, List.range_succ_eq_map, List.map_cons, List.map_map]
      congr 1
    · cases j with
      | zero => exact hr
      | succ j => exact hf j (by simpa using hj)
/-- a comprehension whose test draws -/
theorem lc_drawF {α : Type} {one : D → XM (Option D)} (f g : α → D) : ∀ (xs : List α) (P : Pl), (∀ x ∈ xs, ∀ P : Pl, ∃ b P', one (f x) (some P) = some (if b = true then some (g x) else none, some P')) → ∃ (ys : List α) (P' : Pl), lcR one (xs.map f) (some P) = some (ys.map g, some P') ∧ ys.Sublist xs
  | [], P, _ => ⟨[], P, rfl, .slnil⟩
  | x :: xs, P, h => by
    obtain ⟨b, P1, e1⟩ := h x List.mem_cons_self P
    obtain ⟨ys, P2, e2, hs⟩ := lc_drawF f g xs P1 fun x hx => h x (List.mem_cons_of_mem _ hx)
    rw [List.map_cons, n_lcRc, e1, Option.bind_some]
    cases b with
    | false => exact ⟨ys, P2, by simp only [Bool.false_eq_true, if_false]; exact e2, hs.cons x⟩
    | true => exact ⟨x :: ys, P2, by simp [e2], hs.cons₂ x⟩
/-- small numbers in a row -/
theorem smalls_ok {α : Type} (f : α → D) (xs : List α) (src : XM (List D)) (P P0 : Pl) (h : src (some P) = some (xs.map f, some P0)) (hl : xs.length ≤ 1000000) (one : D → XM (Option D)) (ho : ∀ (d : D) (P : Pl), one d (some P) = elX (calP m__law_small_told an) (some P)) : ∃ (z : Nat → Rat) (P' : Pl), lcB src one (some P) = some (rowL xs.length z, some P') ∧ ∀ j, j < xs.length → Sml (z j) := by
  obtain ⟨vs, P', e, l, q⟩ := lc_drawN (one := one) (fun d => ∃ r, d = rD r ∧ Sml r) (xs.map f) P0 fun d _ P => by
    obtain ⟨r, P', e, s⟩ := small_ok P
    exact ⟨rD r, P', by rw [ho]; simp [e], r, rfl, s⟩
  obtain ⟨z, ez, hz⟩ := list_fun vs q
  rw [List.length_map] at l
  rw [l] at ez hz
  refine ⟨z, P', ?_, hz⟩
  rw [n_lcB, h, Option.bind_some, List.length_map, x_sized hl, x_bT, e, ez]
end Lw
set_option Elab.async false
set_option linter.all false
set_option maxRecDepth 100000
set_option maxHeartbeats 1000000
/-! What rows lead to nought. -/
namespace Lw
open PySem PySem.Spec PyProof.Rows L2 Dn
def b_kernel : SM := sSeq (sAsgF [] (gTL 3 (gsC (gN 4) (gsC (gN 5) (gsC (gN 6) (gsN))))) (mCall m_reduced (aCons (mV 0) (aCons (mV 1) (aNil))))) (sSeq (sOwn [] 2 (mLstL (aNil))) (sSeq (sFor [] (gN 3) (mRng rng1 (aCons (mV 1) (aNil))) (sIf (mTst (mOp dNotIn (mV 3) (mV 5))) (sSeq (sOwn [] 7 (mOpL repL (mFrz (mLstL (aCons (mC c_NOUGHT) (aNil)))) (mV 1))) (sSeq (sSetS 7 (mV 3) (mC c_UNIT)) (sSeq (sFor [] (gTL 2 (gsC (gN 8) (gsC (gN 9) (gsN)))) (mRng zipF (aCons (mV 4) (aCons (mV 5) (aNil)))) (sSetS 7 (mV 9) (mCall m_minus (aCons (mC c_NOUGHT) (aCons (mOp dIx (mV 8) (mV 3)) (aNil)))))) (sAppF [7] 2 (mV 7))))) (sNil))) (sRetO 2)))
def m_kernel : List D → Option (List D) := runL 10 b_kernel
def f_kernel (rows width : D) (p : Option Pl) : Option (List D × Option Pl) :=
  bd ((cal m_reduced (ac (kx rows) (ac (kx width) (an)))) p) fun v p =>
  un3 v fun left' leads u =>
  bd ((lstX (an)) p) fun found p =>
  bd ((cal rng1 (ac (kx width) (an))) p) fun ds p =>
  bd (lpS (σ := List D) (fun free found p => ifX ((op1 blD (op2 dNotIn (kx free) (kx leads))) p)
    (fun p => bd ((op2 repL (frzX (lstX (ac (kx c_NOUGHT) (an)))) (kx width)) p) fun row p =>
      bd ((kx c_UNIT) p) fun v_ p => bd ((kx free) p) fun k_ p => intU k_ fun k_ => atU (ixN (List.length row) k_) fun j_ => gd (noL v_) <| wth (List.set row j_ v_) p fun row p =>
      bd ((cal zipF (ac (kx left') (ac (kx leads) (an)))) p) fun ds p =>
      bd (lpS (σ := List D) (fun v row p => un2 v fun told at' =>
        bd ((cal m_minus (ac (kx c_NOUGHT) (ac (op2 dIx (kx told) (kx free)) (an)))) p) fun v_ p => bd ((kx at') p) fun k_ p => intU k_ fun k_ => atU (ixN (List.length row) k_) fun j_ => gd (noL v_) <| wth (List.set row j_ v_) p fun row p =>
        some (row, p)) ds row p) fun row p =>
      bd ((kx (.lst row)) p) fun v_ p => gd (sized (List.length found)) <| wth (found ++ [v_]) p fun found p =>
      some (found, p))
    (fun p => some (found, p))) ds found p) fun found p =>
  some (found, p)
theorem r_kernel (rows width : D) (p : Option Pl) : Rel Gl (b_kernel [.val rows, .val width, .un, .un, .un, .un, .un, .un, .un, .un] p) (f_kernel rows width p) := by
  unfold b_kernel f_kernel
  refine q_asgF (by simp only [yy]; try rfl) (fun v p => ?_)
  refine q_b3 (fun left' leads u => ?_)
  refine q_bN (E' := [.val rows, .val width, .un, .un, .val left', .un, .un, .un, .un, .un]) rfl ?_
  refine q_bN (E' := [.val rows, .val width, .un, .un, .val left', .val leads, .un, .un, .un, .un]) rfl ?_
  refine q_bN (E' := [.val rows, .val width, .un, .un, .val left', .val leads, .val u, .un, .un, .un]) rfl ?_
  refine q_own (E' := fun found => [.val rows, .val width, .own found, .un, .val left', .val leads, .val u, .un, .un, .un]) (by simp only [yy]; try rfl) (fun _ => rfl) (fun found p => ?_)
  refine q_for (σ := List D) (fun s E => ∃ j1 j2 j3 j4 : Sl, E = [.val rows, .val width, .own s, j1, .val left', .val leads, .val u, j2, j3, j4]) (by simp only [yy]; try rfl) ⟨.un, .un, .un, .un, rfl⟩ (fun v s E p hE => ?_) (fun s p E hE => ?_)
  · skip
    revert s; intro found hE
    obtain ⟨j1, j2, j3, j4, rfl⟩ := hE
    refine q_bN (E' := [.val rows, .val width, .own found, .val v, .val left', .val leads, .val u, j2, j3, j4]) rfl ?_
    revert v; intro free
    refine q_last ?_
    refine q_if (by simp only [yy]; try rfl) (fun p => ?_) (fun p => ?_)
    · skip
      refine q_assoc ?_
      refine q_own (E' := fun row => [.val rows, .val width, .own found, .val free, .val left', .val leads, .val u, .own row, j3, j4]) (by simp only [yy]; try rfl) (fun _ => rfl) (fun row p => ?_)
      refine q_assoc ?_
      refine q_setS (E' := fun row => [.val rows, .val width, .own found, .val free, .val left', .val leads, .val u, .own row, j3, j4]) (by simp only [yy]; try rfl) (by simp only [yy]; try rfl) rfl (fun _ => rfl) (fun row p => ?_)
      refine q_assoc ?_
      refine q_for (σ := List D) (fun s E => ∃ j5 j6 : Sl, E = [.val rows, .val width, .own found, .val free, .val left', .val leads, .val u, .own s, j5, j6]) (by simp only [yy]; try rfl) ⟨j3, j4, rfl⟩ (fun v s E p hE => ?_) (fun s p E hE => ?_)
      · skip
        revert s; intro row hE
        obtain ⟨j5, j6, rfl⟩ := hE
        refine q_b2 (fun told at' => ?_)
        refine q_bN (E' := [.val rows, .val width, .own found, .val free, .val left', .val leads, .val u, .own row, .val told, j6]) rfl ?_
        refine q_bN (E' := [.val rows, .val width, .own found, .val free, .val left', .val leads, .val u, .own row, .val told, .val at']) rfl ?_
        refine q_last ?_
        refine q_setS (E' := fun row => [.val rows, .val width, .own found, .val free, .val left', .val leads, .val u, .own row, .val told, .val at']) (by simp only [yy]; try rfl) (by simp only [yy]; try rfl) rfl (fun _ => rfl) (fun row p => ?_)
        exact q_end (fun x hx => by cases hx; exact ⟨_, .inl rfl, (.val told), (.val at'), rfl⟩)
      revert s; intro row hE
      obtain ⟨j5, j6, rfl⟩ := hE
      refine q_appF (E' := fun found => [.val rows, .val width, .own found, .val free, .val left', .val leads, .val u, .val (.lst row), j5, j6]) (by simp only [yy]; try rfl) rfl (fun _ => rfl) (fun found p => ?_)
      exact q_end (fun x hx => by cases hx; exact ⟨_, .inl rfl, (.val free), (.val (.lst row)), j5, j6, rfl⟩)
    · skip
      refine q_nil ?_
      exact q_end (fun x hx => by cases hx; exact ⟨_, .inl rfl, (.val free), j2, j3, j4, rfl⟩)
  revert s; intro found hE
  obtain ⟨j1, j2, j3, j4, rfl⟩ := hE
  refine q_last ?_
  exact q_retO (f := fun v_ p => some (v_, p)) rfl e_rL
theorem e_kernel {rows width : D} {v_ : List D} {p : Option Pl} (h : f_kernel rows width none = some (v_, p)) : m_kernel [rows, width] = some v_ := u_L (n := 10) (b := b_kernel) (ds := [rows, width]) (r_kernel rows width none) h

open Rw Bm
/-- the vector of a free place -/
def kv (A : Mat) (L : List Nat) (c : Nat) : Nat → Rat := fun j => (List.range L.length).foldl (fun r i => if j = L.getD i 0 then 0 - A i c else r) (if j = c then 1 else 0)
theorem kv_fold (A : Mat) (L : List Nat) (c : Nat) : ∀ (is : List Nat) (r : Nat → Rat) (j : Nat), (is.foldl (fun r i => fun j => if j = L.getD i 0 then 0 - A i c else r j) r) j = is.foldl (fun r i => if j = L.getD i 0 then 0 - A i c else r) (r j)
  | [], _, _ => rfl
  | i :: is, r, j => by rw [List.foldl_cons, List.foldl_cons, kv_fold A L c is]
theorem fold_none {A : Mat} {L : List Nat} {c j : Nat} : ∀ (is : List Nat) (x : Rat), (∀ i ∈ is, j ≠ L.getD i 0) → is.foldl (fun r i => if j = L.getD i 0 then 0 - A i c else r) x = x
  | [], _, _ => rfl
  | i :: is, x, h => by
    rw [List.foldl_cons, if_neg (h i List.mem_cons_self)]
    exact fold_none is x fun k hk => h k (List.mem_cons_of_mem _ hk)
theorem getD_some {L : List Nat} {i : Nat} (h : i < L.length) : L[i]? = some (L.getD i 0) := by
  rw [List.getElem?_eq_getElem h]; simp [List.getD, List.getElem?_eq_getElem h]
theorem kv_other {A : Mat} {L : List Nat} {c j : Nat} (hj : j ∉ L) (hc : j ≠ c) : kv A L c j = 0 := by
  unfold kv
  rw [if_neg hc]
  refine fold_none _ _ fun i hi => ?_
  intro e
  exact hj (e ▸ getD_memα (List.mem_range.mp hi))
theorem kv_free {A : Mat} {L : List Nat} {c : Nat} (hj : c ∉ L) : kv A L c c = 1 := by
  unfold kv
  rw [if_pos rfl]
  refine fold_none _ _ fun i hi => ?_
  intro e
  exact hj (e ▸ getD_memα (List.mem_range.mp hi))
theorem kv_lead {A : Mat} {L : List Nat} {c i : Nat} (hL : L.Pairwise (· < ·)) (hi : i < L.length) : kv A L c (L.getD i 0) = 0 - A i c := by
  unfold kv
  generalize (if L.getD i 0 = c then (1 : Rat) else 0) = x0
  have key : ∀ m, i < m → m ≤ L.length → (List.range m).foldl (fun r k => if L.getD i 0 = L.getD k 0 then 0 - A k c else r) x0 = 0 - A i c := by
    intro m
    induction m with
    | zero => intro h; omega
    | succ m ih =>
      intro h1 h2
      rw [List.range_succ, List.foldl_append, List.foldl_cons, List.foldl_nil]
      by_cases e : i = m
      · subst e; rw [if_pos rfl]
      · rw [if_neg, ih (by omega) (by omega)]
        intro q
        have a1 := getD_some hi
        have a2 := getD_some (L := L) (i := m) (by omega)
        have := List.pairwise_iff_getElem.mp hL i m hi (by omega) (by omega)
        rw [List.getElem?_eq_getElem hi] at a1
        rw [List.getElem?_eq_getElem (by omega)] at a2
        have b1 := Option.some.inj a1
        have b2 := Option.some.inj a2
        omega
  exact key L.length hi (Nat.le_refl _)
theorem kv_null {n w V : Nat} {A : Mat} {L : List Nat} (E : Ech n w A L) (R : Rref n A L) (hV : V = w) {c : Nat} (hc : c < w) (hn : c ∉ L) : Null n V A (kv A L c) := by
  subst hV
  intro i hi
  rcases Nat.lt_or_ge i L.length with z | z
  · have e' := getD_some z
    obtain ⟨r1, r2⟩ := R i _ e'
    have hl : L.getD i 0 ∈ L := getD_memα z
    have cw := E.bnd _ hl
    have ne : c ≠ L.getD i 0 := fun q => hn (q ▸ hl)
    have key : ∀ m, (sg m fun j => A i j * kv A L c j) = (if L.getD i 0 < m then 0 - A i c else 0) + (if c < m then A i c else 0) := by
      intro m
      induction m with
      | zero => show (0 : Rat) = _; rw [if_neg (by omega), if_neg (by omega), Rat.add_zero]
      | succ m ih =>
        simp only [sg]
        rw [ih]
        by_cases h1 : m = L.getD i 0
        · rw [h1, r1, kv_lead E.ris z]
          rw [if_neg (Nat.lt_irrefl _), if_pos (Nat.lt_succ_self _)]
          by_cases h2 : c < L.getD i 0
          · rw [if_pos h2, if_pos (by omega)]; grind
          · rw [if_neg h2, if_neg (by omega)]; grind
        · by_cases h2 : m = c
          · subst h2
            rw [kv_free hn, if_neg (Nat.lt_irrefl _), if_pos (Nat.lt_succ_self _)]
            by_cases h3 : L.getD i 0 < m
            · rw [if_pos h3, if_pos (by omega)]; grind
            · rw [if_neg h3, if_neg (by omega)]; grind
          · have e3 : A i m * kv A L c m = 0 := by
              by_cases h3 : m ∈ L
              · obtain ⟨k, hk, e4⟩ := List.mem_iff_getElem.mp h3
                have e5 : L[k]? = some m := by rw [List.getElem?_eq_getElem hk, e4]
                have : i ≠ k := fun q => by subst q; rw [e'] at e5; exact h1 (Option.some.inj e5).symm
                rw [(R k m e5).2 i hi this]; grind
              · rw [kv_other h3 h2]; grind
            rw [e3]
            have q1 : (L.getD i 0 < m + 1) = (L.getD i 0 < m) := propext (by omega)
            have q2 : (c < m + 1) = (c < m) := propext (by omega)
            simp only [q1, q2]; grind
    rw [show dt V (A i) (kv A L c) = sg V fun j => A i j * kv A L c j from rfl, key, if_pos cw, if_pos hc]; grind
  · exact sg_zero fun j hj => by rw [E.rest i z hi j hj]; grind
theorem dIn_ints (c : Nat) (L : List Nat) : dIn (.int (c : Nat)) (.lst (ldL L)) = some (.bl (decide (c ∈ L))) ∧ dNotIn (.int (c : Nat)) (.lst (ldL L)) = some (.bl (!decide (c ∈ L))) := by
  have h1 : (ldL L).all (fl 20) = true := by
    rw [List.all_eq_true]
    intro d hd
    obtain ⟨x, _, rfl⟩ := List.mem_map.mp hd
    rw [fl_int]
  have h2 : ((ldL L).any fun z => eqd z (.int (c : Nat))) = decide (c ∈ L) := by
    rw [Bool.eq_iff_iff, List.any_eq_true, decide_eq_true_eq]
    constructor
    · rintro ⟨d, hd, e⟩
      obtain ⟨x, hx, rfl⟩ := List.mem_map.mp hd
      simp only [eqd, beq_iff_eq] at e
      have : x = c := by omega
      exact this ▸ hx
    · intro h
      exact ⟨_, List.mem_map.mpr ⟨c, h, rfl⟩, by simp [eqd]⟩
  unfold dIn dNotIn
  simp only [fl_int, h1, h2, Bool.and_self, if_true]
  exact ⟨trivial, trivial⟩
theorem fold_filter {α β : Type} (t : α → Bool) (f : α → β) : ∀ (xs : List α) (s : List β), xs.foldl (fun s x => if t x = true then s ++ [f x] else s) s = s ++ (xs.filter t).map f
  | [], s => by simp
  | x :: xs, s => by
    rw [List.foldl_cons, fold_filter t f xs]
    cases h : t x <;> simp [h]
theorem ixN_nat {n j : Nat} (h : j < n) : ixN n (j : Int) = some j := by
  unfold ixN
  rw [if_pos (by omega), if_pos (by omega)]; rfl
theorem ech_len {n w : Nat} {A : Mat} {L : List Nat} (E : Ech n w A L) : L.length ≤ w := by
  have := nodup_le L (List.range w) (E.ris.imp fun h => by omega) fun x hx => List.mem_range.mpr (E.bnd x hx)
  rw [List.length_range] at this
  exact this
theorem kernel_ok {n w a : Nat} (F : Mat) (hn : n ≤ 400) (hW : w ≤ 400) (hA : Cd n (w + n) a (aug w F)) (ha : ∀ t, t < n → t < w → 3 * gr t a + 3 ≤ 4000) :
    m_kernel [.lst (matL n w F), .int (w : Nat)] = some (((List.range w).filter fun c => !decide (c ∈ (run n elim (aug w F) w).2)).map fun c => rowD w (kv (run n elim (aug w F) w).1 (run n elim (aug w F) w).2 c)) := by
  have red := reduced_ok (wd := w) F (W := w) (by omega) (by omega) (by omega) hA ha
  have E := ech_run (good_elim n) (aug w F) w
  have cd := cd_run (good_elim n) (sized_elim n (w + n)) hA w (by omega)
  have hg : 0 < (run n elim (aug w F) w).2.length → gr (run n elim (aug w F) w).2.length a + 1 ≤ 4000 := fun h0 => by
    have h1 := E.few
    have h2 := ech_len E
    generalize (run n elim (aug w F) w).2.length = m at *
    obtain ⟨t, rfl⟩ : ∃ t, m = t + 1 := ⟨m - 1, by omega⟩
    have := ha t (by omega) (by omega)
    show 2 * gr t a + 1 + 1 ≤ 4000
    omega
  generalize run n elim (aug w F) w = r at *
  obtain ⟨A, L⟩ := r
  dsimp only at *
  have hLn := E.few
  refine e_kernel (p := none) ?_
  unfold f_kernel
  refine bdn _ (cal2 rfl rfl red) ?_
  simp only [n_un3t]
  refine bdn [] (by simp) ?_
  refine bdn ((List.range w).map fun i : Nat => D.int (i : Nat)) (by simp [rng1N w (by omega)]) ?_
  refine bd_of (lpS_fold (fun i : Nat => D.int (i : Nat)) (fun s : List D => s) (fun s c => if (!decide (c ∈ L)) = true then s ++ [rowD w (kv A L c)] else s) none (fun j s => s.length ≤ j) (List.range w) [] (by simp) (fun j c s hk hs => ?_)).1 (by rw [fold_filter]; rfl)
  obtain ⟨hc, rfl⟩ := at_range hk
  have din := (dIn_ints c L).2
  by_cases hm : c ∈ L
  · have e1 : decide (c ∈ L) = true := decide_eq_true hm
    rw [e1] at din
    refine ⟨?_, by rw [e1]; simp; omega⟩
    rw [e1]
    exact if_f (p := none) (op1_ok (op2_ok rfl rfl din) rfl) rfl
  · have e1 : decide (c ∈ L) = false := decide_eq_false hm
    rw [e1] at din
    refine ⟨?_, by rw [e1]; simp; omega⟩
    rw [e1]
    refine if_t (p := none) (op1_ok (op2_ok rfl rfl din) rfl) ?_
    have rl := rep_row w
    refine bdn (rowL w fun _ => 0) ?_ ?_
    · have : repL (.lst [rD 0]) (.int (w : Nat)) = some (rowL w fun _ => 0) := by
        unfold repL
        dsimp only
        rw [Int.toNat_natCast, rl, if_pos]
        simp only [Bool.and_eq_true, decide_eq_true_eq]
        exact ⟨by rw [Int.natAbs_natCast]; omega, x_sized (by simp; omega)⟩
      exact op2_ok (frz_ok (lst1 (by rw [nought]; rfl))) rfl this
    refine bdn (rD 1) rfl ?_
    refine bdn (.int (c : Nat)) rfl ?_
    rw [n_intU, row_len, ixN_nat hc, n_atU]
    refine gd_of (by simp [rD]) ?_
    rw [n_wth, row_set]
    have hz : zipF [.lst (matL n w A), .lst (ldL L)] = some ((List.range L.length).map fun i => D.tup [rowD w (A i), .int ((L.getD i 0 : Nat) : Int)]) := by
      unfold zipF matL
      dsimp only
      rw [ldL_range, zipD_range n _ _ L.length hLn]
    refine bdn _ (cal2 rfl rfl hz) ?_
    refine bd_of (lpS_fold (fun i : Nat => D.tup [rowD w (A i), .int ((L.getD i 0 : Nat) : Int)]) (fun r : Nat → Rat => rowL w r) (fun r i => fun j => if j = L.getD i 0 then 0 - A i c else r j) none (fun _ _ => True) (List.range L.length) (fun j => if j = c then 1 else 0) trivial (fun j i r hk _ => ?_)).1 ?_
    · obtain ⟨hi, rfl⟩ := at_range hk
      refine ⟨?_, trivial⟩
      have cw := E.bnd _ (getD_memα (d := 0) hi)
      have hA' : Ok (A i c) := (cd.sm (show i < n by omega) (show c < w + n by omega)).mono (by have := hg (by omega); omega)
      have m := minus_ok (Sm.zero (n := 4000) (by decide)) hA'
      have at' := row_at (A i) hc
      simp only [n_un2t]
      refine bdn (rD (0 - A i c)) ?_ ?_
      · unfold rowD
        generalize rowL w (A i) = R at *
        simp [nought, at', m]
      · refine bdn (.int ((L.getD i 0 : Nat) : Int)) rfl ?_
        rw [n_intU, row_len, ixN_nat cw, n_atU]
        refine gd_of (by simp [rD]) ?_
        rw [n_wth, row_set]
    · refine bdn (rowD w (kv A L c)) ?_ ?_
      · have : rowL w ((List.range L.length).foldl (fun r i => fun j => if j = L.getD i 0 then 0 - A i c else r j) fun j => if j = c then 1 else 0) = rowL w (kv A L c) := row_congr fun j _ => by
          rw [kv_fold]; rfl
        rw [this]; rfl
      · refine gd_of (x_sized (by omega)) ?_
        rfl
end Lw
set_option Elab.async false
set_option linter.all false
set_option maxRecDepth 100000
set_option maxHeartbeats 4000000
namespace Lw
open PySem PySem.Spec PyProof.Rows L2 Dn
def b_reduced_to : SM := sSeq (sAsgF [] (gN 2) (mFrz (mLc [10] (mRng rng1 (aCons (mCall gLen (aCons (mV 0) (aNil))) (aNil))) (gN 10) (mTst (mOp dNotIn (mV 10) (mV 1))) (mV 10)))) (sSeq (sOwn [] 3 (mLstL (aNil))) (sSeq (sFor [] (gN 4) (mIt itD (mV 1)) (sSeq (sAsgF [] (gN 5) (mFrz (mLc [10] (mIt itD (mV 2)) (gN 10) (tYesM) (mCall m_minus (aCons (mC c_NOUGHT) (aCons (mOp dIx (mOp dIx (mV 0) (mV 10)) (mV 4)) (aNil))))))) (sSeq (sAsgF [] (gN 6) (mFrz (mLc [10] (mIt itD (mV 2)) (gN 10) (tYesM) (mFrz (mLc [13] (mIt itD (mV 2)) (gN 13) (tYesM) (mOp dIx (mOp dIx (mV 0) (mV 10)) (mV 13))))))) (sSeq (sIf (mTru (mFrz (mCallL m_kernel (aCons (mV 6) (aCons (mCall gLen (aCons (mV 2) (aNil))) (aNil)))))) (sRetF [] (mC .non)) (sNil)) (sSeq (sAsgF [] (gN 7) (mOp dIx (mCall m_solved (aCons (mV 6) (aCons (mV 5) (aCons (mCall gLen (aCons (mV 2) (aNil))) (aNil))))) (mC (.int 1)))) (sSeq (sOwn [] 8 (mLstL (aNil))) (sSeq (sFor [] (gN 9) (mIt itD (mV 1)) (sSeq (sAsgF [] (gN 11) (mFrz (mLc [13, 14] (mRng zipI (aCons (mV 2) (aCons (mV 7) (aNil)))) (gTL 2 (gsC (gN 13) (gsC (gN 14) (gsN)))) (tYesM) (mCall m_times (aCons (mOp dIx (mOp dIx (mV 0) (mV 9)) (mV 13)) (aCons (mV 14) (aNil))))))) (sAppF [] 8 (mCall m_plus (aCons (mOp dIx (mOp dIx (mV 0) (mV 9)) (mV 4)) (aCons (mCall m_sum_of (aCons (mV 11) (aNil))) (aNil))))))) (sAppF [8] 3 (mV 8))))))))) (sRetF [3] (mFrz (mLc [10] (mRng rng1 (aCons (mCall gLen (aCons (mV 1) (aNil))) (aNil))) (gN 10) (tYesM) (mFrz (mLc [12] (mRng rng1 (aCons (mCall gLen (aCons (mV 1) (aNil))) (aNil))) (gN 12) (tYesM) (mOp dIx (mOp dIx (mV 3) (mV 12)) (mV 10)))))))))
def m_reduced_to : List D → Option D := runF 15 b_reduced_to
def b__law_solved : SM := sSeq (sOwn [] 2 (mLc [5] (mRng rng1 (aCons (mCall gLen (aCons (mV 0) (aNil))) (aNil))) (gN 5) (tYesM) (mOp dAdd (mFrz (mCallL gList (aCons (mOp dIx (mV 0) (mV 5)) (aNil)))) (mFrz (mLstL (aCons (mOp dIx (mV 1) (mV 5)) (aNil))))))) (sSeq (sFor [] (gN 3) (mRng rng1 (aCons (mCall gLen (aCons (mV 0) (aNil))) (aNil))) (sSeq (sAsgS (gN 4) (mOp dIx (mFrz (mLc [5] (mRng rng2 (aCons (mV 3) (aCons (mCall gLen (aCons (mV 2) (aNil))) (aNil)))) (gN 5) (mTst (mOp dNe (mOp dIx (mOp dIx (mOp dIx (mV 2) (mV 5)) (mV 3)) (mC (.int 0))) (mC (.int 0)))) (mV 5))) (mC (.int 0)))) (sSeq (sSwp 2 (mV 3) (mV 4) (mV 4) (mV 3)) (sSeq (sSetLS 2 (mV 3) (mLc [7] (mIt itD (mOp dIx (mV 2) (mV 3))) (gN 7) (tYesM) (mCall m__law_div (aCons (mV 7) (aCons (mOp dIx (mOp dIx (mV 2) (mV 3)) (mV 3)) (aNil)))))) (sForS (gN 5) (mRng rng1 (aCons (mCall gLen (aCons (mV 2) (aNil))) (aNil))) (sIf (mTst (mOp dNe (mV 5) (mV 3))) (sSeq (sAsgS (gN 8) (mOp dIx (mOp dIx (mV 2) (mV 5)) (mV 3))) (sSetLS 2 (mV 5) (mLc [9] (mRng rng1 (aCons (mCall gLen (aCons (mOp dIx (mV 2) (mV 5)) (aNil))) (aNil))) (gN 9) (tYesM) (mCall m__law_sub (aCons (mOp dIx (mOp dIx (mV 2) (mV 5)) (mV 9)) (aCons (mCall m__law_mul (aCons (mV 8) (aCons (mOp dIx (mOp dIx (mV 2) (mV 3)) (mV 9)) (aNil)))) (aNil))))))) (sNil))))))) (sRetL [2] (mLc [6] (mIt itD (mV 2)) (gN 6) (tYesM) (mOp dIx (mV 6) (mUn dNeg (mC (.int 1)))))))
def m__law_solved : List D → Option (List D) := runL 10 b__law_solved
def b__law_turned_table : SM := sSeq (sAsgF [] (gN 1) (mOp dAdd (mC (.int 1)) (mCallP 0 m__law_draw (aCons (mC (.int 5)) (aNil))))) (sSeq (sAsgF [] (gN 2) (mFrz (mLc [3] (mRng rng1 (aCons (mV 1) (aNil))) (gN 3) (tYesM) (mFrz (mLc [5] (mRng rng1 (aCons (mV 1) (aNil))) (gN 5) (tYesM) (mCallP 0 m__law_small_told (aNil))))))) (sSeq (sIf (mTst (mOp dEq (mCallP 0 m__law_draw (aCons (mC (.int 2)) (aNil))) (mC (.int 0)))) (sRetL [] (mLc [4] (mRng rng1 (aCons (mV 1) (aNil))) (gN 4) (tYesM) (mFrz (mLc [5] (mRng rng1 (aCons (mV 1) (aNil))) (gN 5) (tYesM) (mCall m__law_add (aCons (mOp dIx (mOp dIx (mV 2) (mV 4)) (mV 5)) (aCons (mOp dIx (mOp dIx (mV 2) (mV 5)) (mV 4)) (aNil)))))))) (sNil)) (sRetL [] (mLc [4] (mRng rng1 (aCons (mV 1) (aNil))) (gN 4) (tYesM) (mFrz (mLc [5] (mRng rng1 (aCons (mV 1) (aNil))) (gN 5) (tYesM) (mCall m__law_dot (aCons (mOp dIx (mV 2) (mV 4)) (aCons (mOp dIx (mV 2) (mV 5)) (aNil))))))))))
def m__law_turned_table : Pl → List D → Option (List D × Pl) := runPL 6 b__law_turned_table
def b_law : SM := sSeq (sPnew 1 (mCallL m__law_pool (aCons (mV 0) (aNil)))) (sSeq (sFor [] (gN 2) (mRng rng1 (aCons (mC (.int 3)) (aNil))) (sSeq (sDrop (mCallP 1 m__law_next (aNil))) (sSeq (sAsgF [] (gN 3) (mFrz (mCallPL 1 m__law_turned_table (aNil)))) (sSeq (sAsgF [] (gN 4) (mFrz (mLc [10] (mRng rng1 (aCons (mCall gLen (aCons (mV 3) (aNil))) (aNil))) (gN 10) (mTst (mOp dEq (mCallP 1 m__law_draw (aCons (mC (.int 2)) (aNil))) (mC (.int 0)))) (mV 10)))) (sSeq (sAsgF [] (gN 4) (mIte (mTst (mOp dGt (mCall gLen (aCons (mV 4) (aNil))) (mC (.int 0)))) (mV 4) (mFrz (mLstL (aCons (mC (.int 0)) (aNil)))))) (sSeq (sAsgF [] (gN 5) (mFrz (mLc [10] (mRng rng1 (aCons (mCall gLen (aCons (mV 3) (aNil))) (aNil))) (gN 10) (mTst (mOp dNotIn (mV 10) (mV 4))) (mV 10)))) (sSeq (sAsgF [] (gN 6) (mFrz (mLc [16] (mIt itD (mV 5)) (gN 16) (tYesM) (mFrz (mLc [18] (mIt itD (mV 5)) (gN 18) (tYesM) (mOp dIx (mOp dIx (mV 3) (mV 16)) (mV 18))))))) (sSeq (sAsgF [] (gN 7) (mCall m_reduced_to (aCons (mFrz (mLc [19] (mIt itD (mV 3)) (gN 19) (tYesM) (mFrz (mCallL gList (aCons (mV 19) (aNil)))))) (aCons (mFrz (mCallL gList (aCons (mV 4) (aNil)))) (aNil))))) (sSeq (sIf (mTst (mOp dNe (mOp dIs (mV 7) (mC .non)) (mOp dLt (mCall m__law_rank (aCons (mV 6) (aNil))) (mCall gLen (aCons (mV 5) (aNil)))))) (sRetF [] (mC (.bl false))) (sNil)) (sSeq (sIf (mTst (mOp dIs (mV 7) (mC .non))) (sCnt) (sNil)) (sSeq (sAsgF [] (gN 8) (mFrz (mLc [10] (mIt itD (mV 4)) (gN 10) (tYesM) (mCallP 1 m__law_small_told (aNil))))) (sSeq (sOwn [] 9 (mLstL (aNil))) (sSeq (sFor [] (gN 10) (mIt itD (mV 5)) (sAppF [] 9 (mCall m__law_sub (aCons (mTup (aCons (mC (.int 0)) (aCons (mC (.int 1)) (aNil)))) (aCons (mCall m__law_dot (aCons (mFrz (mLc [18] (mIt itD (mV 4)) (gN 18) (tYesM) (mOp dIx (mOp dIx (mV 3) (mV 10)) (mV 18)))) (aCons (mV 8) (aNil)))) (aNil)))))) (sSeq (sAsgLS 11 (mCallL m__law_solved (aCons (mV 6) (aCons (mV 9) (aNil))))) (sSeq (sFor [] (gN 12) (mRng rng1 (aCons (mCall gLen (aCons (mV 4) (aNil))) (aNil))) (sSeq (sAsgF [] (gN 13) (mCall m__law_add (aCons (mCall m__law_dot (aCons (mFrz (mLc [18] (mIt itD (mV 4)) (gN 18) (tYesM) (mOp dIx (mOp dIx (mV 3) (mOp dIx (mV 4) (mV 12))) (mV 18)))) (aCons (mV 8) (aNil)))) (aCons (mCall m__law_dot (aCons (mFrz (mLc [18] (mIt itD (mV 5)) (gN 18) (tYesM) (mOp dIx (mOp dIx (mV 3) (mOp dIx (mV 4) (mV 12))) (mV 18)))) (aCons (mV 11) (aNil)))) (aNil))))) (sIf (mTst (mOp dNe (mCall m__law_dot (aCons (mOp dIx (mV 7) (mV 12)) (aCons (mV 8) (aNil)))) (mV 13))) (sRetF [] (mC (.bl false))) (sNil)))) (sSeq (sIf (mTst (mOp dGt (mCall gLen (aCons (mFrz (mLc [12] (mRng rng1 (aCons (mCall gLen (aCons (mV 4) (aNil))) (aNil))) (gN 12) (mTst (mOp dNe (mFrz (mLc [19] (mIt itD (mV 7)) (gN 19) (tYesM) (mOp dIx (mV 19) (mV 12)))) (mOp dIx (mV 7) (mV 12)))) (mV 12))) (aNil))) (mC (.int 0)))) (sRetF [] (mC (.bl false))) (sNil)) (sIf (mTst (mOp dGt (mCall gLen (aCons (mV 5) (aNil))) (mC (.int 1)))) (sSeq (sAsgF [] (gN 14) (mFrz (mLc [10] (mRng rng1 (aCons (mCall gLen (aCons (mV 3) (aNil))) (aNil))) (gN 10) (mTst (mOp dNe (mV 10) (mOp dIx (mV 5) (mC (.int 0))))) (mV 10)))) (sSeq (sAsgF [] (gN 15) (mCall m_reduced_to (aCons (mFrz (mLc [19] (mIt itD (mV 3)) (gN 19) (tYesM) (mFrz (mCallL gList (aCons (mV 19) (aNil)))))) (aCons (mV 14) (aNil))))) (sIf (mTst (mOp dIsNot (mV 15) (mC .non))) (sSeq (sAsgF [] (gN 17) (mFrz (mLc [12] (mRng rng1 (aCons (mCall gLen (aCons (mV 14) (aNil))) (aNil))) (gN 12) (mTst (mOp dIn (mOp dIx (mV 14) (mV 12)) (mV 4))) (mV 12)))) (sIf (mNot (mTru (mCall (m__law_same 20) (aCons (mCall m_reduced_to (aCons (mV 15) (aCons (mV 17) (aNil)))) (aCons (mV 7) (aNil)))))) (sRetF [] (mC (.bl false))) (sNil))) (sNil)))) (sNil)))))))))))))))))) (sRetF [] (mC (.bl true))))
def m_law : List D → Option D := runF 20 b_law
end Lw
set_option Elab.async false
set_option linter.all false
set_option maxRecDepth 100000
set_option maxHeartbeats 4000000
namespace Lw
open PySem PySem.Spec PyProof.Rows L2 Dn
def f_reduced_to (table kept : D) (p : Option Pl) : Option (D × Option Pl) :=
  bd ((frzX (lcB (cal rng1 (ac (cal gLen (ac (kx table) (an))) (an))) fun at' p => telX (op1 blD (op2 dNotIn (kx at') (kx kept))) (kx at') p)) p) fun others p =>
  bd ((lstX (an)) p) fun found p =>
  bd ((op1 itD (kx kept)) p) fun ds p =>
  bo (lpG (σ := List D) (ρ := D) (fun one found p => bd ((frzX (lcB (op1 itD (kx others)) fun at' p => elX (cal m_minus (ac (kx c_NOUGHT) (ac (op2 dIx (op2 dIx (kx table) (kx at')) (kx one)) (an)))) p)) p) fun right' p =>
    bd ((frzX (lcB (op1 itD (kx others)) fun at' p => elX (frzX (lcB (op1 itD (kx others)) fun other p => elX (op2 dIx (op2 dIx (kx table) (kx at')) (kx other)) p)) p)) p) fun rows p =>
    ifX ((op1 tru (frzX (cal m_kernel (ac (kx rows) (ac (cal gLen (ac (kx others) (an))) (an)))))) p)
    (fun p => bd ((kx .non) p) fun v_ p => some (.rt v_ p))
    (fun p => bd ((op2 dIx (cal m_solved (ac (kx rows) (ac (kx right') (ac (cal gLen (ac (kx others) (an))) (an))))) (kx (.int 1))) p) fun told p =>
      bd ((lstX (an)) p) fun line p =>
      bd ((op1 itD (kx kept)) p) fun ds p =>
      bd (lpS (σ := List D) (fun place line p => bd ((frzX (lcB (cal zipI (ac (kx others) (ac (kx told) (an)))) fun w10 p => un2 w10 fun other number => elX (cal m_times (ac (op2 dIx (op2 dIx (kx table) (kx place)) (kx other)) (ac (kx number) (an)))) p)) p) fun parts p =>
        bd ((cal m_plus (ac (op2 dIx (op2 dIx (kx table) (kx place)) (kx one)) (ac (cal m_sum_of (ac (kx parts) (an))) (an)))) p) fun v_ p => gd (sized (List.length line)) <| wth (line ++ [v_]) p fun line p =>
        some (line, p)) ds line p) fun line p =>
      bd ((kx (.lst line)) p) fun v_ p => gd (sized (List.length found)) <| wth (found ++ [v_]) p fun found p =>
      some (.go found p))) ds found p)
  (fun found p => bd ((frzX (lcB (cal rng1 (ac (cal gLen (ac (kx kept) (an))) (an))) fun at' p => elX (frzX (lcB (cal rng1 (ac (cal gLen (ac (kx kept) (an))) (an))) fun k p => elX (op2 dIx (op2 dIx (kx (.lst found)) (kx k)) (kx at')) p)) p)) p) fun v_ p => some (v_, p))
  (fun v_ p => some (v_, p))
theorem r_reduced_to (table kept : D) (p : Option Pl) : Rel Gf (b_reduced_to [.val table, .val kept, .un, .un, .un, .un, .un, .un, .un, .un, .un, .un, .un, .un, .un] p) (f_reduced_to table kept p) := by
  unfold b_reduced_to f_reduced_to
  refine q_asgF (by simp only [yy]; try rfl) (fun others p => ?_)
  refine q_bN (E' := [.val table, .val kept, .val others, .un, .un, .un, .un, .un, .un, .un, .un, .un, .un, .un, .un]) rfl ?_
  refine q_own (E' := fun found => [.val table, .val kept, .val others, .own found, .un, .un, .un, .un, .un, .un, .un, .un, .un, .un, .un]) (by simp only [yy]; try rfl) (fun _ => rfl) (fun found p => ?_)
  refine q_forG (σ := List D) (ρ := D) (fun s E => ∃ j1 j2 j3 j4 j5 j6 j7 : Sl, E = [.val table, .val kept, .val others, .own s, j1, j2, j3, j4, j5, j6, .un, j7, .un, .un, .un]) grF_ret (by simp only [yy]; try rfl) ⟨.un, .un, .un, .un, .un, .un, .un, rfl⟩ (fun v s E p hE => ?_) k_F (fun s p E hE => ?_)
  · skip
    revert s; intro found hE
    obtain ⟨j1, j2, j3, j4, j5, j6, j7, rfl⟩ := hE
    refine q_bN (E' := [.val table, .val kept, .val others, .own found, .val v, j2, j3, j4, j5, j6, .un, j7, .un, .un, .un]) rfl ?_
    revert v; intro one
    refine q_asgF (by simp only [yy]; try rfl) (fun right' p => ?_)
    refine q_bN (E' := [.val table, .val kept, .val others, .own found, .val one, .val right', j3, j4, j5, j6, .un, j7, .un, .un, .un]) rfl ?_
    refine q_asgF (by simp only [yy]; try rfl) (fun rows p => ?_)
    refine q_bN (E' := [.val table, .val kept, .val others, .own found, .val one, .val right', .val rows, j4, j5, j6, .un, j7, .un, .un, .un]) rfl ?_
    refine q_if (by simp only [yy]; try rfl) (fun p => ?_) (fun p => ?_)
    · skip
      exact q_retF (by simp only [yy]; try rfl) e_rT
    · skip
      refine q_nil ?_
      refine q_asgF (by simp only [yy]; try rfl) (fun told p => ?_)
      refine q_bN (E' := [.val table, .val kept, .val others, .own found, .val one, .val right', .val rows, .val told, j5, j6, .un, j7, .un, .un, .un]) rfl ?_
      refine q_own (E' := fun line => [.val table, .val kept, .val others, .own found, .val one, .val right', .val rows, .val told, .own line, j6, .un, j7, .un, .un, .un]) (by simp only [yy]; try rfl) (fun _ => rfl) (fun line p => ?_)
      refine q_for (σ := List D) (fun s E => ∃ j8 j9 : Sl, E = [.val table, .val kept, .val others, .own found, .val one, .val right', .val rows, .val told, .own s, j8, .un, j9, .un, .un, .un]) (by simp only [yy]; try rfl) ⟨j6, j7, rfl⟩ (fun v s E p hE => ?_) (fun s p E hE => ?_)
      · skip
        revert s; intro line hE
        obtain ⟨j8, j9, rfl⟩ := hE
        refine q_bN (E' := [.val table, .val kept, .val others, .own found, .val one, .val right', .val rows, .val told, .own line, .val v, .un, j9, .un, .un, .un]) rfl ?_
        revert v; intro place
        refine q_asgF (by simp only [yy]; try rfl) (fun parts p => ?_)
        refine q_bN (E' := [.val table, .val kept, .val others, .own found, .val one, .val right', .val rows, .val told, .own line, .val place, .un, .val parts, .un, .un, .un]) rfl ?_
        refine q_last ?_
        refine q_appF (E' := fun line => [.val table, .val kept, .val others, .own found, .val one, .val right', .val rows, .val told, .own line, .val place, .un, .val parts, .un, .un, .un]) (by simp only [yy]; try rfl) rfl (fun _ => rfl) (fun line p => ?_)
        exact q_end (fun x hx => by cases hx; exact ⟨_, .inl rfl, (.val place), (.val parts), rfl⟩)
      revert s; intro line hE
      obtain ⟨j8, j9, rfl⟩ := hE
      refine q_last ?_
      refine q_appF (E' := fun found => [.val table, .val kept, .val others, .own found, .val one, .val right', .val rows, .val told, .val (.lst line), j8, .un, j9, .un, .un, .un]) (by simp only [yy]; try rfl) rfl (fun _ => rfl) (fun found p => ?_)
      exact q_end (fun x hx => by cases hx; exact ⟨_, .inl rfl, (.val one), (.val right'), (.val rows), (.val told), (.val (.lst line)), j8, j9, rfl⟩)
  revert s; intro found hE
  obtain ⟨j1, j2, j3, j4, j5, j6, j7, rfl⟩ := hE
  refine q_last ?_
  exact q_retF (by simp only [yy]; try rfl) e_rF
theorem e_reduced_to {table kept : D} {v_ : D} {p : Option Pl} (h : f_reduced_to table kept none = some (v_, p)) : m_reduced_to [table, kept] = some v_ := u_F (n := 15) (b := b_reduced_to) (ds := [table, kept]) (r_reduced_to table kept none) h
def f__law_solved (rows right' : D) (p : Option Pl) : Option (List D × Option Pl) :=
  bd ((lcB (cal rng1 (ac (cal gLen (ac (kx rows) (an))) (an))) fun k p => elX (op2 dAdd (frzX (cal gList (ac (op2 dIx (kx rows) (kx k)) (an)))) (frzX (lstX (ac (op2 dIx (kx right') (kx k)) (an))))) p) p) fun left' p =>
  bd ((cal rng1 (ac (cal gLen (ac (kx rows) (an))) (an))) p) fun ds p =>
  bd (lpS (σ := List D) (fun at' left' p => bd ((op2 dIx (frzX (lcB (cal rng2 (ac (kx at') (ac (cal gLen (ac (kx (.lst left')) (an))) (an)))) fun k p => telX (op1 blD (op2 dNe (op2 dIx (op2 dIx (op2 dIx (kx (.lst left')) (kx k)) (kx at')) (kx (.int 0))) (kx (.int 0)))) (kx k) p)) (kx (.int 0))) p) fun lead p =>
    gd (noL lead) <|
    bd ((kx lead) p) fun k3_ p => bd ((kx at') p) fun k4_ p => bd ((kx at') p) fun k1_ p => bd ((kx lead) p) fun k2_ p => intU k1_ fun k1_ => intU k2_ fun k2_ => intU k3_ fun k3_ => intU k4_ fun k4_ => atU (swpX left' k1_ k2_ k3_ k4_) fun xs_ => wth xs_ p fun left' p =>
    bd ((lcB (op1 itD (op2 dIx (kx (.lst left')) (kx at'))) fun number p => elX (cal m__law_div (ac (kx number) (ac (op2 dIx (op2 dIx (kx (.lst left')) (kx at')) (kx at')) (an)))) p) p) fun v_ p => bd ((kx at') p) fun k_ p => intU k_ fun k_ => atU (ixN (List.length left') k_) fun j_ => gd (noLL v_) <| wth (List.set left' j_ (.lst v_)) p fun left' p =>
    bd ((cal rng1 (ac (cal gLen (ac (kx (.lst left')) (an))) (an))) p) fun ds p =>
    bd (lpS (σ := List D) (fun k left' p => ifX ((op1 blD (op2 dNe (kx k) (kx at'))) p)
      (fun p => bd ((op2 dIx (op2 dIx (kx (.lst left')) (kx k)) (kx at')) p) fun factor p =>
        gd (noL factor) <|
        bd ((lcB (cal rng1 (ac (cal gLen (ac (op2 dIx (kx (.lst left')) (kx k)) (an))) (an))) fun j p => elX (cal m__law_sub (ac (op2 dIx (op2 dIx (kx (.lst left')) (kx k)) (kx j)) (ac (cal m__law_mul (ac (kx factor) (ac (op2 dIx (op2 dIx (kx (.lst left')) (kx at')) (kx j)) (an)))) (an)))) p) p) fun v_ p => bd ((kx k) p) fun k_ p => intU k_ fun k_ => atU (ixN (List.length left') k_) fun j_ => gd (noLL v_) <| wth (List.set left' j_ (.lst v_)) p fun left' p =>
        some (left', p))
      (fun p => some (left', p))) ds left' p) fun left' p =>
    some (left', p)) ds left' p) fun left' p =>
  bd ((lcB (op1 itD (kx (.lst left'))) fun row p => elX (op2 dIx (kx row) (op1 dNeg (kx (.int 1)))) p) p) fun v_ p => some (v_, p)
theorem r__law_solved (rows right' : D) (p : Option Pl) : Rel Gl (b__law_solved [.val rows, .val right', .un, .un, .un, .un, .un, .un, .un, .un] p) (f__law_solved rows right' p) := by
  unfold b__law_solved f__law_solved
  refine q_own (E' := fun left' => [.val rows, .val right', .own left', .un, .un, .un, .un, .un, .un, .un]) (by simp only [yy]; try rfl) (fun _ => rfl) (fun left' p => ?_)
  refine q_for (σ := List D) (fun s E => ∃ j1 j2 j3 j4 : Sl, E = [.val rows, .val right', .own s, j1, j2, j3, .un, .un, j4, .un]) (by simp only [yy]; try rfl) ⟨.un, .un, .un, .un, rfl⟩ (fun v s E p hE => ?_) (fun s p E hE => ?_)
  · skip
    revert s; intro left' hE
    obtain ⟨j1, j2, j3, j4, rfl⟩ := hE
    refine q_bN (E' := [.val rows, .val right', .own left', .val v, j2, j3, .un, .un, j4, .un]) rfl ?_
    revert v; intro at'
    refine q_asgS (by simp only [yy]; try rfl) (fun lead p => ?_)
    refine q_bN (E' := [.val rows, .val right', .own left', .val at', .val lead, j3, .un, .un, j4, .un]) rfl ?_
    refine q_swp (E' := fun left' => [.val rows, .val right', .own left', .val at', .val lead, j3, .un, .un, j4, .un]) (by simp only [yy]; try rfl) (fun _ => (by simp only [yy]; try rfl)) (by simp only [yy]; try rfl) (by simp only [yy]; try rfl) rfl (fun _ => rfl) (fun _ _ => rfl) (fun left' p => ?_)
    refine q_setLS (E' := fun left' => [.val rows, .val right', .own left', .val at', .val lead, j3, .un, .un, j4, .un]) (by simp only [yy]; try rfl) (by simp only [yy]; try rfl) rfl (fun _ => rfl) (fun left' p => ?_)
    refine q_last ?_
    refine q_forS (σ := List D) (fun s E => ∃ j5 j6 : Sl, E = [.val rows, .val right', .own s, .val at', .val lead, j5, .un, .un, j6, .un]) (by simp only [yy]; try rfl) ⟨j3, j4, rfl⟩ (fun v s E p hE => ?_) (fun s p E hE => ?_)
    · skip
      revert s; intro left' hE
      obtain ⟨j5, j6, rfl⟩ := hE
      refine q_bN (E' := [.val rows, .val right', .own left', .val at', .val lead, .val v, .un, .un, j6, .un]) rfl ?_
      revert v; intro k
      refine q_last ?_
      refine q_if (by simp only [yy]; try rfl) (fun p => ?_) (fun p => ?_)
      · skip
        refine q_assoc ?_
        refine q_asgS (by simp only [yy]; try rfl) (fun factor p => ?_)
        refine q_bN (E' := [.val rows, .val right', .own left', .val at', .val lead, .val k, .un, .un, .val factor, .un]) rfl ?_
        refine q_setLS (E' := fun left' => [.val rows, .val right', .own left', .val at', .val lead, .val k, .un, .un, .val factor, .un]) (by simp only [yy]; try rfl) (by simp only [yy]; try rfl) rfl (fun _ => rfl) (fun left' p => ?_)
        exact q_end (fun x hx => by cases hx; exact ⟨_, .inl rfl, (.val k), (.val factor), rfl⟩)
      · skip
        refine q_nil ?_
        exact q_end (fun x hx => by cases hx; exact ⟨_, .inl rfl, (.val k), j6, rfl⟩)
    revert s; intro left' hE
    obtain ⟨j5, j6, rfl⟩ := hE
    exact q_end (fun x hx => by cases hx; exact ⟨_, .inl rfl, (.val at'), (.val lead), j5, j6, rfl⟩)
  revert s; intro left' hE
  obtain ⟨j1, j2, j3, j4, rfl⟩ := hE
  refine q_last ?_
  exact q_retL (by simp only [yy]; try rfl) e_rL
theorem e__law_solved {rows right' : D} {v_ : List D} {p : Option Pl} (h : f__law_solved rows right' none = some (v_, p)) : m__law_solved [rows, right'] = some v_ := u_L (n := 10) (b := b__law_solved) (ds := [rows, right']) (r__law_solved rows right' none) h
def f__law_turned_table (p : Option Pl) : Option (List D × Option Pl) :=
  bd ((op2 dAdd (kx (.int 1)) (calP m__law_draw (ac (kx (.int 5)) (an)))) p) fun size p =>
  bd ((frzX (lcB (cal rng1 (ac (kx size) (an))) fun k p => elX (frzX (lcB (cal rng1 (ac (kx size) (an))) fun j p => elX (calP m__law_small_told (an)) p)) p)) p) fun rows p =>
  ifX ((op1 blD (op2 dEq (calP m__law_draw (ac (kx (.int 2)) (an))) (kx (.int 0)))) p)
  (fun p => bd ((lcB (cal rng1 (ac (kx size) (an))) fun i p => elX (frzX (lcB (cal rng1 (ac (kx size) (an))) fun j p => elX (cal m__law_add (ac (op2 dIx (op2 dIx (kx rows) (kx i)) (kx j)) (ac (op2 dIx (op2 dIx (kx rows) (kx j)) (kx i)) (an)))) p)) p) p) fun v_ p => some (v_, p))
  (fun p => bd ((lcB (cal rng1 (ac (kx size) (an))) fun i p => elX (frzX (lcB (cal rng1 (ac (kx size) (an))) fun j p => elX (cal m__law_dot (ac (op2 dIx (kx rows) (kx i)) (ac (op2 dIx (kx rows) (kx j)) (an)))) p)) p) p) fun v_ p => some (v_, p))
theorem r__law_turned_table (p : Option Pl) : Rel Gl (b__law_turned_table [.pool, .un, .un, .un, .un, .un] p) (f__law_turned_table  p) := by
  unfold b__law_turned_table f__law_turned_table
  refine q_asgF (by simp only [yy]; try rfl) (fun size p => ?_)
  refine q_bN (E' := [.pool, .val size, .un, .un, .un, .un]) rfl ?_
  refine q_asgF (by simp only [yy]; try rfl) (fun rows p => ?_)
  refine q_bN (E' := [.pool, .val size, .val rows, .un, .un, .un]) rfl ?_
  refine q_if (by simp only [yy]; try rfl) (fun p => ?_) (fun p => ?_)
  · skip
    exact q_retL (by simp only [yy]; try rfl) e_rL
  · skip
    refine q_nil ?_
    refine q_last ?_
    exact q_retL (by simp only [yy]; try rfl) e_rL
theorem e__law_turned_table {P P' : Pl} {v_ : List D} (h : f__law_turned_table  (some P) = some (v_, some P')) : m__law_turned_table P [] = some (v_, P') := u_PL (n := 6) (b := b__law_turned_table) (ds := []) (r__law_turned_table  (some P)) h
def f_law (script : D) (p : Option Pl) : Option (D × Option Pl) :=
  pnX ((cal m__law_pool (ac (kx script) (an))) p) fun p =>
  bd ((cal rng1 (ac (kx (.int 3)) (an))) p) fun ds p =>
  bo (lpG (σ := Unit) (ρ := D) (fun turn (_ : Unit) p => bd ((calP m__law_next (an)) p) fun _ p =>
    bd ((frzX (calP m__law_turned_table (an))) p) fun table p =>
    bd ((frzX (lcB (cal rng1 (ac (cal gLen (ac (kx table) (an))) (an))) fun at' p => telX (op1 blD (op2 dEq (calP m__law_draw (ac (kx (.int 2)) (an))) (kx (.int 0)))) (kx at') p)) p) fun kept p =>
    bd ((iteX (op1 blD (op2 dGt (cal gLen (ac (kx kept) (an))) (kx (.int 0)))) (kx kept) (frzX (lstX (ac (kx (.int 0)) (an))))) p) fun kept p =>
    bd ((frzX (lcB (cal rng1 (ac (cal gLen (ac (kx table) (an))) (an))) fun at' p => telX (op1 blD (op2 dNotIn (kx at') (kx kept))) (kx at') p)) p) fun others p =>
    bd ((frzX (lcB (op1 itD (kx others)) fun i p => elX (frzX (lcB (op1 itD (kx others)) fun j p => elX (op2 dIx (op2 dIx (kx table) (kx i)) (kx j)) p)) p)) p) fun part p =>
    bd ((cal m_reduced_to (ac (frzX (lcB (op1 itD (kx table)) fun row p => elX (frzX (cal gList (ac (kx row) (an)))) p)) (ac (frzX (cal gList (ac (kx kept) (an)))) (an)))) p) fun told p =>
    ifX ((op1 blD (op2 dNe (op2 dIs (kx told) (kx .non)) (op2 dLt (cal m__law_rank (ac (kx part) (an))) (cal gLen (ac (kx others) (an)))))) p)
    (fun p => bd ((kx (.bl false)) p) fun v_ p => some (.rt v_ p))
    (fun p => ifX ((op1 blD (op2 dIs (kx told) (kx .non))) p)
      (fun p => some (.go () p))
      (fun p => bd ((frzX (lcB (op1 itD (kx kept)) fun at' p => elX (calP m__law_small_told (an)) p)) p) fun numbers p =>
        bd ((lstX (an)) p) fun right' p =>
        bd ((op1 itD (kx others)) p) fun ds p =>
        bd (lpS (σ := List D) (fun at' right' p => bd ((cal m__law_sub (ac (tupX (ac (kx (.int 0)) (ac (kx (.int 1)) (an)))) (ac (cal m__law_dot (ac (frzX (lcB (op1 itD (kx kept)) fun j p => elX (op2 dIx (op2 dIx (kx table) (kx at')) (kx j)) p)) (ac (kx numbers) (an)))) (an)))) p) fun v_ p => gd (sized (List.length right')) <| wth (right' ++ [v_]) p fun right' p =>
          some (right', p)) ds right' p) fun right' p =>
        bd ((cal m__law_solved (ac (kx part) (ac (kx (.lst right')) (an)))) p) fun rest' p =>
        gd (noLL rest') <|
        bd ((cal rng1 (ac (cal gLen (ac (kx kept) (an))) (an))) p) fun ds p =>
        bo (lpG (σ := Unit) (ρ := D) (fun k (_ : Unit) p => bd ((cal m__law_add (ac (cal m__law_dot (ac (frzX (lcB (op1 itD (kx kept)) fun j p => elX (op2 dIx (op2 dIx (kx table) (op2 dIx (kx kept) (kx k))) (kx j)) p)) (ac (kx numbers) (an)))) (ac (cal m__law_dot (ac (frzX (lcB (op1 itD (kx others)) fun j p => elX (op2 dIx (op2 dIx (kx table) (op2 dIx (kx kept) (kx k))) (kx j)) p)) (ac (kx (.lst rest')) (an)))) (an)))) p) fun own p =>
          ifX ((op1 blD (op2 dNe (cal m__law_dot (ac (op2 dIx (kx told) (kx k)) (ac (kx numbers) (an)))) (kx own))) p)
          (fun p => bd ((kx (.bl false)) p) fun v_ p => some (.rt v_ p))
          (fun p => some (.go () p))) ds () p)
        (fun (_ : Unit) p => ifX ((op1 blD (op2 dGt (cal gLen (ac (frzX (lcB (cal rng1 (ac (cal gLen (ac (kx kept) (an))) (an))) fun k p => telX (op1 blD (op2 dNe (frzX (lcB (op1 itD (kx told)) fun row p => elX (op2 dIx (kx row) (kx k)) p)) (op2 dIx (kx told) (kx k)))) (kx k) p)) (an))) (kx (.int 0)))) p)
          (fun p => bd ((kx (.bl false)) p) fun v_ p => some (.rt v_ p))
          (fun p => ifX ((op1 blD (op2 dGt (cal gLen (ac (kx others) (an))) (kx (.int 1)))) p)
            (fun p => bd ((frzX (lcB (cal rng1 (ac (cal gLen (ac (kx table) (an))) (an))) fun at' p => telX (op1 blD (op2 dNe (kx at') (op2 dIx (kx others) (kx (.int 0))))) (kx at') p)) p) fun first' p =>
              bd ((cal m_reduced_to (ac (frzX (lcB (op1 itD (kx table)) fun row p => elX (frzX (cal gList (ac (kx row) (an)))) p)) (ac (kx first') (an)))) p) fun middle p =>
              ifX ((op1 blD (op2 dIsNot (kx middle) (kx .non))) p)
              (fun p => bd ((frzX (lcB (cal rng1 (ac (cal gLen (ac (kx first') (an))) (an))) fun k p => telX (op1 blD (op2 dIn (op2 dIx (kx first') (kx k)) (kx kept))) (kx k) p)) p) fun places p =>
                ifX ((notX (op1 tru (cal (m__law_same 20) (ac (cal m_reduced_to (ac (kx middle) (ac (kx places) (an)))) (ac (kx told) (an)))))) p)
                (fun p => bd ((kx (.bl false)) p) fun v_ p => some (.rt v_ p))
                (fun p => some (.go () p)))
              (fun p => some (.go () p)))
            (fun p => some (.go () p))))
        (fun v_ p => some (.rt v_ p))))) ds () p)
  (fun (_ : Unit) p => bd ((kx (.bl true)) p) fun v_ p => some (v_, p))
  (fun v_ p => some (v_, p))
theorem r_law (script : D) (p : Option Pl) : Rel Gf (b_law [.val script, .un, .un, .un, .un, .un, .un, .un, .un, .un, .un, .un, .un, .un, .un, .un, .un, .un, .un, .un] p) (f_law script p) := by
  unfold b_law f_law
  refine q_pnew (E' := [.val script, .pool, .un, .un, .un, .un, .un, .un, .un, .un, .un, .un, .un, .un, .un, .un, .un, .un, .un, .un]) (by simp only [yy]; try rfl) rfl (fun p => ?_)
  refine q_forG (σ := Unit) (ρ := D) (fun s E => ∃ j1 j2 j3 j4 j5 j6 j7 j8 j9 j10 j11 j12 j13 j14 j15 : Sl, E = [.val script, .pool, j1, j2, j3, j4, j5, j6, j7, j8, j9, j10, j11, j12, j13, j14, .un, j15, .un, .un]) grF_ret (by simp only [yy]; try rfl) ⟨.un, .un, .un, .un, .un, .un, .un, .un, .un, .un, .un, .un, .un, .un, .un, rfl⟩ (fun v s E p hE => ?_) k_F (fun s p E hE => ?_)
  · skip
    obtain ⟨j1, j2, j3, j4, j5, j6, j7, j8, j9, j10, j11, j12, j13, j14, j15, rfl⟩ := hE
    try dsimp only
    refine q_bN (E' := [.val script, .pool, .val v, j2, j3, j4, j5, j6, j7, j8, j9, j10, j11, j12, j13, j14, .un, j15, .un, .un]) rfl ?_
    revert v; intro turn
    refine q_drop (by simp only [yy]; try rfl) (fun _ p => ?_)
    refine q_asgF (by simp only [yy]; try rfl) (fun table p => ?_)
    refine q_bN (E' := [.val script, .pool, .val turn, .val table, j3, j4, j5, j6, j7, j8, j9, j10, j11, j12, j13, j14, .un, j15, .un, .un]) rfl ?_
    refine q_asgF (by simp only [yy]; try rfl) (fun kept p => ?_)
    refine q_bN (E' := [.val script, .pool, .val turn, .val table, .val kept, j4, j5, j6, j7, j8, j9, j10, j11, j12, j13, j14, .un, j15, .un, .un]) rfl ?_
    refine q_asgF (by simp only [yy]; try rfl) (fun kept p => ?_)
    refine q_bN (E' := [.val script, .pool, .val turn, .val table, .val kept, j4, j5, j6, j7, j8, j9, j10, j11, j12, j13, j14, .un, j15, .un, .un]) rfl ?_
    refine q_asgF (by simp only [yy]; try rfl) (fun others p => ?_)
    refine q_bN (E' := [.val script, .pool, .val turn, .val table, .val kept, .val others, j5, j6, j7, j8, j9, j10, j11, j12, j13, j14, .un, j15, .un, .un]) rfl ?_
    refine q_asgF (by simp only [yy]; try rfl) (fun part p => ?_)
    refine q_bN (E' := [.val script, .pool, .val turn, .val table, .val kept, .val others, .val part, j6, j7, j8, j9, j10, j11, j12, j13, j14, .un, j15, .un, .un]) rfl ?_
    refine q_asgF (by simp only [yy]; try rfl) (fun told p => ?_)
    refine q_bN (E' := [.val script, .pool, .val turn, .val table, .val kept, .val others, .val part, .val told, j7, j8, j9, j10, j11, j12, j13, j14, .un, j15, .un, .un]) rfl ?_
    refine q_if (by simp only [yy]; try rfl) (fun p => ?_) (fun p => ?_)
    · skip
      exact q_retF (by simp only [yy]; try rfl) e_rT
    · skip
      refine q_nil ?_
      refine q_if (by simp only [yy]; try rfl) (fun p => ?_) (fun p => ?_)
      · skip
        exact q_cnt (fun x hx => by cases hx; exact ⟨_, .inr rfl, (.val turn), (.val table), (.val kept), (.val others), (.val part), (.val told), j7, j8, j9, j10, j11, j12, j13, j14, j15, rfl⟩)
      · skip
        refine q_nil ?_
        refine q_asgF (by simp only [yy]; try rfl) (fun numbers p => ?_)
        refine q_bN (E' := [.val script, .pool, .val turn, .val table, .val kept, .val others, .val part, .val told, .val numbers, j8, j9, j10, j11, j12, j13, j14, .un, j15, .un, .un]) rfl ?_
        refine q_own (E' := fun right' => [.val script, .pool, .val turn, .val table, .val kept, .val others, .val part, .val told, .val numbers, .own right', j9, j10, j11, j12, j13, j14, .un, j15, .un, .un]) (by simp only [yy]; try rfl) (fun _ => rfl) (fun right' p => ?_)
        refine q_for (σ := List D) (fun s E => ∃ j16 : Sl, E = [.val script, .pool, .val turn, .val table, .val kept, .val others, .val part, .val told, .val numbers, .own s, j16, j10, j11, j12, j13, j14, .un, j15, .un, .un]) (by simp only [yy]; try rfl) ⟨j9, rfl⟩ (fun v s E p hE => ?_) (fun s p E hE => ?_)
        · skip
          revert s; intro right' hE
          obtain ⟨j16, rfl⟩ := hE
          refine q_bN (E' := [.val script, .pool, .val turn, .val table, .val kept, .val others, .val part, .val told, .val numbers, .own right', .val v, j10, j11, j12, j13, j14, .un, j15, .un, .un]) rfl ?_
          revert v; intro at'
          refine q_last ?_
          refine q_appF (E' := fun right' => [.val script, .pool, .val turn, .val table, .val kept, .val others, .val part, .val told, .val numbers, .own right', .val at', j10, j11, j12, j13, j14, .un, j15, .un, .un]) (by simp only [yy]; try rfl) rfl (fun _ => rfl) (fun right' p => ?_)
          exact q_end (fun x hx => by cases hx; exact ⟨_, .inl rfl, (.val at'), rfl⟩)
        revert s; intro right' hE
        obtain ⟨j16, rfl⟩ := hE
        refine q_asgLS (E' := fun rest' => [.val script, .pool, .val turn, .val table, .val kept, .val others, .val part, .val told, .val numbers, .own right', j16, .val (.lst rest'), j11, j12, j13, j14, .un, j15, .un, .un]) (by simp only [yy]; try rfl) (fun _ => rfl) (fun rest' p => ?_)
        refine q_forG (σ := Unit) (ρ := D) (fun s E => ∃ j17 j18 : Sl, E = [.val script, .pool, .val turn, .val table, .val kept, .val others, .val part, .val told, .val numbers, .own right', j16, .val (.lst rest'), j17, j18, j13, j14, .un, j15, .un, .un]) grF_ret (by simp only [yy]; try rfl) ⟨j11, j12, rfl⟩ (fun v s E p hE => ?_) k_T (fun s p E hE => ?_)
        · skip
          obtain ⟨j17, j18, rfl⟩ := hE
          try dsimp only
          refine q_bN (E' := [.val script, .pool, .val turn, .val table, .val kept, .val others, .val part, .val told, .val numbers, .own right', j16, .val (.lst rest'), .val v, j18, j13, j14, .un, j15, .un, .un]) rfl ?_
          revert v; intro k
          refine q_asgF (by simp only [yy]; try rfl) (fun own p => ?_)
          refine q_bN (E' := [.val script, .pool, .val turn, .val table, .val kept, .val others, .val part, .val told, .val numbers, .own right', j16, .val (.lst rest'), .val k, .val own, j13, j14, .un, j15, .un, .un]) rfl ?_
          refine q_last ?_
          refine q_if (by simp only [yy]; try rfl) (fun p => ?_) (fun p => ?_)
          · skip
            exact q_retF (by simp only [yy]; try rfl) e_rT
          · skip
            refine q_nil ?_
            exact q_end (fun x hx => by cases hx; exact ⟨_, .inl rfl, (.val k), (.val own), rfl⟩)
        obtain ⟨j17, j18, rfl⟩ := hE
        try dsimp only
        refine q_if (by simp only [yy]; try rfl) (fun p => ?_) (fun p => ?_)
        · skip
          exact q_retF (by simp only [yy]; try rfl) e_rT
        · skip
          refine q_nil ?_
          refine q_last ?_
          refine q_if (by simp only [yy]; try rfl) (fun p => ?_) (fun p => ?_)
          · skip
            refine q_assoc ?_
            refine q_asgF (by simp only [yy]; try rfl) (fun first' p => ?_)
            refine q_bN (E' := [.val script, .pool, .val turn, .val table, .val kept, .val others, .val part, .val told, .val numbers, .own right', j16, .val (.lst rest'), j17, j18, .val first', j14, .un, j15, .un, .un]) rfl ?_
            refine q_assoc ?_
            refine q_asgF (by simp only [yy]; try rfl) (fun middle p => ?_)
            refine q_bN (E' := [.val script, .pool, .val turn, .val table, .val kept, .val others, .val part, .val told, .val numbers, .own right', j16, .val (.lst rest'), j17, j18, .val first', .val middle, .un, j15, .un, .un]) rfl ?_
            refine q_if (by simp only [yy]; try rfl) (fun p => ?_) (fun p => ?_)
            · skip
              refine q_assoc ?_
              refine q_asgF (by simp only [yy]; try rfl) (fun places p => ?_)
              refine q_bN (E' := [.val script, .pool, .val turn, .val table, .val kept, .val others, .val part, .val told, .val numbers, .own right', j16, .val (.lst rest'), j17, j18, .val first', .val middle, .un, .val places, .un, .un]) rfl ?_
              refine q_if (by simp only [yy]; try rfl) (fun p => ?_) (fun p => ?_)
              · skip
                exact q_retF (by simp only [yy]; try rfl) e_rT
              · skip
                refine q_nil ?_
                exact q_end (fun x hx => by cases hx; exact ⟨_, .inl rfl, (.val turn), (.val table), (.val kept), (.val others), (.val part), (.val told), (.val numbers), (.own right'), j16, (.val (.lst rest')), j17, j18, (.val first'), (.val middle), (.val places), rfl⟩)
            · skip
              refine q_nil ?_
              exact q_end (fun x hx => by cases hx; exact ⟨_, .inl rfl, (.val turn), (.val table), (.val kept), (.val others), (.val part), (.val told), (.val numbers), (.own right'), j16, (.val (.lst rest')), j17, j18, (.val first'), (.val middle), j15, rfl⟩)
          · skip
            refine q_nil ?_
            exact q_end (fun x hx => by cases hx; exact ⟨_, .inl rfl, (.val turn), (.val table), (.val kept), (.val others), (.val part), (.val told), (.val numbers), (.own right'), j16, (.val (.lst rest')), j17, j18, j13, j14, j15, rfl⟩)
  obtain ⟨j1, j2, j3, j4, j5, j6, j7, j8, j9, j10, j11, j12, j13, j14, j15, rfl⟩ := hE
  try dsimp only
  refine q_last ?_
  exact q_retF (by simp only [yy]; try rfl) e_rF
theorem e_law {script : D} {v_ : D} {p : Option Pl} (h : f_law script none = some (v_, p)) : m_law [script] = some v_ := u_F (n := 20) (b := b_law) (ds := [script]) (r_law script none) h
end Lw
set_option Elab.async false
set_option linter.all false
set_option maxRecDepth 100000
set_option maxHeartbeats 1000000
namespace Lw
open PySem PySem.Spec PyProof.Rows L2 Dn
namespace N24
open Rw Bm
/-- only nought is led to nought -/
def Reg (n : Nat) (P : Mat) : Prop := ∀ v, Null n n P v → ∀ j, j < n → v j = 0
theorem null_cut {n W : Nat} {F : Mat} {v : Nat → Rat} : Null n W F (fun j => if j < W then v j else 0) ↔ Null n W F v := by
  have e : ∀ i, dt W (F i) (fun j => if j < W then v j else 0) = dt W (F i) v := fun i => sg_congr fun j hj => by dsimp only; rw [if_pos hj]
  constructor
  · intro h i hi; rw [← e]; exact h i hi
  · intro h i hi; rw [e]; exact h i hi
theorem reg_of {n : Nat} {P : Mat} (h : ∀ c, c < n → LeadAt n (Null n n P) c) : Reg n P := by
  intro v hv
  have key : ∀ k, k ≤ n → ∀ j, n - k ≤ j → j < n → v j = 0 := by
    intro k
    induction k with
    | zero => intro _ j h1 h2; omega
    | succ k ih =>
      intro hk j h1 h2
      by_cases e : n - k ≤ j
      · exact ih (by omega) j e h2
      · have := h j h2 (fun j => if j < n then v j else 0) (null_cut.mpr hv) (fun i hi => by
          show (if i < n then v i else 0) = 0
          split
          · exact ih (by omega) i (by omega) (by assumption)
          · rfl)
        rw [if_pos h2] at this
        exact this
  exact fun j hj => key n (Nat.le_refl _) j (by omega) hj
theorem reg_leads {n : Nat} {P A : Mat} {L : List Nat} (E : Ech n n A L) (hN : ∀ v, Null n n A v ↔ Null n n P v) : Reg n P ↔ ∀ c, c < n → c ∈ L := by
  have e : Null n n A = Null n n P := funext fun v => propext (hN v)
  constructor
  · intro h c hc
    rw [leads_iff E hc, e]
    exact fun v hv _ => h v hv c hc
  · intro h
    refine reg_of fun c hc => ?_
    rw [← e]
    exact (leads_iff E hc).mp (h c hc)
theorem ech_all {n : Nat} {A : Mat} {L : List Nat} (E : Ech n n A L) : (∀ c, c < n → c ∈ L) ↔ L.length = n := by
  constructor
  · intro h
    have h1 := ech_len E
    have h2 := nodup_le (List.range n) L (List.pairwise_lt_range.imp fun h => by omega) fun x hx => h x (List.mem_range.mp hx)
    rw [List.length_range] at h2
    omega
  · intro h c hc
    refine Classical.byContradiction fun hn => ?_
    have := nodup_le (c :: L) (List.range n) (List.pairwise_cons.mpr ⟨fun x hx e => hn (e ▸ hx), E.ris.imp fun h => by omega⟩) fun x hx => by
      rcases List.mem_cons.mp hx with rfl | hx
      · exact List.mem_range.mpr hc
      · exact List.mem_range.mpr (E.bnd x hx)
    rw [List.length_cons, List.length_range] at this
    omega
theorem reg_rank {n : Nat} {P : Mat} : Reg n P ↔ (run n elow P n).2.length = n := by
  have E := ech_run (good_elow n) P n
  rw [reg_leads E (fun v => null_run (good_elow n) P n v n), ech_all E]
theorem reg_kernel {n : Nat} {P : Mat} : Reg n P ↔ ∀ c, c < n → c ∈ (run n elim (aug n P) n).2 := by
  exact reg_leads (ech_run (good_elim n) (aug n P) n) (fun v => by rw [null_run (good_elim n), null_aug])
theorem reg_uniq {n : Nat} {P : Mat} (h : Reg n P) {x y : Nat → Rat} {r : Nat → Rat} (hx : ∀ i, i < n → (sg n fun j => P i j * x j) = r i) (hy : ∀ i, i < n → (sg n fun j => P i j * y j) = r i) : ∀ j, j < n → x j = y j := by
  intro j hj
  have := h (fun j => x j - y j) (fun i hi => by
    have e : dt n (P i) (fun j => x j - y j) = (sg n fun j => P i j * x j) - sg n fun j => P i j * y j := by
      rw [← sg_sub]; exact sg_congr fun j _ => by grind
    rw [e, hx i hi, hy i hi]; grind) j hj
  try dsimp only at this
  grind
/-! leads of a regular square -/
theorem run_pre (n : Nat) (E : Mat → Nat → Nat → Mat) (F : Mat) (w : Nat) : ∀ k, ∃ M : List Nat, (run n E F (w + k)).2 = (run n E F w).2 ++ M ∧ ∀ c ∈ M, w ≤ c
  | 0 => ⟨[], by simp, by simp⟩
  | k + 1 => by
    obtain ⟨M, e, h⟩ := run_pre n E F w k
    rw [show w + (k + 1) = w + k + 1 by omega, run_succ]
    unfold stp
    split
    · exact ⟨M ++ [w + k], by dsimp only; rw [e, List.append_assoc], fun c hc => by
        rcases List.mem_append.mp hc with z | z
        · exact h c z
        · rw [List.mem_singleton.mp z]; omega⟩
    · exact ⟨M, e, h⟩
theorem reg_run {n : Nat} {P G : Mat} (h : Reg n P) (hG : ∀ i, i < n → ∀ j, j < n → G i j = P i j) {w : Nat} (hw : w ≤ n) : (run n elim G w).2 = List.range w := by
  have E := ech_run (good_elim n) G n
  have hN : ∀ v, Null n n (run n elim G n).1 v ↔ Null n n P v := fun v => by
    rw [null_run (good_elim n)]
    constructor
    · intro q i hi
      rw [← q i hi]; exact sg_congr fun j hj => by rw [hG i hi j hj]
    · intro q i hi
      rw [← q i hi]; exact sg_congr fun j hj => by rw [hG i hi j hj]
  have all := (reg_leads E hN).mp h
  obtain ⟨M, e, hM⟩ := run_pre n elim G w (n - w)
  rw [show w + (n - w) = n by omega] at e
  have Ew := ech_run (good_elim n) G w
  refine rise_eq Ew.ris List.pairwise_lt_range fun c => ?_
  rw [List.mem_range]
  constructor
  · exact Ew.bnd c
  · intro hc
    have := all c (by omega)
    rw [e] at this
    rcases List.mem_append.mp this with z | z
    · exact z
    · have := hM c z; omega
/-- one column -/
theorem reg_stp {n : Nat} {P G : Mat} (h : Reg n P) (hG : ∀ i, i < n → ∀ j, j < n → G i j = P i j) {w : Nat} (hw : w < n) : ∃ k, first (fun k => decide ((run n elim G w).1 k w ≠ 0)) w (n - w) = some k ∧ (run n elim G (w + 1)).1 = elim (swp (run n elim G w).1 w k) w w := by
  have e1 := reg_run h hG (Nat.le_of_lt hw)
  have e2 := reg_run h hG hw
  rw [run_succ] at e2 ⊢
  unfold stp at e2 ⊢
  rw [e1, List.length_range] at e2 ⊢
  split at e2
  · rename_i k hk
    rw [hk]
    exact ⟨k, rfl, rfl⟩
  · try dsimp only at e2
    rw [e1] at e2
    have := congrArg List.length e2
    simp at this
theorem range2N (a b : Nat) (ha : a < 2 ^ 59) (hb : b < 2 ^ 59) : rng2 [.int (a : Nat), .int (b : Nat)] = some ((List.range' a (b - a)).map fun i : Nat => D.int (i : Nat)) := by
  have e := x_rng2 (a : Int) (b : Int) (by omega) (by omega) (by omega) (by omega)
  rw [show ((b : Int) - (a : Int)).toNat = b - a by omega, rangeD_nat] at e
  exact e
/-- the own solving of a regular system -/
theorem vsolved_ok {n a : Nat} {G P : Mat} (h : Reg n P) (hG : ∀ i, i < n → ∀ j, j < n → G i j = P i j) (hn : n ≤ 900) (hA : Cd n (n + 1) a G) (ha : ∀ t, t < n → 3 * gr t a + 3 ≤ 4000) :
    m__law_solved [.lst (matL n n G), .lst (rgtL n n G)] = some (rowL n fun i => (run n elim G n).1 i n) := by
  have w : Wp (f__law_solved (.lst (matL n n G)) (.lst (rgtL n n G)) none) fun r => r.1 = rowL n fun i => (run n elim G n).1 i n := by
    unfold f__law_solved
    have l0 := mat_len n n G
    have lr : (rgtL n n G).length = n := by unfold rgtL; rw [List.length_map, List.length_range]
    have hr := rng1N n (by omega)
    refine wp_bdn (matL n (n + 1) G) (lcB_map (p1 := none) (fun i : Nat => D.int (i : Nat)) (fun i => rowD (n + 1) (G i)) (List.range n) (by simp [l0, hr]) (by simp; omega) fun i hi => ?_) ?_
    · have hi' := List.mem_range.mp hi
      have a1 := mat_at (W := n) G hi'
      have a2 : atI (rgtL n n G) (i : Int) = some (rD (G i n)) := by
        apply atI_nat; unfold rgtL; rw [List.getElem?_map, List.getElem?_range hi']; rfl
      have ln := row_len n (G i)
      unfold rowD at a1 ⊢
      rw [row_succ]
      generalize rowL n (G i) = R at *
      generalize matL n n G = M at *
      generalize rgtL n n G = M2 at *
      simp [a1, a2, ln, x_sized (show n + 1 ≤ 1000000 by omega)]
    refine wp_bdn ((List.range n).map fun i : Nat => D.int (i : Nat)) (by simp [l0, hr]) ?_
    have cd := fun w hw => cd_run (good_elim n) (sized_elim n (n + 1)) hA w hw
    refine wp_lpS (fun i : Nat => D.int (i : Nat)) (fun j s p => s = matL n (n + 1) (run n elim G j).1 ∧ p = none) (List.range n) ⟨rfl, rfl⟩ ?_ ?_
    · rintro j c s p hk ⟨rfl, rfl⟩
      obtain ⟨hc, rfl⟩ := at_range hk
      obtain ⟨k, hf, he⟩ := reg_stp h hG hc
      have cc := cd c (by omega)
      rw [reg_run h hG (Nat.le_of_lt hc), List.length_range] at cc
      have hsz := ha c hc
      rw [he]
      generalize (run n elim G c).1 = A at *
      obtain ⟨k1, k2, k3, _⟩ := first_some hf
      have hk' : k < n := by omega
      have lA := mat_len n (n + 1) A
      have src : cal rng2 (ac (kx (.int (c : Nat))) (ac (cal gLen (ac (kx (.lst (matL n (n + 1) A))) (an))) (an))) none = some ((List.range' c (n - c)).map (fun i : Nat => D.int (i : Nat)), none) := by
        simp [lA, range2N c n (by omega) (by omega)]
      have fl := lcB_fil (p := none) (p1 := none) (one := fun k p => telX (op1 blD (op2 dNe (op2 dIx (op2 dIx (op2 dIx (kx (.lst (matL n (n + 1) A))) (kx k)) (kx (.int (c : Nat)))) (kx (.int 0))) (kx (.int 0)))) (kx k) p) (fun i : Nat => D.int (i : Nat)) (fun i => decide (A i c ≠ 0)) (fun i : Nat => D.int (i : Nat)) (List.range' c (n - c)) src (by simp; omega) (fun i hi => by
        have hi' : i < n := by have := List.mem_range'_1.mp hi; omega
        have a1 := mat_at (W := n + 1) A hi'
        have a2 := row_at (A i) (show c < n + 1 by omega)
        unfold rowD at a1
        generalize rowL (n + 1) (A i) = R at *
        generalize matL n (n + 1) A = M at *
        by_cases hz : A i c = 0
        · simp [a1, a2, num_at, num0, hz]
        · simp [a1, a2, num_at, num0, hz])
      have hd := first_filter (fun k => decide (A k c ≠ 0)) (n - c) c
      rw [hf] at hd
      obtain ⟨tl, htl⟩ : ∃ tl, (List.range' c (n - c)).filter (fun k => decide (A k c ≠ 0)) = k :: tl := by
        cases e : (List.range' c (n - c)).filter (fun k => decide (A k c ≠ 0)) with
        | nil => rw [e] at hd; cases hd
        | cons x tl => rw [e] at hd; cases hd; exact ⟨tl, rfl⟩
      rw [htl] at fl
      refine wp_bdn (.int (k : Nat)) (op2_ok (frz_ok fl) rfl (by simp)) ?_
      refine wp_gd (by simp) ?_
      refine wp_bdn (.int (k : Nat)) rfl ?_
      refine wp_bdn (.int (c : Nat)) rfl ?_
      refine wp_bdn (.int (c : Nat)) rfl ?_
      refine wp_bdn (.int (k : Nat)) rfl ?_
      simp only [n_intU]
      have sw : swpX (matL n (n + 1) A) (c : Int) (k : Int) (k : Int) (c : Int) = some (matL n (n + 1) (swp A c k)) := by
        unfold swpX
        rw [mat_at A hk', mat_at A hc, lA, ixN_nat hc, ixN_nat hk']
        simp only [Option.bind_some, Option.map_some]
        rw [mat_swp A hc hk']
      refine wp_atU sw ?_
      rw [n_wth]
      have cB := cc.swp hc hk' 
      have hp : swp A c k c c ≠ 0 := by
        have : swp A c k c = A k := by unfold swp; rw [if_pos rfl]
        rw [this]; simpa using k3
      generalize swp A c k = B at *
      have nsm := fun j hj => norm_sm (V := n + 1) cB hc (show c < n + 1 by omega) hp (j := j) hj
      have lB := mat_len n (n + 1) B
      refine wp_bdn (rowL (n + 1) fun j => B c j / B c c) (lcB_map (p1 := none) (fun j => rD (B c j)) (fun j => rD (B c j / B c c)) (List.range (n + 1)) (by
        have a1 := mat_at (W := n + 1) B hc
        unfold rowD rowL at a1
        generalize matL n (n + 1) B = M at *
        simp [a1]) (by simp; omega) fun j hj => ?_) ?_
      · have hj' := List.mem_range.mp hj
        have a1 := mat_at (W := n + 1) B hc
        have a2 := row_at (B c) (show c < n + 1 by omega)
        have dv := _law_div_ok ((cB.sm hc hj').mono (by omega)) ((cB.sm hc (show c < n + 1 by omega)).mono (by omega)) hp
        unfold rowD at a1
        generalize rowL (n + 1) (B c) = R at *
        generalize matL n (n + 1) B = M at *
        simp [a1, a2, dv]
      refine wp_bdn (.int (c : Nat)) rfl ?_
      rw [n_intU, lB, ixN_nat hc]
      refine wp_atU rfl ?_
      refine wp_gd (rowL_noL _ _) ?_
      rw [n_wth, mat_set]
      have eN : (fun i => if i = c then fun j => B c j / B c c else B i) = norm B c c B := rfl
      rw [eN]
      have lN := mat_len n (n + 1) (norm B c c B)
      refine wp_bdn ((List.range n).map fun i : Nat => D.int (i : Nat)) (by simp [lN, hr]) ?_
      refine wp_lpS (fun i : Nat => D.int (i : Nat)) (fun j s p => s = matL n (n + 1) (part (norm B c c B) c c j) ∧ p = none) (List.range n) ⟨by rw [part_zero], rfl⟩ ?_ ?_
      · rintro j t s p hk ⟨rfl, rfl⟩
        obtain ⟨ht, rfl⟩ := at_range hk
        by_cases e : t = c
        · subst e
          refine wp_iff (p := none) (by simp) ?_
          exact wp_some ⟨by rw [part_skip (.inl rfl)], rfl⟩
        · have e' : ¬ ((t : Int) = (c : Int)) := by omega
          refine wp_ift (p := none) (by simp [e']) ?_
          have a1 := mat_at (W := n + 1) (part (norm B c c B) c c t) ht
          have a3 := mat_at (W := n + 1) (part (norm B c c B) c c t) hc
          rw [part_t, norm_i e] at a1
          rw [part_h, norm_h] at a3
          have lP := mat_len n (n + 1) (part (norm B c c B) c c t)
          rw [part_succ e, norm_i e, norm_h]
          rw [← mat_set]
          have b1 := row_at (B t) (show c < n + 1 by omega)
          have lT := row_len (n + 1) (B t)
          unfold rowD at a1 a3
          generalize matL n (n + 1) (part (norm B c c B) c c t) = M at *
          refine wp_bdn (rD (B t c)) (by
            generalize rowL (n + 1) (B t) = R at *
            simp [a1, b1]) ?_
          refine wp_gd (by simp [rD]) ?_
          refine wp_bdn (rowL (n + 1) fun j => B t j - B t c * (B c j / B c c)) (lcB_map (p1 := none) (fun i : Nat => D.int (i : Nat)) (fun j => rD (B t j - B t c * (B c j / B c c))) (List.range (n + 1)) (by
            generalize rowL (n + 1) (B t) = R at *
            simp [a1, lT]
            have := rng1N (n + 1) (by omega)
            simpa using this) (by simp; omega) fun j hj => ?_) ?_
          · have hj' := List.mem_range.mp hj
            have b2 := row_at (B t) hj'
            have b3 := row_at (fun j => B c j / B c c) hj'
            have s1 := cB.sm ht (show c < n + 1 by omega)
            have m1 := _law_mul_ok (s1.mono (by omega)) ((nsm j hj').mono (by omega))
            have m2 := _law_sub_ok ((cB.sm ht hj').mono (by omega)) ((s1.mul (nsm j hj')).mono (by omega))
            generalize rowL (n + 1) (B t) = R at *
            generalize rowL (n + 1) (fun j => B c j / B c c) = R3 at *
            simp [a1, a3, b2, b3, m1, m2]
          refine wp_bdn (.int (t : Nat)) rfl ?_
          rw [n_intU, lP, ixN_nat ht]
          refine wp_atU rfl ?_
          refine wp_gd (rowL_noL _ _) ?_
          rw [n_wth]
          exact wp_some ⟨rfl, rfl⟩
      · rintro s p ⟨rfl, rfl⟩
        rw [List.length_range, part_all hp]
        exact wp_some ⟨rfl, rfl⟩
    · rintro s p ⟨rfl, rfl⟩
      rw [List.length_range]
      refine wp_bdn (rowL n fun i => (run n elim G n).1 i n) (lcB_map (p1 := none) (fun i => rowD (n + 1) ((run n elim G n).1 i)) (fun i => rD ((run n elim G n).1 i n)) (List.range n) (by simp [matL]) (by simp; omega) fun i hi => ?_) (wp_some rfl)
      have : atI (rowL (n + 1) ((run n elim G n).1 i)) (-1 : Int) = some (rD ((run n elim G n).1 i n)) := by
        rw [row_succ]
        exact at_lastN _ _
      unfold rowD
      generalize rowL (n + 1) ((run n elim G n).1 i) = R at *
      simp [this]
  obtain ⟨p, e⟩ := wp_fin w
  exact e__law_solved e
end N24
end Lw
set_option Elab.async false
set_option linter.all false
set_option maxRecDepth 100000
set_option maxHeartbeats 1000000
namespace Lw
open PySem PySem.Spec PyProof.Rows L2 Dn
namespace N24
open Rw Bm
def oth (m : Nat) (K : List Nat) : List Nat := (List.range m).filter fun c => !decide (c ∈ K)
def sb (T : Mat) (A B : List Nat) : Mat := fun i j => T (A.getD i 0) (B.getD j 0)
/-- rows with a right side -/
def Fk (T : Mat) (O : List Nat) (k : Nat) : Mat := fun i j => if j < O.length then sb T O O i j else 0 - T (O.getD i 0) k
/-- the reduced table, by what the others do -/
def RR (T : Mat) (K O : List Nat) (X : Nat → Nat → Rat) : Mat := fun r k => T (K.getD r 0) (K.getD k 0) + sg O.length fun o => T (K.getD r 0) (O.getD o 0) * X k o
/-- numbers that may stand in a table -/
structure Tb (m a : Nat) (T : Mat) : Prop where
  in' : ∃ N, 0 < N ∧ N ≤ 2 ^ a ∧ ∀ i, i < m → ∀ j, j < m → Bm.In N a (T i j)
  gr : gr m (a + 1) ≤ 1200
  m : m ≤ 20
theorem gr_ge (a : Nat) : ∀ t, a ≤ gr t a
  | 0 => Nat.le_refl _
  | t + 1 => by have := gr_ge a t; show a ≤ 2 * gr t a + 1; omega
theorem oth_lt {m : Nat} {K : List Nat} {i : Nat} (h : i < (oth m K).length) : (oth m K).getD i 0 < m := by
  have := getD_memα (d := 0) h
  exact List.mem_range.mp (List.mem_filter.mp this).1
theorem oth_len (m : Nat) (K : List Nat) : (oth m K).length ≤ m := by
  have := List.length_filter_le (fun c => !decide (c ∈ K)) (List.range m)
  rw [List.length_range] at this
  exact this
variable {m a : Nat} {T : Mat} {K : List Nat}
theorem Fk_aug (h : Tb m a T) {k : Nat} (hk : k < m) (V : Nat) : Cd (oth m K).length V (a + 1) (aug ((oth m K).length + 1) (Fk T (oth m K) k)) := by
  obtain ⟨N, h0, h1, h2⟩ := h.in'
  have o1 : Bm.In N (a + 1) 1 := by
    have := In.up (In.int (n := 1) (z := 1) (by decide)) (M := N) (m := a) h0 h1 (show N = 1 * N by omega)
    exact this.mono (by omega)
  refine ⟨N, h0, Nat.le_trans h1 (Nat.pow_le_pow_right (by decide) (by omega)), fun i hi j _ => ?_⟩
  unfold aug
  split
  · unfold Fk sb
    split
    · rename_i hj
      exact (h2 _ (oth_lt hi) _ (oth_lt hj)).mono (by omega)
    · exact (In.zero h0).sub (h2 _ (oth_lt hi) _ hk)
  · split
    · exact o1
    · exact In.zero h0
theorem Tb.ok (h : Tb m a T) {i j : Nat} (hi : i < m) (hj : j < m) : Ok (T i j) := by
  obtain ⟨N, h0, h1, h2⟩ := h.in'
  have g := gr_ge (a + 1) m
  have := h.gr
  exact (h2 i hi j hj).sm (k := 4000) (Nat.lt_of_le_of_lt h1 (Nat.pow_lt_pow_right (by decide) (by omega))) (by omega)
/-- what the others do -/
def Vb (n : Nat) (x : Nat → Rat) : Prop := ∃ N, 0 < N ∧ N ≤ 2 ^ 1200 ∧ ∀ j, j < n → Bm.In N 1200 (x j)
theorem rows_eq {k : Nat} : matL (oth m K).length (oth m K).length (Fk T (oth m K) k) = (oth m K).map fun c => .lst ((oth m K).map fun d => rD (T c d)) := by
  rw [← map_getD 0 (fun c => D.lst ((oth m K).map fun d => rD (T c d))) (oth m K)]
  unfold matL
  refine List.map_congr_left fun i hi => ?_
  unfold rowD rowL
  rw [← map_getD 0 (fun d => rD (T ((oth m K).getD i 0) d)) (oth m K)]
  congr 1
  refine List.map_congr_left fun j hj => ?_
  unfold Fk sb
  rw [if_pos (List.mem_range.mp hj)]
theorem right_eq {k : Nat} : rgtL (oth m K).length (oth m K).length (Fk T (oth m K) k) = (oth m K).map fun c => rD (0 - T c k) := by
  rw [← map_getD 0 (fun c => rD (0 - T c k)) (oth m K)]
  unfold rgtL
  refine List.map_congr_left fun i hi => ?_
  unfold Fk
  rw [if_neg (Nat.lt_irrefl _)]
theorem solv_reg (h : Tb m a T) (hr : Reg (oth m K).length (sb T (oth m K) (oth m K))) {k : Nat} (hk : k < m) : ∃ x, Vb (oth m K).length x ∧ (∀ i, i < (oth m K).length → (sg (oth m K).length fun j => sb T (oth m K) (oth m K) i j * x j) = 0 - T ((oth m K).getD i 0) k) ∧
    m_solved [.lst (matL (oth m K).length (oth m K).length (Fk T (oth m K) k)), .lst (rgtL (oth m K).length (oth m K).length (Fk T (oth m K) k)), .int ((oth m K).length : Nat)] = some (.tup [.str "numbers", rowD (oth m K).length x]) := by
  have hl := oth_len m K
  have hm := h.m
  have hg := h.gr
  have gb : ∀ t, t ≤ (oth m K).length → gr t (a + 1) ≤ 1200 := fun t ht => Nat.le_trans (gr_le (a + 1) (by omega)) hg
  rcases solved_ok (a := a + 1) (Fk T (oth m K) k) (n := (oth m K).length) (w := (oth m K).length) (by omega) (by omega) (Fk_aug h hk _) (fun t h1 _ => by have := gb t (by omega); omega) with ⟨y, N, h0, h1, h2, h4, e⟩ | ⟨x, N, h0, h1, h2, h4, e⟩
  · exfalso
    have E := reg_run (n := (oth m K).length) hr (G := aug ((oth m K).length + 1) (Fk T (oth m K) k)) (fun i hi j hj => by
      unfold aug Fk; rw [if_pos (by omega), if_pos hj]) (Nat.le_refl _)
    have fit := numbers_fit (n := (oth m K).length) (w := (oth m K).length) (Fk T (oth m K) k) (fun k' h1 h2 => by rw [E, List.length_range] at h1; omega) (fun c => if c < (oth m K).length then (run (oth m K).length elim (aug ((oth m K).length + 1) (Fk T (oth m K) k)) (oth m K).length).1 c (oth m K).length else 0) (fun i c hc => by
      rw [E] at hc
      obtain ⟨hi, rfl⟩ := at_range hc
      exact if_pos hi) (fun c hc => by
      rw [E, List.mem_range] at hc
      exact if_neg hc)
    exact not_solv h4.1 h4.2 (solv_of fit)
  · refine ⟨x, ⟨N, h0, Nat.le_trans h1 (Nat.pow_le_pow_right (by decide) (gb _ (Nat.le_refl _))), fun j hj => (h2 j hj).mono (gb _ (Nat.le_refl _))⟩, fun i hi => ?_, e⟩
    have := h4 i hi
    unfold Fk at this
    rw [if_neg (Nat.lt_irrefl _)] at this
    rw [← this]
    exact sg_congr fun j hj => by rw [if_pos hj]
theorem red_ok (h : Tb m a T) (hK : ∀ k ∈ K, k < m) (hq : 0 < K.length) (hq2 : K.length ≤ 20) :
    (¬ Reg (oth m K).length (sb T (oth m K) (oth m K)) → m_reduced_to [.lst (matL m m T), .lst (ldL K)] = some .non) ∧
    (Reg (oth m K).length (sb T (oth m K) (oth m K)) → ∃ X : Nat → Nat → Rat, (∀ k, k < K.length → Vb (oth m K).length (X k) ∧ ∀ i, i < (oth m K).length → (sg (oth m K).length fun j => sb T (oth m K) (oth m K) i j * X k j) = 0 - T ((oth m K).getD i 0) (K.getD k 0)) ∧
      m_reduced_to [.lst (matL m m T), .lst (ldL K)] = some (.lst (matL K.length K.length (RR T K (oth m K) X)))) := by
  have hl := oth_len m K
  have hm := h.m
  have hg := h.gr
  have gb : ∀ t, t ≤ m → gr t (a + 1) ≤ 1200 := fun t ht => Nat.le_trans (gr_le (a + 1) ht) hg
  have lT := mat_len m m T
  have tat : ∀ i, i < m → ∀ j, j < m → op2 dIx (op2 dIx (kx (.lst (matL m m T))) (kx (.int (i : Nat)))) (kx (.int (j : Nat))) none = some (rD (T i j), none) := fun i hi j hj => by
    have a1 := mat_at (W := m) T hi
    have a2 := row_at (T i) hj
    unfold rowD at a1
    generalize rowL m (T i) = R at *
    generalize matL m m T = M at *
    simp [a1, a2]
  have olt : ∀ c ∈ oth m K, c < m := fun c hc => List.mem_range.mp (List.mem_filter.mp hc).1
  have oD : frzX (lcB (cal rng1 (ac (cal gLen (ac (kx (.lst (matL m m T))) (an))) (an))) fun at' p => telX (op1 blD (op2 dNotIn (kx at') (kx (.lst (ldL K))))) (kx at') p) none = some (.lst (ldL (oth m K)), none) := by
    refine frz_ok (lcB_fil (p1 := none) (fun i : Nat => D.int (i : Nat)) (fun c => !decide (c ∈ K)) (fun i : Nat => D.int (i : Nat)) (List.range m) (by simp [lT, rng1N m (by omega)]) (by simp; omega) fun c hc => ?_)
    have := (dIn_ints c K).2
    by_cases hm : c ∈ K
    · rw [decide_eq_true hm] at this; simp [this, hm]
    · rw [decide_eq_false hm] at this; simp [this, hm]
  have rD' : ∀ k, k < m → frzX (lcB (op1 itD (kx (.lst (ldL (oth m K))))) fun at' p => elX (cal m_minus (ac (kx c_NOUGHT) (ac (op2 dIx (op2 dIx (kx (.lst (matL m m T))) (kx at')) (kx (.int (k : Nat)))) (an)))) p) none = some (.lst (rgtL (oth m K).length (oth m K).length (Fk T (oth m K) k)), none) := fun k hk => by
    rw [right_eq]
    refine frz_ok (lcB_map (p1 := none) (fun i : Nat => D.int (i : Nat)) (fun c => rD (0 - T c k)) (oth m K) rfl (by omega) fun c hc => ?_)
    have mm := minus_ok (Sm.zero (n := 4000) (by decide)) (h.ok (olt c hc) hk)
    rw [n_elX, cal2 (p2 := none) (show kx c_NOUGHT none = some (rD 0, none) by rw [nought]; rfl) (tat c (olt c hc) k hk) mm]; rfl
  have rowsD : frzX (lcB (op1 itD (kx (.lst (ldL (oth m K))))) fun at' p => elX (frzX (lcB (op1 itD (kx (.lst (ldL (oth m K))))) fun other p => elX (op2 dIx (op2 dIx (kx (.lst (matL m m T))) (kx at')) (kx other)) p)) p) none = some (.lst ((oth m K).map fun c => .lst ((oth m K).map fun d => rD (T c d))), none) := by
    refine frz_ok (lcB_map (p1 := none) (fun i : Nat => D.int (i : Nat)) (fun c => D.lst ((oth m K).map fun d => rD (T c d))) (oth m K) rfl (by omega) fun c hc => ?_)
    rw [n_elX, frz_ok (lcB_map (p1 := none) (fun i : Nat => D.int (i : Nat)) (fun d => rD (T c d)) (oth m K) rfl (by omega) fun d hd => by rw [n_elX, tat c (olt c hc) d (olt d hd)]; rfl)]; rfl
  have lenO : cal gLen (ac (kx (.lst (ldL (oth m K)))) (an)) none = some (.int ((oth m K).length : Nat), none) := by simp
  have kD : ∃ ker, m_kernel [.lst ((oth m K).map fun c => .lst ((oth m K).map fun d => rD (T c d))), .int ((oth m K).length : Nat)] = some ker ∧ (ker.isEmpty = true ↔ Reg (oth m K).length (sb T (oth m K) (oth m K))) := by
    have e0 := rows_eq (m := m) (K := K) (T := T) (k := 0)
    have kk := kernel_ok (n := (oth m K).length) (w := (oth m K).length) (a := a + 1) (Fk T (oth m K) 0) (by omega) (by omega) (by
      obtain ⟨N, h0, h1, h2⟩ := h.in'
      have o1 : Bm.In N (a + 1) 1 := by
        have := In.up (In.int (n := 1) (z := 1) (by decide)) (M := N) (m := a) h0 h1 (show N = 1 * N by omega)
        exact this.mono (by omega)
      refine ⟨N, h0, Nat.le_trans h1 (Nat.pow_le_pow_right (by decide) (by omega)), fun i hi j _ => ?_⟩
      unfold aug
      split
      · rename_i hj
        unfold Fk sb
        rw [if_pos hj]
        exact (h2 _ (oth_lt hi) _ (oth_lt hj)).mono (by omega)
      · split
        · exact o1
        · exact In.zero h0) (fun t h1 _ => by have := gb t (by omega); omega)
    rw [e0] at kk
    refine ⟨_, kk, ?_⟩
    have rk := reg_kernel (n := (oth m K).length) (P := Fk T (oth m K) 0)
    have rr : Reg (oth m K).length (Fk T (oth m K) 0) ↔ Reg (oth m K).length (sb T (oth m K) (oth m K)) := by
      have : ∀ v, Null (oth m K).length (oth m K).length (Fk T (oth m K) 0) v ↔ Null (oth m K).length (oth m K).length (sb T (oth m K) (oth m K)) v := fun v => by
        have e : ∀ i, dt (oth m K).length (Fk T (oth m K) 0 i) v = dt (oth m K).length (sb T (oth m K) (oth m K) i) v := fun i => sg_congr fun j hj => by unfold Fk; rw [if_pos hj]
        unfold Null; simp only [e]
      unfold Reg; simp only [this]
    rw [← rr, rk, List.isEmpty_iff, List.map_eq_nil_iff, List.filter_eq_nil_iff]
    constructor
    · intro q c hc
      have := q c (List.mem_range.mpr hc)
      simpa using this
    · intro q c hc
      have := q c (List.mem_range.mp hc)
      simpa using this
  obtain ⟨ker, kk, kiff⟩ := kD
  have kT : op1 tru (frzX (cal m_kernel (ac (kx (.lst ((oth m K).map fun c => .lst ((oth m K).map fun d => rD (T c d))))) (ac (cal gLen (ac (kx (.lst (ldL (oth m K)))) (an))) (an))))) none = some (!ker.isEmpty, none) := by
    rw [op1_ok (frz_ok (cal2 rfl lenO kk)) (x_truL _)]
  constructor
  · intro hr
    have hk : ker.isEmpty = false := by
      cases e : ker.isEmpty with
      | false => rfl
      | true => exact absurd (kiff.mp e) hr
    rw [hk] at kT
    refine e_reduced_to (p := none) ?_
    unfold f_reduced_to
    refine bdn (.lst (ldL (oth m K))) oD ?_
    refine bdn [] (by simp) ?_
    refine bdn (ldL K) (by simp) ?_
    cases K with
    | nil => simp at hq
    | cons k K' =>
    rw [show ldL (k :: K') = D.int (k : Nat) :: ldL K' from rfl, n_lpGc]
    have st : ∀ {β : Type} (x : Option β) (f : β → Option (Lr (List D) D)), True := fun _ _ => trivial
    rw [show (.int (k : Nat) :: ldL K' : List D) = ldL (k :: K') from rfl]
    refine bo_rt (d := .non) (p := none) ?_ rfl
    rw [rD' k (hK k List.mem_cons_self), n_bd, rowsD, n_bd, kT]
    rfl
  · intro hr
    have hk := kiff.mpr hr
    rw [hk] at kT
    have H : ∀ k, k < K.length → ∃ x, Vb (oth m K).length x ∧ (∀ i, i < (oth m K).length → (sg (oth m K).length fun j => sb T (oth m K) (oth m K) i j * x j) = 0 - T ((oth m K).getD i 0) (K.getD k 0)) ∧
        m_solved [.lst (matL (oth m K).length (oth m K).length (Fk T (oth m K) (K.getD k 0))), .lst (rgtL (oth m K).length (oth m K).length (Fk T (oth m K) (K.getD k 0))), .int ((oth m K).length : Nat)] = some (.tup [.str "numbers", rowD (oth m K).length x]) := fun k hk => solv_reg h hr (hK _ (getD_memα hk))
    let X : Nat → Nat → Rat := fun k => if hk : k < K.length then Classical.choose (H k hk) else fun _ => 0
    have HX : ∀ k, k < K.length → Vb (oth m K).length (X k) ∧ (∀ i, i < (oth m K).length → (sg (oth m K).length fun j => sb T (oth m K) (oth m K) i j * X k j) = 0 - T ((oth m K).getD i 0) (K.getD k 0)) ∧
        m_solved [.lst (matL (oth m K).length (oth m K).length (Fk T (oth m K) (K.getD k 0))), .lst (rgtL (oth m K).length (oth m K).length (Fk T (oth m K) (K.getD k 0))), .int ((oth m K).length : Nat)] = some (.tup [.str "numbers", rowD (oth m K).length (X k)]) := fun k hk => by
      have e : X k = Classical.choose (H k hk) := dif_pos hk
      rw [e]; exact Classical.choose_spec (H k hk)
    clear_value X
    refine ⟨X, fun k hk => ⟨(HX k hk).1, (HX k hk).2.1⟩, ?_⟩
    obtain ⟨N, h0, h1, h2⟩ := h.in'
    have ga := gr_ge (a + 1) m
    have ter : ∀ r, r < m → ∀ k, k < K.length → Ter (oth m K).length (fun o => T r ((oth m K).getD o 0)) (X k) := fun r hr k hk => by
      obtain ⟨N', h0', h1', h2'⟩ := (HX k hk).1
      refine ⟨fun o ho => h.ok hr (oth_lt ho), fun o ho => (h2' o ho).sm (Nat.lt_of_le_of_lt h1' (Nat.pow_lt_pow_right (by decide) (by decide))) (by decide), N * N', a + 1200, Nat.mul_pos h0 h0', ?_, by omega, fun o ho => In.mul (h2 r hr _ (oth_lt ho)) (h2' o ho)⟩
      refine Nat.lt_of_le_of_lt (Nat.mul_le_mul h1 h1') ?_
      rw [← Nat.pow_add]; exact Nat.pow_lt_pow_right (by decide) (by omega)
    have w : Wp (f_reduced_to (.lst (matL m m T)) (.lst (ldL K)) none) fun r => r.1 = .lst (matL K.length K.length (RR T K (oth m K) X)) := by
      unfold f_reduced_to
      refine wp_bdn (.lst (ldL (oth m K))) oD ?_
      refine wp_bdn [] (by simp) ?_
      refine wp_bdn (ldL K) (by simp) ?_
      rw [ldL_range K]
      refine wp_lpG (fun i : Nat => D.int (((K.getD i 0 : Nat)) : Int)) (fun j s p => s = (List.range j).map (fun k => rowD K.length fun r => RR T K (oth m K) X r k) ∧ p = none) (List.range K.length) ⟨rfl, rfl⟩ ?_ ?_
      · rintro j k s p hk' ⟨rfl, rfl⟩
        obtain ⟨hj, rfl⟩ := at_range hk'
        have km := hK _ (getD_memα (d := 0) hj)
        obtain ⟨vx, fx, sx⟩ := HX k hj
        rw [rows_eq] at sx
        rw [rD' _ km]
        refine wp_bdn _ rfl ?_
        refine wp_bdn _ rowsD ?_
        refine wp_iff (p := none) kT ?_
        refine wp_bdn (rowD (oth m K).length (X k)) (op2_ok (cal3 rfl rfl lenO sx) rfl (by simp)) ?_
        refine wp_bdn [] (by simp) ?_
        refine wp_bdn ((List.range K.length).map fun i => D.int (((K.getD i 0 : Nat)) : Int)) (by rw [← ldL_range]; simp) ?_
        refine wp_lpS (fun i : Nat => D.int (((K.getD i 0 : Nat)) : Int)) (fun j s p => s = (List.range j).map (fun r => rD (RR T K (oth m K) X r k)) ∧ p = none) (List.range K.length) ⟨rfl, rfl⟩ ?_ ?_
        · rintro j r s p hr' ⟨rfl, rfl⟩
          obtain ⟨hr2, rfl⟩ := at_range hr'
          have rm := hK _ (getD_memα (d := 0) hr2)
          have te := ter _ rm k hj
          have hz : zipI [.lst (ldL (oth m K)), rowD (oth m K).length (X k)] = some ((List.range (oth m K).length).map fun i => D.tup [.int (((oth m K).getD i 0 : Nat) : Int), rD (X k i)]) := by
            unfold zipI rowD
            simp only [x_itL, row_len, ldD, if_true]
            rw [ldL_range]
            unfold rowL
            rw [zipD_range _ _ _ _ (Nat.le_refl _)]
          refine wp_bdn (.lst ((List.range (oth m K).length).map fun i => rD (T (K.getD r 0) ((oth m K).getD i 0) * X k i))) (frz_ok (lcB_map (p1 := none) (fun i => D.tup [.int (((oth m K).getD i 0 : Nat) : Int), rD (X k i)]) (fun i => rD (T (K.getD r 0) ((oth m K).getD i 0) * X k i)) (List.range (oth m K).length) (cal2 rfl rfl hz) (by simp; omega) fun i hi => ?_)) ?_
          · have hi' := List.mem_range.mp hi
            rw [n_un2t, n_elX, cal2 (tat _ rm _ (oth_lt hi')) rfl (times_ok (te.hr i hi') (te.hx i hi'))]; rfl
          · have so := sum_okS _ (te.oks (by omega))
            rw [sumR_range, List.map_map] at so
            have pl := plus_ok (h.ok rm km) (te.sm (by omega) (Nat.le_refl _))
            refine wp_bdn (rD (RR T K (oth m K) X r k)) (cal2 (tat _ rm _ km) (cal1 rfl so) pl) ?_
            refine wp_gd (x_sized (by simp; omega)) ?_
            exact wp_some ⟨by rw [List.range_succ, List.map_append]; rfl, rfl⟩
        · rintro s p ⟨rfl, rfl⟩
          refine wp_bdn _ rfl ?_
          refine wp_gd (x_sized (by simp; omega)) ?_
          exact wp_some ⟨_, _, rfl, by rw [List.length_range, List.range_succ, List.map_append]; rfl, rfl⟩
      · rintro s p ⟨rfl, rfl⟩
        rw [List.length_range]
        have rg := rng1N K.length (by omega)
        refine wp_bdn (.lst (matL K.length K.length (RR T K (oth m K) X))) (frz_ok (lcB_map (p1 := none) (fun i : Nat => D.int (i : Nat)) (fun r => rowD K.length (RR T K (oth m K) X r)) (List.range K.length) (by rw [← ldL_range]; simp [rg]) (by simp; omega) fun r hr => ?_)) (wp_some rfl)
        have hr' := List.mem_range.mp hr
        rw [n_elX, frz_ok (lcB_map (p1 := none) (fun i : Nat => D.int (i : Nat)) (fun k => rD (RR T K (oth m K) X r k)) (List.range K.length) (by rw [← ldL_range]; simp [rg]) (by simp; omega) fun k hk => ?_)]; rfl
        have hk' := List.mem_range.mp hk
        have a1 : atI ((List.range K.length).map (fun k => rowD K.length fun r => RR T K (oth m K) X r k)) (k : Int) = some (rowD K.length fun r => RR T K (oth m K) X r k) := by
          apply atI_nat; rw [List.getElem?_map, List.getElem?_range hk']; rfl
        have a2 := row_at (fun r => RR T K (oth m K) X r k) hr'
        unfold rowD at a1 ⊢
        generalize rowL K.length (fun r => RR T K (oth m K) X r k) = R at *
        simp [a1, a2]
    obtain ⟨p, e⟩ := wp_fin w
    exact e_reduced_to e
end N24
end Lw
set_option Elab.async false
set_option linter.all false
set_option maxRecDepth 100000
set_option maxHeartbeats 1000000
namespace Lw
open PySem PySem.Spec PyProof.Rows L2 Dn
namespace N24
open Rw Bm
variable {m a : Nat} {T : Mat} {K : List Nat}
/-- rest by the own solving -/
def Rs (n : Nat) (P : Mat) (r : Nat → Rat) : Mat := fun i j => if j < n then P i j else r i
theorem vfit {n : Nat} {P : Mat} {r : Nat → Rat} (h : Reg n P) : ∀ i, i < n → (sg n fun j => P i j * (run n elim (Rs n P r) n).1 j n) = r i := by
  have L := reg_run h (G := Rs n P r) (fun i _ j hj => if_pos hj) (Nat.le_refl n)
  have R := rref_run n (Rs n P r) n
  have nr := null_run (good_elim n) (Rs n P r) (n + 1)
  generalize hA : run n elim (Rs n P r) n = s at *
  obtain ⟨A, LL⟩ := s
  dsimp only at *
  subst L
  have one : ∀ i, i < n → ∀ j, j < n → A i j = if i = j then 1 else 0 := fun i hi j hj => by
    have e : (List.range n)[j]? = some j := List.getElem?_range hj
    obtain ⟨r1, r2⟩ := R j j e
    by_cases q : i = j
    · subst q; rw [if_pos rfl]; exact r1
    · rw [if_neg q]; exact r2 i hi q
  let v : Nat → Rat := fun t => if t < n then A t n else -1
  have gen : ∀ q : Nat → Rat, dt (n + 1) q v = (sg n fun j => q j * A j n) - q n := fun q => by
    unfold dt
    simp only [sg]
    have e1 : sg n (fun j => q j * v j) = sg n fun j => q j * A j n := sg_congr fun j hj => by
      show q j * (if j < n then A j n else -1) = _
      rw [if_pos hj]
    have e2 : v n = -1 := if_neg (Nat.lt_irrefl _)
    rw [e1, e2]; grind
  have nA : Null n (n + 1) A v := fun i hi => by
    rw [gen, sg_one hi fun j hj ne => by rw [one i hi j hj, if_neg (fun q => ne q.symm)]; grind]
    rw [one i hi i hi, if_pos rfl]; grind
  have nG := (nr v n).mp (by rw [hA]; exact nA)
  intro i hi
  have := nG i hi
  rw [gen] at this
  have e3 : (sg n fun j => Rs n P r i j * A j n) = sg n fun j => P i j * A j n := sg_congr fun j hj => by unfold Rs; rw [if_pos hj]
  have e4 : Rs n P r i n = r i := if_neg (Nat.lt_irrefl _)
  rw [e3, e4] at this
  grind
/-- numbers at the kept places -/
theorem told_own {O : List Nat} {X : Nat → Nat → Rat} {z y : Nat → Rat} (hr : Reg O.length (sb T O O)) (hX : ∀ k, k < K.length → ∀ i, i < O.length → (sg O.length fun j => sb T O O i j * X k j) = 0 - T (O.getD i 0) (K.getD k 0))
    (hy : ∀ i, i < O.length → (sg O.length fun j => sb T O O i j * y j) = 0 - sg K.length fun k => T (O.getD i 0) (K.getD k 0) * z k) (r : Nat) :
    (sg K.length fun k => RR T K O X r k * z k) = (sg K.length fun k => T (K.getD r 0) (K.getD k 0) * z k) + sg O.length fun o => T (K.getD r 0) (O.getD o 0) * y o := by
  have u := reg_uniq hr (x := y) (y := fun o => sg K.length fun k => X k o * z k) hy (fun i hi => by
    have e : (sg O.length fun j => sb T O O i j * sg K.length fun k => X k j * z k) = sg O.length fun j => sg K.length fun k => (sb T O O i j * X k j) * z k := sg_congr fun j _ => by rw [← sg_mul]; exact sg_congr fun k _ => by grind
    rw [e, sg_comm]
    have e2 : (sg K.length fun k => sg O.length fun j => sb T O O i j * X k j * z k) = sg K.length fun k => (-1 : Rat) * (T (O.getD i 0) (K.getD k 0) * z k) := sg_congr fun k hk => by
      have : (sg O.length fun j => sb T O O i j * X k j * z k) = sg O.length fun j => z k * (sb T O O i j * X k j) := sg_congr fun j _ => by grind
      rw [this, sg_mul, hX k hk i hi]; grind
    rw [e2, sg_mul]; grind)
  have e3 : (sg O.length fun o => T (K.getD r 0) (O.getD o 0) * y o) = sg O.length fun o => sg K.length fun k => T (K.getD r 0) (O.getD o 0) * X k o * z k := sg_congr fun o ho => by
    rw [u o ho, ← sg_mul]; exact sg_congr fun k _ => by grind
  rw [e3, sg_comm, ← sg_add]
  refine sg_congr fun k _ => ?_
  unfold RR
  have : (sg O.length fun o => T (K.getD r 0) (O.getD o 0) * X k o * z k) = sg O.length fun o => z k * (T (K.getD r 0) (O.getD o 0) * X k o) := sg_congr fun o _ => by grind
  rw [this, sg_mul]; grind
/-- the reduced table is the same turned -/
theorem RR_sym {O : List Nat} {X : Nat → Nat → Rat} (hT : ∀ i, i < m → ∀ j, j < m → T i j = T j i) (hO : ∀ i, i < O.length → O.getD i 0 < m) (hK : ∀ i, i < K.length → K.getD i 0 < m) (hX : ∀ k, k < K.length → ∀ i, i < O.length → (sg O.length fun j => sb T O O i j * X k j) = 0 - T (O.getD i 0) (K.getD k 0)) {r k : Nat} (hr : r < K.length) (hk : k < K.length) : RR T K O X r k = RR T K O X k r := by
  have key : ∀ r k, r < K.length → k < K.length → (sg O.length fun o => T (K.getD r 0) (O.getD o 0) * X k o) = sg O.length fun o => sg O.length fun j => -(sb T O O o j * X r j * X k o) := fun r k hr hk => sg_congr fun o ho => by
    rw [hT _ (hK r hr) _ (hO o ho)]
    have := hX r hr o ho
    have e : (sg O.length fun j => -(sb T O O o j * X r j * X k o)) = sg O.length fun j => (- X k o) * (sb T O O o j * X r j) := sg_congr fun j _ => by grind
    rw [e, sg_mul, this]; grind
  unfold RR
  rw [key r k hr hk, key k r hk hr, hT _ (hK r hr) _ (hK k hk), sg_comm]
  congr 1
  refine sg_congr fun j hj => sg_congr fun o ho => ?_
  have : sb T O O o j = sb T O O j o := hT _ (hO o ho) _ (hO j hj)
  rw [this]; grind
theorem sg_first (n : Nat) (f : Nat → Rat) : sg (n + 1) f = f 0 + sg n fun j => f (j + 1) := by
  rw [Nat.add_comm n 1, sg_split]
  have : sg 1 f = f 0 := by simp only [sg]; grind
  rw [this]
  congr 1
  exact sg_congr fun j _ => by rw [Nat.add_comm]
/-- reduced in two steps -/
theorem two_steps {o0 : Nat} {O : List Nat} {K fst pls O' : List Nat} {Y X : Nat → Nat → Rat} (hO : O.length = O'.length + 1) (h0 : O.getD 0 0 = o0) (hf : ∀ i, i < O'.length → O.getD (i + 1) 0 = fst.getD (O'.getD i 0) 0)
    (hp : ∀ i, i < K.length → K.getD i 0 = fst.getD (pls.getD i 0) 0) (hpl : ∀ i, i < K.length → pls.getD i 0 < fst.length) (hO' : ∀ i, i < O'.length → O'.getD i 0 < fst.length)
    (hY : ∀ b, b < fst.length → T o0 o0 * Y b 0 = 0 - T o0 (fst.getD b 0)) (hr : Reg O.length (sb T O O)) (M : Mat) (hM : ∀ i, i < fst.length → ∀ j, j < fst.length → M i j = T (fst.getD i 0) (fst.getD j 0) + T (fst.getD i 0) o0 * Y j 0) :
    Reg O'.length (sb M O' O') ∧ ∀ X' : Nat → Nat → Rat, (∀ k, k < K.length → ∀ i, i < O.length → (sg O.length fun j => sb T O O i j * X k j) = 0 - T (O.getD i 0) (K.getD k 0)) → (∀ k, k < K.length → ∀ i, i < O'.length → (sg O'.length fun j => sb M O' O' i j * X' k j) = 0 - M (O'.getD i 0) (pls.getD k 0)) →
      ∀ r k, r < K.length → k < K.length → RR T K O X r k = M (pls.getD r 0) (pls.getD k 0) + sg O'.length fun o => M (pls.getD r 0) (O'.getD o 0) * X' k o := by
  have row0 : ∀ (c : Rat) (v : Nat → Rat), (sg O.length fun j => sb T O O 0 j * (if j = 0 then c else v (j - 1))) = T o0 o0 * c + sg O'.length fun j => T o0 (fst.getD (O'.getD j 0) 0) * v j := fun c v => by
    rw [hO, sg_first, if_pos rfl]
    congr 1
    · unfold sb; rw [h0]
    · refine sg_congr fun j hj => ?_
      rw [if_neg (by omega), Nat.add_sub_cancel]
      unfold sb; rw [h0, hf j hj]
  have rowS : ∀ (c : Rat) (v : Nat → Rat) (i : Nat), i < O'.length → (sg O.length fun j => sb T O O (i + 1) j * (if j = 0 then c else v (j - 1))) = T (fst.getD (O'.getD i 0) 0) o0 * c + sg O'.length fun j => T (fst.getD (O'.getD i 0) 0) (fst.getD (O'.getD j 0) 0) * v j := fun c v i hi => by
    rw [hO, sg_first, if_pos rfl]
    congr 1
    · unfold sb; rw [h0, hf i hi]
    · refine sg_congr fun j hj => ?_
      rw [if_neg (by omega), Nat.add_sub_cancel]
      unfold sb; rw [hf i hi, hf j hj]
  have yv : ∀ v : Nat → Rat, T o0 o0 * (sg O'.length fun o => Y (O'.getD o 0) 0 * v o) = 0 - sg O'.length fun j => T o0 (fst.getD (O'.getD j 0) 0) * v j := fun v => by
    rw [← sg_mul]
    have : (sg O'.length fun j => T o0 o0 * (Y (O'.getD j 0) 0 * v j)) = sg O'.length fun j => (-1 : Rat) * (T o0 (fst.getD (O'.getD j 0) 0) * v j) := sg_congr fun j hj => by
      have := hY _ (hO' j hj); grind
    rw [this, sg_mul]; grind
  have mrow : ∀ (i : Nat), i < fst.length → ∀ v : Nat → Rat, (sg O'.length fun j => M i (O'.getD j 0) * v j) = (sg O'.length fun j => T (fst.getD i 0) (fst.getD (O'.getD j 0) 0) * v j) + T (fst.getD i 0) o0 * sg O'.length fun o => Y (O'.getD o 0) 0 * v o := fun i hi v => by
    rw [← sg_mul, ← sg_add]
    exact sg_congr fun j hj => by rw [hM i hi _ (hO' j hj)]; grind
  refine ⟨fun v hv j hj => ?_, fun X' hX hX' r k hr' hk => ?_⟩
  · have := hr (fun j => if j = 0 then sg O'.length (fun o => Y (O'.getD o 0) 0 * v o) else v (j - 1)) (fun i hi => by
      cases i with
      | zero => rw [show dt O.length (sb T O O 0) _ = _ from row0 _ v, yv]; grind
      | succ i =>
        have hi' : i < O'.length := by omega
        rw [show dt O.length (sb T O O (i + 1)) _ = _ from rowS _ v i hi']
        have e := hv i hi'
        have e2 := mrow (O'.getD i 0) (hO' i hi') v
        rw [show dt O'.length (sb M O' O' i) v = sg O'.length fun j => M (O'.getD i 0) (O'.getD j 0) * v j from rfl, e2] at e
        grind) (j + 1) (by omega)
    try dsimp only at this
    rw [if_neg (by omega), Nat.add_sub_cancel] at this
    exact this
  · have u := reg_uniq hr (x := X k) (y := fun j => if j = 0 then Y (pls.getD k 0) 0 + sg O'.length (fun o => Y (O'.getD o 0) 0 * X' k o) else X' k (j - 1)) (hX k hk) (fun i hi => by
      cases i with
      | zero =>
        rw [row0 _ (X' k), h0, hp k hk]
        have e1 := yv (X' k)
        have e2 := hY _ (hpl k hk)
        generalize (sg O'.length fun o => Y (O'.getD o 0) 0 * X' k o) = S1 at *
        generalize (sg O'.length fun j => T o0 (fst.getD (O'.getD j 0) 0) * X' k j) = S2 at *
        grind
      | succ i =>
        have hi' : i < O'.length := by omega
        rw [rowS _ (X' k) i hi', hf i hi', hp k hk]
        have e := hX' k hk i hi'
        have e2 := mrow (O'.getD i 0) (hO' i hi') (X' k)
        rw [show (sg O'.length fun j => sb M O' O' i j * X' k j) = sg O'.length fun j => M (O'.getD i 0) (O'.getD j 0) * X' k j from rfl, e2, hM _ (hO' i hi') _ (hpl k hk)] at e
        generalize (sg O'.length fun o => Y (O'.getD o 0) 0 * X' k o) = S1 at *
        generalize (sg O'.length fun j => T (fst.getD (O'.getD i 0) 0) (fst.getD (O'.getD j 0) 0) * X' k j) = S2 at *
        grind)
    unfold RR
    have e0 : (sg O.length fun o => T (K.getD r 0) (O.getD o 0) * X k o) = T (fst.getD (pls.getD r 0) 0) o0 * (Y (pls.getD k 0) 0 + sg O'.length fun o => Y (O'.getD o 0) 0 * X' k o) + sg O'.length fun j => T (fst.getD (pls.getD r 0) 0) (fst.getD (O'.getD j 0) 0) * X' k j := by
      rw [hO, sg_first, h0, hp r hr']
      congr 1
      · rw [u 0 (by omega), if_pos rfl]
      · refine sg_congr fun j hj => ?_
        rw [u (j + 1) (by omega), if_neg (by omega), Nat.add_sub_cancel, hf j hj]
    rw [e0, mrow _ (hpl r hr') (X' k), hM _ (hpl r hr') _ (hpl k hk), hp r hr', hp k hk]
    grind
end N24
end Lw
set_option Elab.async false
set_option linter.all false
set_option maxRecDepth 100000
set_option maxHeartbeats 1000000
namespace Lw
open PySem PySem.Spec PyProof.Rows L2 Dn
namespace N24
open Rw Bm
theorem mat_ix {m n : Nat} (T : Mat) {i j : Nat} (hi : i < m) (hj : j < n) (p : Option Pl) : op2 dIx (op2 dIx (kx (.lst (matL m n T))) (kx (.int (i : Nat)))) (kx (.int (j : Nat))) p = some (rD (T i j), p) := by
  have a1 := mat_at (W := n) T hi
  have a2 := row_at (T i) hj
  unfold rowD at a1
  generalize rowL n (T i) = R at *
  generalize matL m n T = M at *
  simp [a1, a2]
/-- a table as drawn -/
structure Dr (m : Nat) (T : Mat) : Prop where
  lo : 1 ≤ m
  hi : m ≤ 5
  i : ∀ i, i < m → ∀ j, j < m → Bm.In 36 20 (T i j)
  s : ∀ i, i < m → ∀ j, j < m → T i j = T j i
theorem Dr.tb {m : Nat} {T : Mat} (h : Dr m T) : Tb m 20 T := ⟨⟨36, by decide, by decide, h.i⟩, Nat.le_trans (gr_le 21 h.hi) (by decide), by have := h.hi; omega⟩
theorem sml_ok {r : Rat} (h : Sml r) : Ok r := h.sm (k := 4000) (Nat.lt_of_lt_of_le (show 6 < 2 ^ 3 by decide) (Nat.pow_le_pow_right (by decide) (by decide))) (by decide)
theorem p36 : 36 < 2 ^ 4000 := Nat.lt_of_lt_of_le (show 36 < 2 ^ 6 by decide) (Nat.pow_le_pow_right (by decide) (by decide))
theorem table_ok (P : Pl) : ∃ m T P', m__law_turned_table P [] = some (matL m m T, P') ∧ Dr m T := by
  have w : Wp (f__law_turned_table (some P)) (fun r => ∃ m T P', r = (matL m m T, some P') ∧ Dr m T) := by
    unfold f__law_turned_table
    obtain ⟨v, P1, d1, l1, u1⟩ := draw_ok P 5 (by decide) (by decide)
    obtain ⟨m, hm⟩ := Int.eq_ofNat_of_zero_le (show 0 ≤ 1 + v by omega)
    have m1 : 1 ≤ m := by omega
    have m5 : m ≤ 5 := by omega
    refine wp_bd (p := some P1) (a := .int (m : Nat)) (by simp [d1, hm]) ?_
    have rg := rng1N m (by omega)
    have src : ∀ P : Pl, cal rng1 (ac (kx (.int (m : Nat))) (an)) (some P) = some ((List.range m).map fun i : Nat => D.int (i : Nat), some P) := fun P => by simp [rg]
    have hM : ∃ M P2, frzX (lcB (cal rng1 (ac (kx (.int (m : Nat))) (an))) fun k p => elX (frzX (lcB (cal rng1 (ac (kx (.int (m : Nat))) (an))) fun j p => elX (calP m__law_small_told (an)) p)) p) (some P1) = some (.lst (matL m m M), some P2) ∧ ∀ i, i < m → ∀ j, j < m → Sml (M i j) := by
      obtain ⟨vs, P2, e, l, q⟩ := lc_drawN (one := fun k p => elX (frzX (lcB (cal rng1 (ac (kx (.int (m : Nat))) (an))) fun j p => elX (calP m__law_small_told (an)) p)) p) (fun d => ∃ r : Nat → Rat, d = rowD m r ∧ ∀ j, j < m → Sml (r j)) ((List.range m).map fun i : Nat => D.int (i : Nat)) P1 fun d _ P => by
        obtain ⟨z, P', e, hz⟩ := smalls_ok (fun i : Nat => D.int (i : Nat)) (List.range m) _ P P (src P) (by simp; omega) (fun j p => elX (calP m__law_small_told (an)) p) (fun _ _ => rfl)
        rw [List.length_range] at e hz
        exact ⟨rowD m z, P', by rw [n_elX, frz_ok e]; rfl, z, rfl, hz⟩
      obtain ⟨M, eM, hM⟩ := list_fun vs q
      rw [List.length_map, List.length_range] at l
      rw [l] at eM hM
      refine ⟨M, P2, frz_ok ?_, hM⟩
      rw [n_lcB, src, Option.bind_some, List.length_map, List.length_range, x_sized (by omega), x_bT, e, eM]
      rfl
    obtain ⟨M, P2, eM, hM⟩ := hM
    refine wp_bd eM ?_
    obtain ⟨b, P3, d3, l3, u3⟩ := draw_ok P2 2 (by decide) (by decide)
    refine wp_if (t := decide (b = 0)) (p := some P3) (by simp [d3]) (fun _ => ?_) (fun _ => ?_)
    · refine wp_bd (p := some P3) (a := matL m m fun i j => M i j + M j i) (lcB_map (p1 := some P3) (fun i : Nat => D.int (i : Nat)) (fun i => rowD m fun j => M i j + M j i) (List.range m) (src P3) (by simp; omega) fun i hi => ?_) ?_
      · have hi' := List.mem_range.mp hi
        rw [n_elX, frz_ok (lcB_map (p1 := some P3) (fun i : Nat => D.int (i : Nat)) (fun j => rD (M i j + M j i)) (List.range m) (src P3) (by simp; omega) fun j hj => ?_)]
        · rfl
        · have hj' := List.mem_range.mp hj
          rw [n_elX, cal2 (mat_ix M hi' hj' _) (mat_ix M hj' hi' _) (_law_add_ok (sml_ok (hM i hi' j hj')) (sml_ok (hM j hj' i hi')))]; rfl
      · exact wp_some ⟨m, _, P3, rfl, m1, m5, fun i hi j hj => (In.up ((hM i hi j hj).add (hM j hj i hi)) (M := 6) (m := 3) (by decide) (by decide) (by decide)).mono (by decide), fun i hi j hj => by (try dsimp only); grind⟩
    · have ter : ∀ i, i < m → ∀ j, j < m → Ter m (M i) (M j) := fun i hi j hj => ⟨fun k hk => sml_ok (hM i hi k hk), fun k hk => sml_ok (hM j hj k hk), 36, 10, by decide, p36, by decide, fun k hk => In.mul (hM i hi k hk) (hM j hj k hk)⟩
      refine wp_bd (p := some P3) (a := matL m m fun i j => sg m fun k => M i k * M j k) (lcB_map (p1 := some P3) (fun i : Nat => D.int (i : Nat)) (fun i => rowD m fun j => sg m fun k => M i k * M j k) (List.range m) (src P3) (by simp; omega) fun i hi => ?_) ?_
      · have hi' := List.mem_range.mp hi
        rw [n_elX, frz_ok (lcB_map (p1 := some P3) (fun i : Nat => D.int (i : Nat)) (fun j => rD (sg m fun k => M i k * M j k)) (List.range m) (src P3) (by simp; omega) fun j hj => ?_)]
        · rfl
        · have hj' := List.mem_range.mp hj
          have ld := ldot_ok (ter i hi' j hj') (by omega)
          have a1 := mat_at (W := m) M hi'
          have a2 := mat_at (W := m) M hj'
          unfold rowD at a1 a2
          rw [n_elX, cal2 (p1 := some P3) (p2 := some P3) (x := .lst (rowL m (M i))) (y := .lst (rowL m (M j))) (op2_ok rfl rfl (by rw [x_ixL]; exact a1)) (op2_ok rfl rfl (by rw [x_ixL]; exact a2)) ld]; rfl
      · exact wp_some ⟨m, _, P3, rfl, m1, m5, fun i hi j hj => (sg_in (by decide) (by omega) fun k hk => In.mul (hM i hi k hk) (hM j hj k hk)), fun i hi j hj => by (try dsimp only); exact sg_congr fun k _ => Rat.mul_comm _ _⟩
  obtain ⟨r, e, m, T, P', rfl, h⟩ := w
  exact ⟨m, T, P', e__law_turned_table e, h⟩
/-! lists of places -/
theorem gdMap {f : Nat → Nat} {l : List Nat} {r : Nat} (h : r < l.length) : (l.map f).getD r 0 = f (l.getD r 0) := by
  simp [List.getD, List.getElem?_eq_getElem h]
theorem index_filter (l : List Nat) (p : Nat → Bool) : (((List.range l.length).filter fun k => p (l.getD k 0)).map fun k => l.getD k 0) = l.filter p := by
  have h : ((List.range l.length).map fun k => l.getD k 0) = l := by
    have := map_getD 0 (fun x => x) l
    rw [List.map_id'] at this
    exact this
  conv => rhs; rw [← h]
  rw [List.filter_map]; rfl
theorem kept_filter {m : Nat} {K : List Nat} (hs : K.Pairwise (· < ·)) (hK : ∀ k ∈ K, k < m) : (List.range m).filter (fun c => decide (c ∈ K)) = K := by
  refine rise_eq (List.pairwise_lt_range.filter _) hs fun c => ?_
  rw [List.mem_filter, List.mem_range, decide_eq_true_eq]
  exact ⟨fun h => h.2, fun h => ⟨hK c h, h⟩⟩
/-- places behind the first other one is left out -/
theorem places {m o0 : Nat} {K rest : List Nat} (hs : K.Pairwise (· < ·)) (hK : ∀ k ∈ K, k < m) (ho : oth m K = o0 :: rest) :
    let fst := (List.range m).filter fun c => !decide (c = o0)
    let pls := (List.range fst.length).filter fun k => decide (fst.getD k 0 ∈ K)
    (pls.map fun k => fst.getD k 0) = K ∧ ((oth fst.length pls).map fun k => fst.getD k 0) = rest ∧ oth m fst = [o0] ∧ pls.Pairwise (· < ·) ∧ (∀ k ∈ pls, k < fst.length) := by
  intro fst pls
  have hm : o0 ∈ oth m K := by rw [ho]; exact List.mem_cons_self
  obtain ⟨h1, h2⟩ := List.mem_filter.mp hm
  have h1' := List.mem_range.mp h1
  have h2' : o0 ∉ K := by simpa using h2
  have so : (oth m K).Pairwise (· < ·) := List.pairwise_lt_range.filter _
  rw [ho] at so
  obtain ⟨s1, s2⟩ := List.pairwise_cons.mp so
  have sf : fst.Pairwise (· < ·) := List.pairwise_lt_range.filter _
  refine ⟨?_, ?_, ?_, List.pairwise_lt_range.filter _, fun k hk => List.mem_range.mp (List.mem_filter.mp hk).1⟩
  · have := index_filter fst fun c => decide (c ∈ K)
    rw [show (pls.map fun k => fst.getD k 0) = _ from this]
    refine rise_eq (sf.filter _) hs fun c => ?_
    rw [List.mem_filter, List.mem_filter, List.mem_range]
    constructor
    · intro h; simpa using h.2
    · intro h
      have : c ≠ o0 := fun e => h2' (e ▸ h)
      simp [h, hK c h, this]
  · have e : oth fst.length pls = (List.range fst.length).filter fun k => !decide (fst.getD k 0 ∈ K) := by
      unfold oth
      refine List.filter_congr fun k hk => ?_
      congr 1
      rw [decide_eq_decide]
      constructor
      · intro h; have := (List.mem_filter.mp h).2; simpa using this
      · intro h; exact List.mem_filter.mpr ⟨hk, by simpa using h⟩
    rw [e]
    have := index_filter fst fun c => !decide (c ∈ K)
    rw [this]
    refine rise_eq (sf.filter _) s2 fun c => ?_
    rw [List.mem_filter, List.mem_filter, List.mem_range]
    have hc : c ∈ o0 :: rest ↔ c < m ∧ c ∉ K := by
      rw [← ho]
      unfold oth
      rw [List.mem_filter, List.mem_range]; simp
    rw [List.mem_cons] at hc
    constructor
    · rintro ⟨⟨a1, a2⟩, a3⟩
      have a2' : c ≠ o0 := by simpa using a2
      have a3' : c ∉ K := by simpa using a3
      exact (hc.mpr ⟨a1, a3'⟩).resolve_left a2'
    · intro h
      obtain ⟨b1, b2⟩ := hc.mp (.inr h)
      have : c ≠ o0 := fun e => by have := s1 c h; omega
      simp [b1, b2, this]
  · unfold oth
    refine rise_eq (List.pairwise_lt_range.filter _) (List.pairwise_singleton _ _) fun c => ?_
    rw [List.mem_filter, List.mem_range, List.mem_singleton]
    constructor
    · rintro ⟨a1, a2⟩
      have a2' : c ∉ fst := by simpa using a2
      refine Classical.byContradiction fun ne => a2' ?_
      exact List.mem_filter.mpr ⟨List.mem_range.mpr a1, by simpa using ne⟩
    · rintro rfl
      refine ⟨h1', ?_⟩
      have : c ∉ fst := fun h => by have := (List.mem_filter.mp h).2; simp at this
      simpa using this
end N24
end Lw
set_option Elab.async false
set_option linter.all false
set_option maxRecDepth 100000
set_option maxHeartbeats 2000000
namespace Lw
open PySem PySem.Spec PyProof.Rows L2 Dn
namespace N24
open Rw Bm
theorem ints_D (L : List Nat) : ldL L = L.map fun c : Nat => D.int (c : Nat) := rfl
theorem rank0 : m__law_rank [.lst []] = some (.int 0) := by
  have r : rng1 [.int 0] = some [] := rng1N 0 (by decide)
  simp [m__law_rank, b__law_rank, x_runF, env0, r, x_lc0, x_for0, sForS]
theorem pd_mat (n : Nat) (F : Mat) (hn : n < 1000) : pd 19 (.lst (matL n n F)) = true := by
  unfold pd
  rw [Bool.and_eq_true, decide_eq_true_eq, List.all_eq_true]
  refine ⟨by rw [mat_len]; omega, fun d hd => ?_⟩
  obtain ⟨i, _, rfl⟩ := List.mem_map.mp hd
  unfold rowD pd
  rw [Bool.and_eq_true, decide_eq_true_eq, List.all_eq_true]
  refine ⟨by rw [row_len]; omega, fun d hd => ?_⟩
  obtain ⟨j, _, rfl⟩ := List.mem_map.mp hd
  simp [rD, pd]
theorem fl_row (n : Nat) (f : Nat → Rat) : fl 20 (.lst (rowL n f)) = true := by
  rw [fl_lst, List.all_eq_true]
  intro d hd
  obtain ⟨j, _, rfl⟩ := List.mem_map.mp hd
  simp [rD, fl_tup, fl_int]
theorem law_w (ns : List Int) : Wp (f_law (.scr ns) none) fun r => r.1 = .bl true := by
  obtain ⟨z, hp⟩ := pool_ok ns
  unfold f_law
  refine wp_pn (ns := ns) (a := 0) (b := z) (c := 0) (by simp [hp]) ?_
  refine wp_bd (p := some ⟨ns, 0, z, 0⟩) (a := (List.range 3).map fun i : Nat => D.int (i : Nat)) (by simp; exact rng1N 3 (by decide)) ?_
  refine wp_lpG (fun i : Nat => D.int (i : Nat)) (fun _ _ p => ∃ P, p = some P) (List.range 3) ⟨_, rfl⟩ ?_ (fun _ _ _ => wp_some rfl)
  rintro j tt u p _ ⟨P, rfl⟩
  obtain ⟨P0, n0⟩ := next_ok P
  obtain ⟨m, T, P1, eT, dT⟩ := table_ok P0
  have tb := dT.tb
  have m1 := dT.lo
  have m5 := dT.hi
  have lT := mat_len m m T
  refine wp_bd (p := some P0) (a := .non) (by simp [n0]) ?_
  refine wp_bd (p := some P1) (a := .lst (matL m m T)) (by simp [eT]) ?_
  have hlen : ∀ p, cal gLen (ac (kx (.lst (matL m m T))) (an)) p = some (.int (m : Nat), p) := fun p => by simp [lT]
  have rg := rng1N m (by omega)
  have srcm : ∀ p, cal rng1 (ac (cal gLen (ac (kx (.lst (matL m m T))) (an))) (an)) p = some ((List.range m).map fun i : Nat => D.int (i : Nat), p) := fun p => by simp [lT, rg]
  -- kept
  have hK : ∃ (K0 : List Nat) (P2 : Pl), frzX (lcB (cal rng1 (ac (cal gLen (ac (kx (.lst (matL m m T))) (an))) (an))) fun at' p => telX (op1 blD (op2 dEq (calP m__law_draw (ac (kx (.int 2)) (an))) (kx (.int 0)))) (kx at') p) (some P1) = some (.lst (ldL K0), some P2) ∧ K0.Sublist (List.range m) := by
    obtain ⟨ys, P2, e, hs⟩ := lc_drawF (one := fun at' p => telX (op1 blD (op2 dEq (calP m__law_draw (ac (kx (.int 2)) (an))) (kx (.int 0)))) (kx at') p) (fun i : Nat => D.int (i : Nat)) (fun i : Nat => D.int (i : Nat)) (List.range m) P1 fun x _ P => by
      obtain ⟨v, P', d, _, _⟩ := draw_ok P 2 (by decide) (by decide)
      refine ⟨decide (v = 0), P', ?_⟩
      by_cases h : v = 0 <;> simp [d, h]
    refine ⟨ys, P2, frz_ok ?_, hs⟩
    rw [n_lcB, srcm, Option.bind_some, List.length_map, List.length_range, x_sized (by omega), x_bT, e]
  obtain ⟨K0, P2, eK0, sK0⟩ := hK
  refine wp_bd eK0 ?_
  have hK : ∃ K : List Nat, iteX (op1 blD (op2 dGt (cal gLen (ac (kx (.lst (ldL K0))) (an))) (kx (.int 0)))) (kx (.lst (ldL K0))) (frzX (lstX (ac (kx (.int 0)) (an)))) (some P2) = some (.lst (ldL K), some P2) ∧ K.Pairwise (· < ·) ∧ (∀ k ∈ K, k < m) ∧ 0 < K.length := by
    by_cases h : 0 < K0.length
    · refine ⟨K0, by simp [h], List.Pairwise.sublist sK0 List.pairwise_lt_range, fun k hk => List.mem_range.mp (sK0.subset hk), h⟩
    · refine ⟨[0], by simp [h], List.pairwise_singleton _ _, fun k hk => by rw [List.mem_singleton.mp hk]; omega, by simp⟩
  obtain ⟨K, eK, sK, bK, qK⟩ := hK
  refine wp_bd eK ?_
  have lK : K.length ≤ m := by
    have := nodup_le K (List.range m) (sK.imp fun h => by omega) fun x hx => List.mem_range.mpr (bK x hx)
    rw [List.length_range] at this; exact this
  have kget : ∀ r, r < K.length → K.getD r 0 < m := fun r hr => bK _ (getD_memα hr)
  have lO := oth_len m K
  have olt : ∀ c ∈ oth m K, c < m := fun c hc => List.mem_range.mp (List.mem_filter.mp hc).1
  have oget : ∀ r, r < (oth m K).length → (oth m K).getD r 0 < m := fun r hr => oth_lt hr
  refine wp_bd (p := some P2) (a := .lst (ldL (oth m K))) (frz_ok (lcB_fil (p1 := some P2) (fun i : Nat => D.int (i : Nat)) (fun c => !decide (c ∈ K)) (fun i : Nat => D.int (i : Nat)) (List.range m) (srcm _) (by simp; omega) fun c hc => ?_)) ?_
  · have := (dIn_ints c K).2
    by_cases hm : c ∈ K
    · rw [decide_eq_true hm] at this; simp [this, hm]
    · rw [decide_eq_false hm] at this; simp [this, hm]
  -- part
  have ePart : (oth m K).map (fun c => D.lst ((oth m K).map fun d => rD (T c d))) = matL (oth m K).length (oth m K).length (sb T (oth m K) (oth m K)) := by
    rw [← rows_eq (k := 0)]
    exact mat_congr fun i hi j hj => by unfold Fk; rw [if_pos hj]
  refine wp_bd (p := some P2) (a := .lst (matL (oth m K).length (oth m K).length (sb T (oth m K) (oth m K)))) ?_ ?_
  · rw [← ePart]
    refine frz_ok (lcB_map (p1 := some P2) (fun i : Nat => D.int (i : Nat)) (fun c => D.lst ((oth m K).map fun d => rD (T c d))) (oth m K) rfl (by omega) fun c hc => ?_)
    rw [n_elX, frz_ok (lcB_map (p1 := some P2) (fun i : Nat => D.int (i : Nat)) (fun d => rD (T c d)) (oth m K) rfl (by omega) fun d hd => by rw [n_elX, mat_ix T (olt c hc) (olt d hd)]; rfl)]; rfl
  have copyT : ∀ p, lcB (op1 itD (kx (.lst (matL m m T)))) (fun row p => elX (frzX (cal gList (ac (kx row) (an)))) p) p = some (matL m m T, p) := fun p => by
    have := lcB_map (p := p) (p1 := p) (src := op1 itD (kx (.lst (matL m m T)))) (one := fun row p => elX (frzX (cal gList (ac (kx row) (an)))) p) (fun i => rowD m (T i)) (fun i => rowD m (T i)) (List.range m) (by simp [matL]) (by simp; omega) (fun i _ => by simp [rowD])
    exact this
  have red := red_ok tb bK qK (by omega)
  have rankD : ∃ g : Nat, m__law_rank [.lst (matL (oth m K).length (oth m K).length (sb T (oth m K) (oth m K)))] = some (.int (g : Nat)) ∧ (g < (oth m K).length ↔ ¬ Reg (oth m K).length (sb T (oth m K) (oth m K))) := by
    by_cases h0 : (oth m K).length = 0
    · refine ⟨0, ?_, ?_⟩
      · rw [h0]; exact rank0
      · rw [h0]
        exact ⟨fun h => by omega, fun h => absurd (fun v _ j hj => by omega) h⟩
    · have E := ech_run (good_elow (oth m K).length) (sb T (oth m K) (oth m K)) (oth m K).length
      refine ⟨_, rank_ok (a := 20) _ (by omega) (by omega) (by omega) ⟨36, by decide, by decide, fun i hi j hj => dT.i _ (oget i hi) _ (oget j hj)⟩ (fun t h1 _ => ?_), ?_⟩
      · have : gr t 20 ≤ gr 5 20 := gr_le 20 (by omega)
        have : gr 5 20 = 671 := by decide
        omega
      · rw [reg_rank]
        have := ech_len E
        omega
  obtain ⟨g, rk, gi⟩ := rankD
  have oLen : ∀ p, cal gLen (ac (kx (.lst (ldL (oth m K)))) (an)) p = some (.int ((oth m K).length : Nat), p) := fun p => by simp
  have kLen : ∀ p, cal gLen (ac (kx (.lst (ldL K))) (an)) p = some (.int (K.length : Nat), p) := fun p => by simp
  have kcopy : ∀ p, frzX (cal gList (ac (kx (.lst (ldL K))) (an))) p = some (.lst (ldL K), p) := fun p => by simp
  rcases Classical.em (¬ Reg (oth m K).length (sb T (oth m K) (oth m K))) with hr | hr
  · refine wp_bd (p := some P2) (a := .non) (cal2 (frz_ok (copyT _)) (kcopy _) (red.1 hr)) ?_
    have gl := gi.mpr hr
    refine wp_iff (p := some P2) (op1_ok (op2_ok (p1 := some P2) (x := .bl true) (by simp) (op2_ok (cal1 rfl rk) (oLen _) (z := .bl true) (by rw [x_lt]; simp; exact gl)) (z := .bl false) (by simp)) rfl) ?_
    refine wp_ift (p := some P2) (by simp) ?_
    exact wp_some ⟨_, _, rfl, P2, rfl⟩
  have hr : Reg (oth m K).length (sb T (oth m K) (oth m K)) := Classical.not_not.mp hr
  obtain ⟨X, hX, eR⟩ := red.2 hr
  have gl : ¬ g < (oth m K).length := fun h => (gi.mp h) hr
  refine wp_bd (p := some P2) (a := .lst (matL K.length K.length (RR T K (oth m K) X))) (cal2 (frz_ok (copyT _)) (kcopy _) eR) ?_
  refine wp_iff (p := some P2) (op1_ok (op2_ok (p1 := some P2) (x := .bl false) (by simp) (op2_ok (cal1 rfl rk) (oLen _) (z := .bl false) (by rw [x_lt]; simp; omega)) (z := .bl false) (by simp)) rfl) ?_
  refine wp_iff (p := some P2) (by simp) ?_
  obtain ⟨zz, P3, eZ, hZ⟩ := smalls_ok (fun i : Nat => D.int (i : Nat)) K (op1 itD (kx (.lst (ldL K)))) P2 P2 rfl (by omega) (fun at' p => elX (calP m__law_small_told (an)) p) (fun _ _ => rfl)
  refine wp_bd (p := some P3) (frz_ok eZ) ?_
  have terK : ∀ c, c < m → Ter K.length (fun k => T c (K.getD k 0)) zz := fun c hc => ⟨fun k hk => tb.ok hc (kget k hk), fun k hk => sml_ok (hZ k hk), 36 * 6, 25, by decide, Nat.lt_of_lt_of_le (show 36 * 6 < 2 ^ 8 by decide) (Nat.pow_le_pow_right (by decide) (by decide)), by decide, fun k hk => In.mul (dT.i c hc _ (kget k hk)) (hZ k hk)⟩
  have dotK : ∀ c, c < m → m__law_dot [.lst (K.map fun k => rD (T c k)), .lst (rowL K.length zz)] = some (rD (sg K.length fun k => T c (K.getD k 0) * zz k)) := fun c hc => by
    have := ldot_ok (terK c hc) (by omega)
    rw [← map_getD 0 (fun k => rD (T c k)) K]
    exact this
  have rowK : ∀ c, c < m → ∀ p, frzX (lcB (op1 itD (kx (.lst (ldL K)))) fun j p => elX (op2 dIx (op2 dIx (kx (.lst (matL m m T))) (kx (.int (c : Nat)))) (kx j)) p) p = some (.lst (K.map fun k => rD (T c k)), p) := fun c hc p => frz_ok (lcB_map (p1 := p) (fun i : Nat => D.int (i : Nat)) (fun k => rD (T c k)) K rfl (by omega) fun k hk => by rw [n_elX, mat_ix T hc (bK k hk)]; rfl)
  refine wp_bd (p := some P3) (a := []) (by simp) ?_
  refine wp_bd (p := some P3) (a := ldL (oth m K)) rfl ?_
  let rt : Nat → Rat := fun i => 0 - sg K.length fun k => T ((oth m K).getD i 0) (K.getD k 0) * zz k
  have rtI : ∀ i, i < (oth m K).length → Bm.In 216 36 (rt i) := fun i hi => (In.zero (by decide)).sub (sg_in (b := 25) (by decide) (by omega) fun k hk => In.mul (dT.i _ (oget i hi) _ (kget k hk)) (hZ k hk))
  rw [ldL_range (oth m K)]
  refine wp_lpS (fun i : Nat => D.int ((((oth m K).getD i 0 : Nat)) : Int)) (fun j s p => s = (List.range j).map (fun i => rD (rt i)) ∧ p = some P3) (List.range (oth m K).length) ⟨rfl, rfl⟩ ?_ ?_
  · rintro j i s p hk ⟨rfl, rfl⟩
    obtain ⟨hi, rfl⟩ := at_range hk
    have oi := oget i hi
    have sub := _law_sub_ok (a := 0) (Sm.zero (n := 4000) (by decide)) ((terK _ oi).sm (by omega) (Nat.le_refl _))
    refine wp_bd (p := some P3) (a := rD (rt i)) (cal2 (tup2 rfl rfl) (cal2 (rowK _ oi _) rfl (dotK _ oi)) sub) ?_
    refine wp_gd (x_sized (by simp; omega)) ?_
    exact wp_some ⟨by rw [List.range_succ, List.map_append]; rfl, rfl⟩
  rintro s p ⟨rfl, rfl⟩
  rw [List.length_range, ← ldL_range]
  -- the own solving
  have vs := vsolved_ok (a := 40) (G := Rs (oth m K).length (sb T (oth m K) (oth m K)) rt) hr (fun i _ j hj => if_pos hj) (by omega) ⟨216, by decide, by decide, fun i hi j hj => by
    unfold Rs
    split
    · rename_i hj'
      exact (In.up (dT.i _ (oget i hi) _ (oget j hj')) (M := 6) (m := 3) (by decide) (by decide) (by decide)).mono (by decide)
    · exact (rtI i hi).mono (by decide)⟩ (fun t ht => by
    have : gr t 40 ≤ gr 4 40 := gr_le 40 (by omega)
    have : gr 4 40 = 655 := by decide
    omega)
  have eG : matL (oth m K).length (oth m K).length (Rs (oth m K).length (sb T (oth m K) (oth m K)) rt) = matL (oth m K).length (oth m K).length (sb T (oth m K) (oth m K)) := mat_congr fun i hi j hj => if_pos hj
  have eRt : rgtL (oth m K).length (oth m K).length (Rs (oth m K).length (sb T (oth m K) (oth m K)) rt) = (List.range (oth m K).length).map fun i => rD (rt i) := by
    unfold rgtL Rs
    exact List.map_congr_left fun i _ => by rw [if_neg (Nat.lt_irrefl _)]
  rw [eG, eRt] at vs
  have fy := vfit (r := rt) hr
  have cy := cd_run (good_elim (oth m K).length) (sized_elim (oth m K).length ((oth m K).length + 1)) (F := Rs (oth m K).length (sb T (oth m K) (oth m K)) rt) (a := 40) ⟨216, by decide, by decide, fun i hi j hj => by
    unfold Rs
    split
    · rename_i hj'
      exact (In.up (dT.i _ (oget i hi) _ (oget j hj')) (M := 6) (m := 3) (by decide) (by decide) (by decide)).mono (by decide)
    · exact (rtI i hi).mono (by decide)⟩ (oth m K).length (by omega)
  rw [reg_run (G := Rs (oth m K).length (sb T (oth m K) (oth m K)) rt) hr (fun i _ j hj => if_pos hj) (Nat.le_refl _), List.length_range] at cy
  have g40 : gr (oth m K).length 40 ≤ 1400 := by
    have : gr (oth m K).length 40 ≤ gr 5 40 := gr_le 40 (by omega)
    have : gr 5 40 = 1311 := by decide
    omega
  have yI : ∃ N, 0 < N ∧ N ≤ 2 ^ 1400 ∧ ∀ j, j < (oth m K).length → Bm.In N 1400 ((run (oth m K).length elim (Rs (oth m K).length (sb T (oth m K) (oth m K)) rt) (oth m K).length).1 j (oth m K).length) := by
    obtain ⟨N, h0, h1, h2⟩ := cy
    exact ⟨N, h0, Nat.le_trans h1 (Nat.pow_le_pow_right (by decide) g40), fun j hj => (h2 j hj _ (Nat.lt_succ_self _)).mono g40⟩
  refine wp_bd (p := some P3) (cal2 rfl rfl vs) ?_
  generalize hy : (fun i => (run (oth m K).length elim (Rs (oth m K).length (sb T (oth m K) (oth m K)) rt) (oth m K).length).1 i (oth m K).length) = y at *
  have fy' : ∀ i, i < (oth m K).length → (sg (oth m K).length fun j => sb T (oth m K) (oth m K) i j * y j) = rt i := fun i hi => by rw [← hy]; exact fy i hi
  have yI' : ∃ N, 0 < N ∧ N ≤ 2 ^ 1400 ∧ ∀ j, j < (oth m K).length → Bm.In N 1400 (y j) := by rw [← hy]; exact yI
  clear hy fy yI cy vs
  refine wp_gd (rowL_noL _ _) ?_
  have rgK := rng1N K.length (by omega)
  refine wp_bd (p := some P3) (a := (List.range K.length).map fun i : Nat => D.int (i : Nat)) (by simp [rgK]) ?_
  have kAt : ∀ r, r < K.length → ∀ p, op2 dIx (kx (.lst (ldL K))) (kx (.int (r : Nat))) p = some (.int ((K.getD r 0 : Nat) : Int), p) := fun r hr' p => by
    refine op2_ok rfl rfl ?_
    rw [x_ixL]
    apply atI_nat
    rw [ints_D, List.getElem?_map, getD_some hr']; rfl
  have toldI : ∃ N, 0 < N ∧ N < 2 ^ 3000 ∧ ∀ r, r < K.length → ∀ k, k < K.length → True := ⟨1, by decide, by decide, fun _ _ _ _ => trivial⟩
  have terO : ∀ c, c < m → Ter (oth m K).length (fun o => T c ((oth m K).getD o 0)) y := fun c hc => by
    obtain ⟨N, h0, h1, h2⟩ := yI'
    refine ⟨fun k hk => tb.ok hc (oget k hk), fun k hk => (h2 k hk).sm (Nat.lt_of_le_of_lt h1 (Nat.pow_lt_pow_right (by decide) (by decide))) (by decide), 36 * N, 20 + 1400, Nat.mul_pos (by decide) h0, ?_, by decide, fun k hk => In.mul (dT.i c hc _ (oget k hk)) (h2 k hk)⟩
    refine Nat.lt_of_le_of_lt (Nat.mul_le_mul (show 36 ≤ 2 ^ 6 by decide) h1) ?_
    rw [← Nat.pow_add]; exact Nat.pow_lt_pow_right (by decide) (by decide)
  have to := told_own (T := T) (K := K) (O := oth m K) (X := X) (z := zz) (y := y) hr (fun k hk => (hX k hk).2) (fun i hi => by rw [fy' i hi])
  have sym : ∀ r k, r < K.length → k < K.length → RR T K (oth m K) X r k = RR T K (oth m K) X k r := fun r k h1 h2 => RR_sym dT.s oget kget (fun k hk => (hX k hk).2) h1 h2
  have terR : ∀ r, r < K.length → Ter K.length (RR T K (oth m K) X r) zz := fun r hr' => by
    obtain ⟨N, h0, h1, h2⟩ := (hX r hr').1
    have hi : ∀ k, k < K.length → Bm.In (36 * N) 1231 (RR T K (oth m K) X r k) := fun k hk => by
      rw [sym r k hr' hk]
      unfold RR
      refine In.add (n := 1230) ?_ ((sg_in (b := 1220) (Nat.mul_pos (by decide) h0) (by omega) fun o ho => In.mul (dT.i _ (kget k hk) _ (oget o ho)) (h2 o ho)).mono (by decide))
      exact (In.up (dT.i _ (kget k hk) _ (kget r hr')) (M := N) (m := 1200) h0 h1 rfl).mono (by decide)
    have hN : 36 * N < 2 ^ 1300 := by
      refine Nat.lt_of_le_of_lt (Nat.mul_le_mul (show 36 ≤ 2 ^ 6 by decide) h1) ?_
      rw [← Nat.pow_add]; exact Nat.pow_lt_pow_right (by decide) (by decide)
    refine ⟨fun k hk => (hi k hk).sm (Nat.lt_trans hN (Nat.pow_lt_pow_right (by decide) (by decide))) (by decide), fun k hk => sml_ok (hZ k hk), 36 * N * 6, 1231 + 5, Nat.mul_pos (Nat.mul_pos (by decide) h0) (by decide), ?_, by decide, fun k hk => In.mul (hi k hk) (hZ k hk)⟩
    refine Nat.lt_of_lt_of_le (Nat.mul_lt_mul_of_lt_of_le hN (show 6 ≤ 2 ^ 3 by decide) (by decide)) ?_
    rw [← Nat.pow_add]; exact Nat.pow_le_pow_right (by decide) (by decide)
  have tAt : ∀ r, r < K.length → ∀ p, op2 dIx (kx (.lst (matL K.length K.length (RR T K (oth m K) X)))) (kx (.int (r : Nat))) p = some (rowD K.length (RR T K (oth m K) X r), p) := fun r hr' p => op2_ok rfl rfl (by rw [x_ixL]; exact mat_at _ hr')
  refine wp_lpG (fun i : Nat => D.int (i : Nat)) (fun _ _ p => p = some P3) (List.range K.length) rfl ?_ ?_
  · rintro j r u p hk rfl
    obtain ⟨hr', rfl⟩ := at_range hk
    have rm := kget r hr'
    have tk := terK _ rm
    have tO := terO _ rm
    have ad := _law_add_ok (tk.sm (by omega) (Nat.le_refl _)) (tO.sm (by omega) (Nat.le_refl _))
    rw [← to r] at ad
    have rowKr : ∀ p, frzX (lcB (op1 itD (kx (.lst (ldL K)))) fun j p => elX (op2 dIx (op2 dIx (kx (.lst (matL m m T))) (op2 dIx (kx (.lst (ldL K))) (kx (.int (r : Nat))))) (kx j)) p) p = some (.lst (K.map fun k => rD (T (K.getD r 0) k)), p) := fun p => frz_ok (lcB_map (p1 := p) (fun i : Nat => D.int (i : Nat)) (fun k => rD (T (K.getD r 0) k)) K rfl (by omega) fun k hk => by
      have := mat_ix T rm (bK k hk) p
      rw [n_op2] at this
      rw [n_elX, n_op2]
      have e2 : op2 dIx (kx (.lst (matL m m T))) (op2 dIx (kx (.lst (ldL K))) (kx (.int (r : Nat)))) p = op2 dIx (kx (.lst (matL m m T))) (kx (.int ((K.getD r 0 : Nat) : Int))) p := by
        rw [n_op2, n_op2, n_kx, Option.bind_some, kAt r hr', Option.bind_some]; rfl
      rw [e2, this]; rfl)
    have rowOr : ∀ p, frzX (lcB (op1 itD (kx (.lst (ldL (oth m K))))) fun j p => elX (op2 dIx (op2 dIx (kx (.lst (matL m m T))) (op2 dIx (kx (.lst (ldL K))) (kx (.int (r : Nat))))) (kx j)) p) p = some (.lst ((oth m K).map fun k => rD (T (K.getD r 0) k)), p) := fun p => frz_ok (lcB_map (p1 := p) (fun i : Nat => D.int (i : Nat)) (fun k => rD (T (K.getD r 0) k)) (oth m K) rfl (by omega) fun k hk => by
      have := mat_ix T rm (olt k hk) p
      rw [n_op2] at this
      rw [n_elX, n_op2]
      have e2 : op2 dIx (kx (.lst (matL m m T))) (op2 dIx (kx (.lst (ldL K))) (kx (.int (r : Nat)))) p = op2 dIx (kx (.lst (matL m m T))) (kx (.int ((K.getD r 0 : Nat) : Int))) p := by
        rw [n_op2, n_op2, n_kx, Option.bind_some, kAt r hr', Option.bind_some]; rfl
      rw [e2, this]; rfl)
    have dotO : m__law_dot [.lst ((oth m K).map fun k => rD (T (K.getD r 0) k)), .lst (rowL (oth m K).length y)] = some (rD (sg (oth m K).length fun o => T (K.getD r 0) ((oth m K).getD o 0) * y o)) := by
      have := ldot_ok tO (by omega)
      rw [← map_getD 0 (fun k => rD (T (K.getD r 0) k)) (oth m K)]
      exact this
    refine wp_bd (p := some P3) (cal2 (cal2 (rowKr _) rfl (dotK _ rm)) (cal2 (rowOr _) rfl dotO) ad) ?_
    have dR := ldot_ok (terR r hr') (by omega)
    have ne := ne_rat (sg K.length fun k => RR T K (oth m K) X r k * zz k) (sg K.length fun k => RR T K (oth m K) X r k * zz k)
    rw [decide_eq_true rfl] at ne
    refine wp_iff (p := some P3) (op1_ok (op2_ok (cal2 (tAt r hr' _) rfl dR) rfl ne) rfl) ?_
    exact wp_some ⟨_, _, rfl, rfl⟩
  rintro u p rfl
  have flt : frzX (lcB (cal rng1 (ac (cal gLen (ac (kx (.lst (ldL K))) (an))) (an))) fun k p => telX (op1 blD (op2 dNe (frzX (lcB (op1 itD (kx (.lst (matL K.length K.length (RR T K (oth m K) X))))) fun row p => elX (op2 dIx (kx row) (kx k)) p)) (op2 dIx (kx (.lst (matL K.length K.length (RR T K (oth m K) X)))) (kx k)))) (kx k) p) (some P3) = some (.lst [], some P3) := by
    have := lcB_fil (p := some P3) (p1 := some P3) (src := cal rng1 (ac (cal gLen (ac (kx (.lst (ldL K))) (an))) (an))) (one := fun k p => telX (op1 blD (op2 dNe (frzX (lcB (op1 itD (kx (.lst (matL K.length K.length (RR T K (oth m K) X))))) fun row p => elX (op2 dIx (kx row) (kx k)) p)) (op2 dIx (kx (.lst (matL K.length K.length (RR T K (oth m K) X)))) (kx k)))) (kx k) p) (fun i : Nat => D.int (i : Nat)) (fun _ => false) (fun i : Nat => D.int (i : Nat)) (List.range K.length) (by simp [rgK]) (by simp; omega) (fun k hk => by
      have hk' := List.mem_range.mp hk
      have col : lcB (op1 itD (kx (.lst (matL K.length K.length (RR T K (oth m K) X))))) (fun row p => elX (op2 dIx (kx row) (kx (.int (k : Nat)))) p) (some P3) = some (rowL K.length (RR T K (oth m K) X k), some P3) := by
        have := lcB_map (p := some P3) (p1 := some P3) (src := op1 itD (kx (.lst (matL K.length K.length (RR T K (oth m K) X))))) (one := fun row p => elX (op2 dIx (kx row) (kx (.int (k : Nat)))) p) (fun r => rowD K.length (RR T K (oth m K) X r)) (fun r => rD (RR T K (oth m K) X k r)) (List.range K.length) (by simp [matL]) (by simp; omega) (fun r hr'' => by
          have hr2 := List.mem_range.mp hr''
          rw [← sym r k hr2 hk', n_elX, op2_ok (g := dIx) rfl rfl (show dIx (.lst (rowL K.length (RR T K (oth m K) X r))) (.int (k : Nat)) = some (rD (RR T K (oth m K) X r k)) from row_at _ hk')]; rfl)
        exact this
      have ne := ne_self (fl_row K.length (RR T K (oth m K) X k))
      rw [n_telX, op1_ok (g := blD) (op2_ok (frz_ok col) (tAt k hk' _) ne) rfl]; rfl)
    rw [frz_ok this]; simp
  refine wp_iff (p := some P3) (op1_ok (op2_ok (cal1 flt rfl) rfl (z := .bl false) (by simp)) rfl) ?_
  refine wp_if (t := decide (1 < (oth m K).length)) (p := some P3) (by simp; omega) (fun h1 => ?_) (fun _ => wp_some ⟨_, _, rfl, P3, rfl⟩)
  have h1' : 1 < (oth m K).length := by simpa using h1
  obtain ⟨o0, rest, hor⟩ : ∃ o0 rest, oth m K = o0 :: rest := by
    cases e : oth m K with
    | nil => rw [e] at h1'; simp at h1'
    | cons a b => exact ⟨a, b, rfl⟩
  obtain ⟨q1, q2, q3, q4, q5⟩ := places sK bK hor
  have o0m : o0 < m := olt o0 (by rw [hor]; exact List.mem_cons_self)
  generalize hf : ((List.range m).filter fun c => !decide (c = o0)) = fst at *
  have o0at : ∀ p, op2 dIx (kx (.lst (ldL (oth m K)))) (kx (.int 0)) p = some (.int (o0 : Nat), p) := fun p => by rw [hor, ints_D]; simp
  have fD : ∀ p, frzX (lcB (cal rng1 (ac (cal gLen (ac (kx (.lst (matL m m T))) (an))) (an))) fun at' p => telX (op1 blD (op2 dNe (kx at') (op2 dIx (kx (.lst (ldL (oth m K)))) (kx (.int 0))))) (kx at') p) p = some (.lst (ldL fst), p) := fun p => by
    rw [← hf]
    refine frz_ok (lcB_fil (p1 := p) (fun i : Nat => D.int (i : Nat)) (fun c => !decide (c = o0)) (fun i : Nat => D.int (i : Nat)) (List.range m) (srcm _) (by simp; omega) fun c hc => ?_)
    rw [n_telX, op1_ok (g := blD) (op2_ok rfl (o0at _) (x_neI _ _)) rfl]
    by_cases e : c = o0
    · subst e; simp
    · have : ¬ ((c : Int) = (o0 : Int)) := by omega
      simp [e, this]
  refine wp_bd (fD _) ?_
  have fl0 : ∀ c ∈ fst, c < m := fun c hc => by rw [← hf] at hc; exact List.mem_range.mp (List.mem_filter.mp hc).1
  have fpos : 0 < fst.length := by
    have e := congrArg List.length q1
    rw [List.length_map] at e
    have := List.length_filter_le (fun k => decide (fst.getD k 0 ∈ K)) (List.range fst.length)
    rw [List.length_range] at this
    omega
  have fle : fst.length ≤ 5 := by
    rw [← hf]
    have := List.length_filter_le (fun c => !decide (c = o0)) (List.range m)
    rw [List.length_range] at this; omega
  have r1 := red_ok tb fl0 fpos (by omega)
  rw [q3] at r1
  by_cases h2 : Reg 1 (sb T [o0] [o0])
  case neg =>
    refine wp_bd (p := some P3) (a := .non) (cal2 (frz_ok (copyT _)) rfl (r1.1 h2)) ?_
    refine wp_iff (p := some P3) (by simp) ?_
    exact wp_some ⟨_, _, rfl, P3, rfl⟩
  obtain ⟨Y, hY, eY⟩ := r1.2 h2
  refine wp_bd (p := some P3) (a := .lst (matL fst.length fst.length (RR T fst [o0] Y))) (cal2 (frz_ok (copyT _)) rfl eY) ?_
  refine wp_ift (p := some P3) (by simp) ?_
  have t00 : T o0 o0 ≠ 0 := fun e => by
    have := h2 (fun _ => 1) (fun i hi => by
      have : i = 0 := by omega
      subst this
      show sg 1 (fun j => sb T [o0] [o0] 0 j * 1) = 0
      simp only [sg]
      have : sb T [o0] [o0] 0 0 = T o0 o0 := rfl
      rw [this, e]; grind) 0 (by decide)
    exact absurd this (by decide)
  have hY' : ∀ b, b < fst.length → T o0 o0 * Y b 0 = 0 - T o0 (fst.getD b 0) := fun b hb => by
    have := (hY b hb).2 0 (by show 0 < 1; decide)
    have e1 : (sg [o0].length fun j => sb T [o0] [o0] 0 j * Y b j) = T o0 o0 * Y b 0 := by
      show sg 1 _ = _
      simp only [sg]
      have : sb T [o0] [o0] 0 0 = T o0 o0 := rfl
      rw [this]; grind
    rw [e1] at this
    exact this
  have hM : ∀ i, i < fst.length → ∀ j, j < fst.length → RR T fst [o0] Y i j = T (fst.getD i 0) (fst.getD j 0) + T (fst.getD i 0) o0 * Y j 0 := fun i _ j _ => by
    unfold RR
    show _ + sg 1 _ = _
    simp only [sg]
    have : [o0].getD 0 0 = o0 := rfl
    rw [this]; grind
  have fget : ∀ i, i < fst.length → fst.getD i 0 < m := fun i hi => fl0 _ (getD_memα hi)
  have tbM : Tb fst.length 62 (RR T fst [o0] Y) := by
    obtain ⟨W, w0, w1, w2⟩ := In.div (M := 36) (k := 20) (m := 6) (dT.i o0 o0m o0 o0m) t00 (by decide)
    refine ⟨⟨36 * (36 * W), Nat.mul_pos (by decide) (Nat.mul_pos (by decide) w0), ?_, fun i hi j hj => ?_⟩, ?_, by omega⟩
    · refine Nat.le_trans (Nat.mul_le_mul (show 36 ≤ 2 ^ 6 by decide) (Nat.mul_le_mul (show 36 ≤ 2 ^ 6 by decide) (Nat.le_of_lt w1))) ?_
      rw [← Nat.pow_add, ← Nat.pow_add]; exact Nat.pow_le_pow_right (by decide) (by decide)
    · rw [hM i hi j hj]
      have ey : Y j 0 = (0 - T o0 (fst.getD j 0)) / T o0 o0 := by
        have := hY' j hj
        grind
      have a1 : Bm.In 36 21 (0 - T o0 (fst.getD j 0)) := ((In.zero (n := 20) (by decide)).sub (dT.i o0 o0m _ (fget j hj)))
      have a2 : Bm.In (36 * W) 27 (Y j 0) := by rw [ey]; exact w2 a1
      have a3 : Bm.In (36 * (36 * W)) 47 (T (fst.getD i 0) o0 * Y j 0) := In.mul (dT.i _ (fget i hi) o0 o0m) a2
      have a4 : Bm.In (36 * (36 * W)) 46 (T (fst.getD i 0) (fst.getD j 0)) := In.up (dT.i _ (fget i hi) _ (fget j hj)) (M := 36 * W) (m := 26) (Nat.mul_pos (by decide) w0) (by
        refine Nat.le_trans (Nat.mul_le_mul (show 36 ≤ 2 ^ 6 by decide) (Nat.le_of_lt w1)) ?_
        rw [← Nat.pow_add]; exact Nat.pow_le_pow_right (by decide) (by decide)) rfl
      exact ((a4.mono (by decide)).add a3).mono (by decide)
    · have : fst.length ≤ 4 := by
        have e3 : (fst.map fun x => x).length = fst.length := by simp
        have : fst.length + 1 ≤ m := by
          have := nodup_le (o0 :: fst) (List.range m) (List.pairwise_cons.mpr ⟨fun x hx e => by
            rw [← hf] at hx
            have := (List.mem_filter.mp hx).2
            rw [← e] at this; simp at this, by
            rw [← hf]
            exact (List.pairwise_lt_range.filter _).imp fun h => by omega⟩) fun x hx => by
            rcases List.mem_cons.mp hx with rfl | hx
            · exact List.mem_range.mpr o0m
            · exact List.mem_range.mpr (fl0 x hx)
          rw [List.length_cons, List.length_range] at this; exact this
        omega
      exact Nat.le_trans (gr_le 63 this) (by decide)
  -- places
  generalize hpl : ((List.range fst.length).filter fun k => decide (fst.getD k 0 ∈ K)) = pls at *
  have lp : pls.length = K.length := by rw [← q1, List.length_map]
  have pD : ∀ p, frzX (lcB (cal rng1 (ac (cal gLen (ac (kx (.lst (ldL fst))) (an))) (an))) fun k p => telX (op1 blD (op2 dIn (op2 dIx (kx (.lst (ldL fst))) (kx k)) (kx (.lst (ldL K))))) (kx k) p) p = some (.lst (ldL pls), p) := fun p => by
    rw [← hpl]
    refine frz_ok (lcB_fil (p1 := p) (fun i : Nat => D.int (i : Nat)) (fun k => decide (fst.getD k 0 ∈ K)) (fun i : Nat => D.int (i : Nat)) (List.range fst.length) (by simp [rng1N fst.length (by omega)]) (by simp; omega) fun k hk => ?_)
    have hk' := List.mem_range.mp hk
    have e1 : op2 dIx (kx (.lst (ldL fst))) (kx (.int (k : Nat))) p = some (.int ((fst.getD k 0 : Nat) : Int), p) := by
      refine op2_ok rfl rfl ?_
      rw [x_ixL]
      apply atI_nat
      rw [ints_D, List.getElem?_map, getD_some hk']; rfl
    rw [n_telX, op1_ok (g := blD) (op2_ok e1 rfl (dIn_ints (fst.getD k 0) K).1) rfl]
    cases decide (fst.getD k 0 ∈ K) <;> rfl
  refine wp_bd (pD _) ?_
  have lO' : (oth m K).length = (oth fst.length pls).length + 1 := by rw [hor, ← q2, List.length_cons, List.length_map]
  have gf : ∀ i, i < (oth fst.length pls).length → (oth m K).getD (i + 1) 0 = fst.getD ((oth fst.length pls).getD i 0) 0 := fun i hi => by
    have e := gdMap (f := fun k => fst.getD k 0) hi
    rw [q2] at e
    rw [hor]
    exact e
  have gp : ∀ i, i < K.length → K.getD i 0 = fst.getD (pls.getD i 0) 0 := fun i hi => by
    have e := gdMap (f := fun k => fst.getD k 0) (l := pls) (r := i) (by omega)
    rw [q1] at e
    exact e
  have ts := two_steps (T := T) (o0 := o0) (O := oth m K) (K := K) (fst := fst) (pls := pls) (O' := oth fst.length pls) (Y := Y) (X := X) lO' (by rw [hor]; rfl) gf gp (fun i hi => q5 _ (getD_memα (by omega))) (fun i hi => oth_lt hi) hY' hr (RR T fst [o0] Y) hM
  have r2 := red_ok tbM q5 (by omega) (by omega)
  obtain ⟨X', hX', eX'⟩ := r2.2 ts.1
  have eq : matL pls.length pls.length (RR (RR T fst [o0] Y) pls (oth fst.length pls) X') = matL K.length K.length (RR T K (oth m K) X) := by
    rw [lp]
    refine mat_congr fun r hr' k hk => ?_
    rw [ts.2 X' (fun k hk => (hX k hk).2) (fun k hk i hi => (hX' k (by omega)).2 i hi) r k hr' hk]
    rfl
  rw [eq] at eX'
  have sm := same_refl 19 _ (pd_mat K.length (RR T K (oth m K) X) (by omega))
  refine wp_iff (p := some P3) (by
    rw [n_notX, op1_ok (g := tru) (cal2 (cal2 rfl rfl eX') rfl sm) rfl]; rfl) ?_
  exact wp_some ⟨_, _, rfl, P3, rfl⟩
end N24
open N24
theorem law_true (ns : List Int) (hl : ns.length ≤ 63) : m_law [.scr ns] = some (.bl true) := by
  obtain ⟨p, h⟩ := wp_fin (law_w ns)
  exact e_law h
end Lw
set_option Elab.async false
set_option linter.all false
set_option maxRecDepth 100000
set_option maxHeartbeats 4000000
namespace Lw
open PySem PySem.Spec PyProof.Rows L2 Dn
def topS (i : Nat) : Stmt := PySem.Challenge.pw_trusswork_k24_whole_tables_reduced.main.body.getD i (.Pass ⟨0, 0, 0, 0⟩)
section
variable {P : Program} {w : World} {K : PySem.W.Frag} {mg : Str → Option Value} {base : Heap}
abbrev s_frac : Stmt := topS 4
theorem sc_frac : FnScope ["p", "q", "shared"] ["p", "q"] (defScope s_frac) := ⟨rfl, rfl, rfl, by decide +kernel, rfl, by decide +kernel, by decide +kernel⟩
theorem bd_frac (i_gcd : mg "gcd" = some (.builtin "math.gcd")) {f : Addr} : Body P w K mg base ["p", "q", "shared"] "frac" s_frac f 0 b_frac := fun cdv A outer s H E hr => by
  show BkF _ (defBody s_frac) b_frac
  exact bk_cons (sf_if (bf_cmp od_lt (ev 1) (ef_int)) (bk_one (sf_par (i := 0) (j := 1) [] rfl sc_frac.nd rfl rfl (by decide) rfl rfl (af_cons (ef_un ud_neg (ev 0)) (af_cons (ef_un ud_neg (ev 1)) (af_nil))) (by rfl))) (bk_nil)) (bk_cons ((as_set (i := 2) sc_frac.nd rfl (by first | exact Or.inl rfl | exact Or.inr rfl) (ef_callBf cd_gcd (by rfl) i_gcd (af_cons (ev 0) (af_cons (ev 1) (af_nil))))).f []) (bk_one (sf_retF [] (ef_tup (af_cons (ef_op od_fdiv (ev 0) (ev 2)) (af_cons (ef_op od_fdiv (ev 1) (ev 2)) (af_nil)))))))
theorem ok_frac (i_gcd : mg "gcd" = some (.builtin "math.gcd")) {f : Addr} {fd : FuncData} (F : Fun K "frac" "frac" s_frac f fd) (hm : mg "frac" = some (.ref f)) : Fn P w K mg base "frac" 1 ["p", "q"] (spF K 2 m_frac) :=
  ⟨f, fd, (fn_F F sc_frac (bd_frac   i_gcd ) :), hm, F.kp, (F.binds (ps := ["p", "q"]) fun _ _ _ _ _ _ us hl => match us, hl with | [_, _], _ => rfl)⟩
abbrev s_plus : Stmt := topS 5
theorem sc_plus : FnScope ["a", "b"] ["a", "b"] (defScope s_plus) := ⟨rfl, rfl, rfl, by decide +kernel, rfl, by decide +kernel, by decide +kernel⟩
theorem bd_plus (h_frac : Fn P w K mg base "frac" 1 ["p", "q"] (spF K 2 m_frac)) {f : Addr} : Body P w K mg base ["a", "b"] "plus" s_plus f 1 b_plus := fun cdv A outer s H E hr => by
  show BkF _ (defBody s_plus) b_plus
  exact bk_one (sf_retF [] (ef_f 2 h_frac hr (by omega) (by rfl) (af_cons (ef_op od_add (ef_op od_mul (ef_ix (ev 0) (ef_int)) (ef_ix (ev 1) (ef_int))) (ef_op od_mul (ef_ix (ev 1) (ef_int)) (ef_ix (ev 0) (ef_int)))) (af_cons (ef_op od_mul (ef_ix (ev 0) (ef_int)) (ef_ix (ev 1) (ef_int))) (af_nil))) (al_cons (al_cons (al_nil)))))
theorem ok_plus (h_frac : Fn P w K mg base "frac" 1 ["p", "q"] (spF K 2 m_frac)) {f : Addr} {fd : FuncData} (F : Fun K "plus" "plus" s_plus f fd) (hm : mg "plus" = some (.ref f)) : Fn P w K mg base "plus" 2 ["a", "b"] (spF K 2 m_plus) :=
  ⟨f, fd, (fn_F F sc_plus (bd_plus    h_frac) :), hm, F.kp, (F.binds (ps := ["a", "b"]) fun _ _ _ _ _ _ us hl => match us, hl with | [_, _], _ => rfl)⟩
abbrev s_minus : Stmt := topS 6
theorem sc_minus : FnScope ["a", "b"] ["a", "b"] (defScope s_minus) := ⟨rfl, rfl, rfl, by decide +kernel, rfl, by decide +kernel, by decide +kernel⟩
theorem bd_minus (h_frac : Fn P w K mg base "frac" 1 ["p", "q"] (spF K 2 m_frac)) {f : Addr} : Body P w K mg base ["a", "b"] "minus" s_minus f 1 b_minus := fun cdv A outer s H E hr => by
  show BkF _ (defBody s_minus) b_minus
  exact bk_one (sf_retF [] (ef_f 2 h_frac hr (by omega) (by rfl) (af_cons (ef_op od_sub (ef_op od_mul (ef_ix (ev 0) (ef_int)) (ef_ix (ev 1) (ef_int))) (ef_op od_mul (ef_ix (ev 1) (ef_int)) (ef_ix (ev 0) (ef_int)))) (af_cons (ef_op od_mul (ef_ix (ev 0) (ef_int)) (ef_ix (ev 1) (ef_int))) (af_nil))) (al_cons (al_cons (al_nil)))))
theorem ok_minus (h_frac : Fn P w K mg base "frac" 1 ["p", "q"] (spF K 2 m_frac)) {f : Addr} {fd : FuncData} (F : Fun K "minus" "minus" s_minus f fd) (hm : mg "minus" = some (.ref f)) : Fn P w K mg base "minus" 2 ["a", "b"] (spF K 2 m_minus) :=
  ⟨f, fd, (fn_F F sc_minus (bd_minus    h_frac) :), hm, F.kp, (F.binds (ps := ["a", "b"]) fun _ _ _ _ _ _ us hl => match us, hl with | [_, _], _ => rfl)⟩
abbrev s_times : Stmt := topS 7
theorem sc_times : FnScope ["a", "b"] ["a", "b"] (defScope s_times) := ⟨rfl, rfl, rfl, by decide +kernel, rfl, by decide +kernel, by decide +kernel⟩
theorem bd_times (h_frac : Fn P w K mg base "frac" 1 ["p", "q"] (spF K 2 m_frac)) {f : Addr} : Body P w K mg base ["a", "b"] "times" s_times f 1 b_times := fun cdv A outer s H E hr => by
  show BkF _ (defBody s_times) b_times
  exact bk_one (sf_retF [] (ef_f 2 h_frac hr (by omega) (by rfl) (af_cons (ef_op od_mul (ef_ix (ev 0) (ef_int)) (ef_ix (ev 1) (ef_int))) (af_cons (ef_op od_mul (ef_ix (ev 0) (ef_int)) (ef_ix (ev 1) (ef_int))) (af_nil))) (al_cons (al_cons (al_nil)))))
theorem ok_times (h_frac : Fn P w K mg base "frac" 1 ["p", "q"] (spF K 2 m_frac)) {f : Addr} {fd : FuncData} (F : Fun K "times" "times" s_times f fd) (hm : mg "times" = some (.ref f)) : Fn P w K mg base "times" 2 ["a", "b"] (spF K 2 m_times) :=
  ⟨f, fd, (fn_F F sc_times (bd_times    h_frac) :), hm, F.kp, (F.binds (ps := ["a", "b"]) fun _ _ _ _ _ _ us hl => match us, hl with | [_, _], _ => rfl)⟩
abbrev s_over : Stmt := topS 8
theorem sc_over : FnScope ["a", "b"] ["a", "b"] (defScope s_over) := ⟨rfl, rfl, rfl, by decide +kernel, rfl, by decide +kernel, by decide +kernel⟩
theorem bd_over (h_frac : Fn P w K mg base "frac" 1 ["p", "q"] (spF K 2 m_frac)) {f : Addr} : Body P w K mg base ["a", "b"] "over" s_over f 1 b_over := fun cdv A outer s H E hr => by
  show BkF _ (defBody s_over) b_over
  exact bk_one (sf_retF [] (ef_f 2 h_frac hr (by omega) (by rfl) (af_cons (ef_op od_mul (ef_ix (ev 0) (ef_int)) (ef_ix (ev 1) (ef_int))) (af_cons (ef_op od_mul (ef_ix (ev 0) (ef_int)) (ef_ix (ev 1) (ef_int))) (af_nil))) (al_cons (al_cons (al_nil)))))
theorem ok_over (h_frac : Fn P w K mg base "frac" 1 ["p", "q"] (spF K 2 m_frac)) {f : Addr} {fd : FuncData} (F : Fun K "over" "over" s_over f fd) (hm : mg "over" = some (.ref f)) : Fn P w K mg base "over" 2 ["a", "b"] (spF K 2 m_over) :=
  ⟨f, fd, (fn_F F sc_over (bd_over    h_frac) :), hm, F.kp, (F.binds (ps := ["a", "b"]) fun _ _ _ _ _ _ us hl => match us, hl with | [_, _], _ => rfl)⟩
abbrev s_sum_of : Stmt := topS 9
theorem sc_sum_of : FnScope ["numbers", "found", "number"] ["numbers"] (defScope s_sum_of) := ⟨rfl, rfl, rfl, by decide +kernel, rfl, by decide +kernel, by decide +kernel⟩
theorem bd_sum_of (g_NOUGHT : Gc K mg "NOUGHT" c_NOUGHT) (h_plus : Fn P w K mg base "plus" 2 ["a", "b"] (spF K 2 m_plus)) {f : Addr} : Body P w K mg base ["numbers", "found", "number"] "sum_of" s_sum_of f 2 b_sum_of := fun cdv A outer s H E hr => by
  show BkF _ (defBody s_sum_of) b_sum_of
  exact bk_cons ((as_set (i := 1) sc_sum_of.nd rfl (by first | exact Or.inl rfl | exact Or.inr rfl) (ef_glob g_NOUGHT (by rfl))).f []) (bk_cons (sf_for [] PassesOwn.never rfl (if_seq (ev 0)) (gf_name (i := 2) sc_sum_of.nd rfl (by first | exact Or.inl rfl | exact Or.inr rfl)) (bk_one ((as_set (i := 1) sc_sum_of.nd rfl (by first | exact Or.inl rfl | exact Or.inr rfl) (ef_f 2 h_plus hr (by omega) (by rfl) (af_cons (ev 1) (af_cons (ev 2) (af_nil))) (al_cons (al_cons (al_nil))))).f []))) (bk_one (sf_retF [] (ev 1))))
theorem ok_sum_of (g_NOUGHT : Gc K mg "NOUGHT" c_NOUGHT) (h_plus : Fn P w K mg base "plus" 2 ["a", "b"] (spF K 2 m_plus)) {f : Addr} {fd : FuncData} (F : Fun K "sum_of" "sum_of" s_sum_of f fd) (hm : mg "sum_of" = some (.ref f)) : Fn P w K mg base "sum_of" 3 ["numbers"] (spF K 1 m_sum_of) :=
  ⟨f, fd, (fn_F F sc_sum_of (bd_sum_of  g_NOUGHT  h_plus) :), hm, F.kp, (F.binds (ps := ["numbers"]) fun _ _ _ _ _ _ us hl => match us, hl with | [_], _ => rfl)⟩
abbrev s_reduced : Stmt := topS 11
theorem sc_reduced : FnScope ["rows", "width", "left", "made", "leads", "at", "here", "some", "row", "factor", "k", "number", "a", "b"] ["rows", "width"] (defScope s_reduced) := ⟨rfl, rfl, rfl, by decide +kernel, rfl, by decide +kernel, by decide +kernel⟩
theorem bd_reduced (z_len : mg "len" = none) (z_list : mg "list" = none) (z_range : mg "range" = none) (z_zip : mg "zip" = none) (g_NOUGHT : Gc K mg "NOUGHT" c_NOUGHT) (g_UNIT : Gc K mg "UNIT" c_UNIT) (h_minus : Fn P w K mg base "minus" 2 ["a", "b"] (spF K 2 m_minus)) (h_times : Fn P w K mg base "times" 2 ["a", "b"] (spF K 2 m_times)) (h_over : Fn P w K mg base "over" 2 ["a", "b"] (spF K 2 m_over)) {f : Addr} : Body P w K mg base ["rows", "width", "left", "made", "leads", "at", "here", "some", "row", "factor", "k", "number", "a", "b"] "reduced" s_reduced f 2 b_reduced := fun cdv A outer s H E hr => by
  show BkF _ (defBody s_reduced) b_reduced
  exact bk_cons ((asl_set (i := 2) sc_reduced.nd rfl (by first | exact Or.inl rfl | exact Or.inr rfl) (lf_lc (own := [("row", 8)]) rfl sc_reduced.nd (blkOk_by (by first | decide +kernel | kernel_rfl | rfl)) (if_seq (ev 0)) (fun _ _ _ _ _ => ge_name (i := 8) sc_reduced.nd rfl (by first | exact Or.inl rfl | exact Or.inr rfl)) (fun _ _ _ _ _ => ts_nil) (fun _ _ _ _ _ => (lf_callTy cl_list (by rfl) z_list (by decide +kernel) (af_cons (ev 8) (af_nil))).ef) (by decide))).o []) (bk_cons ((asl_lc (i := 3) (own := [("at", 5)]) rfl sc_reduced.nd rfl rfl (sw_true rfl rfl rfl rfl) (blkOk_by (by first | decide +kernel | kernel_rfl | rfl)) (if_rng1 (by rfl) z_range (af_cons (ef_callB cd_len (by rfl) z_len (by decide +kernel) (af_cons (ev 0) (af_nil))) (af_nil))) (fun _ _ _ _ _ => ge_name (i := 5) sc_reduced.nd rfl (by first | exact Or.inl rfl | exact Or.inr rfl)) (fun _ _ _ _ _ => ts_nil) (fun _ _ _ _ _ => (lf_lc (own := [("k", 10)]) rfl sc_reduced.nd (blkOk_by (by first | decide +kernel | kernel_rfl | rfl)) (if_rng1 (by rfl) z_range (af_cons (ef_callB cd_len (by rfl) z_len (by decide +kernel) (af_cons (ev 0) (af_nil))) (af_nil))) (fun _ _ _ _ _ => ge_name (i := 10) sc_reduced.nd rfl (by first | exact Or.inl rfl | exact Or.inr rfl)) (fun _ _ _ _ _ => ts_nil) (fun _ _ _ _ _ => ef_ite (bf_cmp (od_eq hr.units) (ev 10) (ev 5)) (ef_glob g_UNIT (by rfl)) (ef_glob g_NOUGHT (by rfl))) (by decide)).ef) (by decide)).o []) (bk_cons ((asl_set (i := 4) sc_reduced.nd rfl (by first | exact Or.inl rfl | exact Or.inr rfl) (lf_lst (af_nil))).o []) (bk_cons (sf_for [] PassesOwn.never rfl (if_rng1 (by rfl) z_range (af_cons (ev 1) (af_nil))) (gf_name (i := 5) sc_reduced.nd rfl (by first | exact Or.inl rfl | exact Or.inr rfl)) (bk_cons ((as_set (i := 6) sc_reduced.nd rfl (by first | exact Or.inl rfl | exact Or.inr rfl) (ef_callB cd_len (by rfl) z_len (by decide +kernel) (af_cons (ev 4) (af_nil)))).s) (bk_cons ((asl_lc (i := 7) (own := [("k", 10)]) rfl sc_reduced.nd rfl rfl (sw_true rfl rfl rfl rfl) (blkOk_by (by first | decide +kernel | kernel_rfl | rfl)) (if_rng2 (by rfl) z_range (af_cons (ev 6) (af_cons (ef_callB cd_len (by rfl) z_len (by decide +kernel) (af_cons (ev 2) (af_nil))) (af_nil)))) (fun _ _ _ _ _ => ge_name (i := 10) sc_reduced.nd rfl (by first | exact Or.inl rfl | exact Or.inr rfl)) (fun _ _ _ _ _ => ts_one (bf_cmp (od_ne hr.units) (ef_ix (ef_ix (ev 2) (ev 10)) (ev 5)) (ef_glob g_NOUGHT (by rfl)))) (fun _ _ _ _ _ => ev 10) (by decide)).sL) (bk_one (sf_if (bf_tru (ev 7)) (bk_cons (sf_swp (ev 6) (ef_ix (ev 7) (ef_int)) (ef_ix (ev 7) (ef_int)) (ev 6) (fun t1 t2 t3 t4 h1 h2 h3 h4 => ps_asg (pe_tup (pa_cons (pe_ix ix_list (pv 2) h3 (fun _ _ => rfl)) (pa_cons (pe_ix ix_list (pv 2) h4 (fun _ _ => rfl)) pa_nil))) (pg_tup rfl (pgs_cons (pg_sub (pv 2) h1 set_list) (pgs_cons (pg_sub (pv 2) h2 set_list) pgs_nil))))) (bk_cons (sf_swp (ev 6) (ef_ix (ev 7) (ef_int)) (ef_ix (ev 7) (ef_int)) (ev 6) (fun t1 t2 t3 t4 h1 h2 h3 h4 => ps_asg (pe_tup (pa_cons (pe_ix ix_list (pv 3) h3 (fun _ _ => rfl)) (pa_cons (pe_ix ix_list (pv 3) h4 (fun _ _ => rfl)) pa_nil))) (pg_tup rfl (pgs_cons (pg_sub (pv 3) h1 set_list) (pgs_cons (pg_sub (pv 3) h2 set_list) pgs_nil))))) (bk_cons ((as_set (i := 9) sc_reduced.nd rfl (by first | exact Or.inl rfl | exact Or.inr rfl) (ef_ix (ef_ix (ev 2) (ev 6)) (ev 5))).s) (bk_cons (sf_setLS (lf_lc (own := [("number", 11)]) rfl sc_reduced.nd (blkOk_by (by first | decide +kernel | kernel_rfl | rfl)) (if_seq (ef_ix (ev 2) (ev 6))) (fun _ _ _ _ _ => ge_name (i := 11) sc_reduced.nd rfl (by first | exact Or.inl rfl | exact Or.inr rfl)) (fun _ _ _ _ _ => ts_nil) (fun _ _ _ _ _ => ef_f 2 h_over hr (by omega) (by rfl) (af_cons (ev 11) (af_cons (ev 9) (af_nil))) (al_cons (al_cons (al_nil)))) (by decide)) (ev 6) (fun te ti h hi => ps_asg h (pg_sub (pv 2) hi set_list))) (bk_cons (sf_setLS (lf_lc (own := [("number", 11)]) rfl sc_reduced.nd (blkOk_by (by first | decide +kernel | kernel_rfl | rfl)) (if_seq (ef_ix (ev 3) (ev 6))) (fun _ _ _ _ _ => ge_name (i := 11) sc_reduced.nd rfl (by first | exact Or.inl rfl | exact Or.inr rfl)) (fun _ _ _ _ _ => ts_nil) (fun _ _ _ _ _ => ef_f 2 h_over hr (by omega) (by rfl) (af_cons (ev 11) (af_cons (ev 9) (af_nil))) (al_cons (al_cons (al_nil)))) (by decide)) (ev 6) (fun te ti h hi => ps_asg h (pg_sub (pv 3) hi set_list))) (bk_cons (sf_forS PassesOwn.never rfl (if_rng1p (by rfl) z_range (af_cons (ef_callB cd_len (by rfl) z_len (by decide +kernel) (af_cons (ev 2) (af_nil))) (af_nil))) (gf_name (i := 10) sc_reduced.nd rfl (by first | exact Or.inl rfl | exact Or.inr rfl)) (bk_one (sf_if ((wf_and (bf_cmp (od_ne hr.units) (ev 10) (ev 6)) (wf_and1 (bf_cmp (od_ne hr.units) (ef_ix (ef_ix (ev 2) (ev 10)) (ev 5)) (ef_glob g_NOUGHT (by rfl))))).bf) (bk_cons ((as_set (i := 9) sc_reduced.nd rfl (by first | exact Or.inl rfl | exact Or.inr rfl) (ef_ix (ef_ix (ev 2) (ev 10)) (ev 5))).s) (bk_cons (sf_setLS (lf_lc (own := [("a", 12), ("b", 13)]) rfl sc_reduced.nd (blkOk_by (by first | decide +kernel | kernel_rfl | rfl)) (if_zs (by rfl) z_zip (af_cons (ef_ix (ev 2) (ev 10)) (af_cons (ef_ix (ev 2) (ev 6)) (af_nil)))) (fun _ _ _ _ _ => ge_tl 2 rfl (ges_cons (ge_name (i := 12) sc_reduced.nd rfl (by first | exact Or.inl rfl | exact Or.inr rfl)) (ges_cons (ge_name (i := 13) sc_reduced.nd rfl (by first | exact Or.inl rfl | exact Or.inr rfl)) (ges_nil)))) (fun _ _ _ _ _ => ts_nil) (fun _ _ _ _ _ => ef_f 2 h_minus hr (by omega) (by rfl) (af_cons (ev 12) (af_cons (ef_f 2 h_times hr (by omega) (by rfl) (af_cons (ev 9) (af_cons (ev 13) (af_nil))) (al_cons (al_cons (al_nil)))) (af_nil))) (al_cons (al_cons (al_nil)))) (by decide)) (ev 10) (fun te ti h hi => ps_asg h (pg_sub (pv 2) hi set_list))) (bk_one (sf_setLS (lf_lc (own := [("a", 12), ("b", 13)]) rfl sc_reduced.nd (blkOk_by (by first | decide +kernel | kernel_rfl | rfl)) (if_zs (by rfl) z_zip (af_cons (ef_ix (ev 3) (ev 10)) (af_cons (ef_ix (ev 3) (ev 6)) (af_nil)))) (fun _ _ _ _ _ => ge_tl 2 rfl (ges_cons (ge_name (i := 12) sc_reduced.nd rfl (by first | exact Or.inl rfl | exact Or.inr rfl)) (ges_cons (ge_name (i := 13) sc_reduced.nd rfl (by first | exact Or.inl rfl | exact Or.inr rfl)) (ges_nil)))) (fun _ _ _ _ _ => ts_nil) (fun _ _ _ _ _ => ef_f 2 h_minus hr (by omega) (by rfl) (af_cons (ev 12) (af_cons (ef_f 2 h_times hr (by omega) (by rfl) (af_cons (ev 9) (af_cons (ev 13) (af_nil))) (al_cons (al_cons (al_nil)))) (af_nil))) (al_cons (al_cons (al_nil)))) (by decide)) (ev 10) (fun te ti h hi => ps_asg h (pg_sub (pv 3) hi set_list)))))) (bk_nil)))) (bk_one (sf_appF [] (mt_of (ev 5) (fun te h => ps_expr (pe_bm PySem.F.plainAttrs_list PySem.F.slot_list_append PySem.F.type_list_append mt_append (pv 4) (pa_cons h pa_nil)))))))))))) (bk_nil)))))) (bk_one (sf_retF [2, 3, 4] (ef_tup (af_cons (ev 2) (af_cons (ev 4) (af_cons (ev 3) (af_nil))))))))))
theorem ok_reduced (z_len : mg "len" = none) (z_list : mg "list" = none) (z_range : mg "range" = none) (z_zip : mg "zip" = none) (g_NOUGHT : Gc K mg "NOUGHT" c_NOUGHT) (g_UNIT : Gc K mg "UNIT" c_UNIT) (h_minus : Fn P w K mg base "minus" 2 ["a", "b"] (spF K 2 m_minus)) (h_times : Fn P w K mg base "times" 2 ["a", "b"] (spF K 2 m_times)) (h_over : Fn P w K mg base "over" 2 ["a", "b"] (spF K 2 m_over)) {f : Addr} {fd : FuncData} (F : Fun K "reduced" "reduced" s_reduced f fd) (hm : mg "reduced" = some (.ref f)) : Fn P w K mg base "reduced" 3 ["rows", "width"] (spF K 2 m_reduced) :=
  ⟨f, fd, (fn_F F sc_reduced (bd_reduced z_len z_list z_range z_zip g_NOUGHT g_UNIT  h_minus h_times h_over) :), hm, F.kp, (F.binds (ps := ["rows", "width"]) fun _ _ _ _ _ _ us hl => match us, hl with | [_, _], _ => rfl)⟩
abbrev s_solved : Stmt := topS 12
theorem sc_solved : FnScope ["rows", "right", "width", "k", "found", "left", "leads", "made", "row", "at", "number"] ["rows", "right", "width"] (defScope s_solved) := ⟨rfl, rfl, rfl, by decide +kernel, rfl, by decide +kernel, by decide +kernel⟩
theorem bd_solved (z_len : mg "len" = none) (z_list : mg "list" = none) (z_range : mg "range" = none) (z_zip : mg "zip" = none) (g_NOUGHT : Gc K mg "NOUGHT" c_NOUGHT) (h_reduced : Fn P w K mg base "reduced" 3 ["rows", "width"] (spF K 2 m_reduced)) {f : Addr} : Body P w K mg base ["rows", "right", "width", "k", "found", "left", "leads", "made", "row", "at", "number"] "solved" s_solved f 3 b_solved := fun cdv A outer s H E hr => by
  show BkF _ (defBody s_solved) b_solved
  exact bk_cons (sf_asgF [] (gf_tl 3 rfl (gfs_cons (gf_name (i := 5) sc_solved.nd rfl (by first | exact Or.inl rfl | exact Or.inr rfl)) (gfs_cons (gf_name (i := 6) sc_solved.nd rfl (by first | exact Or.inl rfl | exact Or.inr rfl)) (gfs_cons (gf_name (i := 7) sc_solved.nd rfl (by first | exact Or.inl rfl | exact Or.inr rfl)) (gfs_nil))))) (ef_f 2 h_reduced hr (by omega) (by rfl) (af_cons ((lf_lc (own := [("row", 8), ("number", 10)]) rfl sc_solved.nd (blkOk_by (by first | decide +kernel | kernel_rfl | rfl)) (if_zs (by rfl) z_zip (af_cons (ev 0) (af_cons (ev 1) (af_nil)))) (fun _ _ _ _ _ => ge_tl 2 rfl (ges_cons (ge_name (i := 8) sc_solved.nd rfl (by first | exact Or.inl rfl | exact Or.inr rfl)) (ges_cons (ge_name (i := 10) sc_solved.nd rfl (by first | exact Or.inl rfl | exact Or.inr rfl)) (ges_nil)))) (fun _ _ _ _ _ => ts_nil) (fun _ _ _ _ _ => ef_op od_add ((lf_callTy cl_list (by rfl) z_list (by decide +kernel) (af_cons (ev 8) (af_nil))).ef) ((lf_lst (af_cons (ev 10) (af_nil))).ef)) (by decide)).ef) (af_cons (ev 2) (af_nil))) (al_cons (al_cons (al_nil))))) (bk_cons (sf_for [] PassesOwn.never rfl (if_rng2 (by rfl) z_range (af_cons (ef_callB cd_len (by rfl) z_len (by decide +kernel) (af_cons (ev 6) (af_nil))) (af_cons (ef_callB cd_len (by rfl) z_len (by decide +kernel) (af_cons (ev 5) (af_nil))) (af_nil)))) (gf_name (i := 3) sc_solved.nd rfl (by first | exact Or.inl rfl | exact Or.inr rfl)) (bk_one (sf_if (bf_cmp (od_ne hr.units) (ef_ix (ef_ix (ev 5) (ev 3)) (ev 2)) (ef_glob g_NOUGHT (by rfl))) (bk_one (sf_retF [] (ef_tup (af_cons (ef_str) (af_cons (ef_ix (ev 7) (ev 3)) (af_nil)))))) (bk_nil)))) (bk_cons ((asl_set (i := 4) sc_solved.nd rfl (by first | exact Or.inl rfl | exact Or.inr rfl) (lf_op ol_rep ((lf_lst (af_cons (ef_glob g_NOUGHT (by rfl)) (af_nil))).ef) (ev 2))).o []) (bk_cons (sf_for [] PassesOwn.never rfl (if_zf (by rfl) z_zip (af_cons (ev 5) (af_cons (ev 6) (af_nil)))) (gf_tl 2 rfl (gfs_cons (gf_name (i := 8) sc_solved.nd rfl (by first | exact Or.inl rfl | exact Or.inr rfl)) (gfs_cons (gf_name (i := 9) sc_solved.nd rfl (by first | exact Or.inl rfl | exact Or.inr rfl)) (gfs_nil)))) (bk_one (sf_setS (ef_ix (ev 8) (ev 2)) (ev 9) (fun te ti h hi => ps_asg h (pg_sub (pv 4) hi set_list))))) (bk_one (sf_retF [4] (ef_tup (af_cons (ef_str) (af_cons (ev 4) (af_nil)))))))))
theorem ok_solved (z_len : mg "len" = none) (z_list : mg "list" = none) (z_range : mg "range" = none) (z_zip : mg "zip" = none) (g_NOUGHT : Gc K mg "NOUGHT" c_NOUGHT) (h_reduced : Fn P w K mg base "reduced" 3 ["rows", "width"] (spF K 2 m_reduced)) {f : Addr} {fd : FuncData} (F : Fun K "solved" "solved" s_solved f fd) (hm : mg "solved" = some (.ref f)) : Fn P w K mg base "solved" 4 ["rows", "right", "width"] (spF K 3 m_solved) :=
  ⟨f, fd, (fn_F F sc_solved (bd_solved z_len z_list z_range z_zip g_NOUGHT  h_reduced) :), hm, F.kp, (F.binds (ps := ["rows", "right", "width"]) fun _ _ _ _ _ _ us hl => match us, hl with | [_, _, _], _ => rfl)⟩
abbrev s_kernel : Stmt := topS 13
theorem sc_kernel : FnScope ["rows", "width", "found", "free", "left", "leads", "_", "row", "told", "at"] ["rows", "width"] (defScope s_kernel) := ⟨rfl, rfl, rfl, by decide +kernel, rfl, by decide +kernel, by decide +kernel⟩
theorem bd_kernel (z_range : mg "range" = none) (z_zip : mg "zip" = none) (g_NOUGHT : Gc K mg "NOUGHT" c_NOUGHT) (g_UNIT : Gc K mg "UNIT" c_UNIT) (h_minus : Fn P w K mg base "minus" 2 ["a", "b"] (spF K 2 m_minus)) (h_reduced : Fn P w K mg base "reduced" 3 ["rows", "width"] (spF K 2 m_reduced)) {f : Addr} : Body P w K mg base ["rows", "width", "found", "free", "left", "leads", "_", "row", "told", "at"] "kernel" s_kernel f 3 b_kernel := fun cdv A outer s H E hr => by
  show BkF _ (defBody s_kernel) b_kernel
  exact bk_cons (sf_asgF [] (gf_tl 3 rfl (gfs_cons (gf_name (i := 4) sc_kernel.nd rfl (by first | exact Or.inl rfl | exact Or.inr rfl)) (gfs_cons (gf_name (i := 5) sc_kernel.nd rfl (by first | exact Or.inl rfl | exact Or.inr rfl)) (gfs_cons (gf_name (i := 6) sc_kernel.nd rfl (by first | exact Or.inl rfl | exact Or.inr rfl)) (gfs_nil))))) (ef_f 2 h_reduced hr (by omega) (by rfl) (af_cons (ev 0) (af_cons (ev 1) (af_nil))) (al_cons (al_cons (al_nil))))) (bk_cons ((asl_set (i := 2) sc_kernel.nd rfl (by first | exact Or.inl rfl | exact Or.inr rfl) (lf_lst (af_nil))).o []) (bk_cons (sf_for [] PassesOwn.never rfl (if_rng1 (by rfl) z_range (af_cons (ev 1) (af_nil))) (gf_name (i := 3) sc_kernel.nd rfl (by first | exact Or.inl rfl | exact Or.inr rfl)) (bk_one (sf_if (bf_cmp (od_notIn (u65 hr)) (ev 3) (ev 5)) (bk_cons ((asl_set (i := 7) sc_kernel.nd rfl (by first | exact Or.inl rfl | exact Or.inr rfl) (lf_op ol_rep ((lf_lst (af_cons (ef_glob g_NOUGHT (by rfl)) (af_nil))).ef) (ev 1))).o []) (bk_cons (sf_setS (ef_glob g_UNIT (by rfl)) (ev 3) (fun te ti h hi => ps_asg h (pg_sub (pv 7) hi set_list))) (bk_cons (sf_for [] PassesOwn.never rfl (if_zf (by rfl) z_zip (af_cons (ev 4) (af_cons (ev 5) (af_nil)))) (gf_tl 2 rfl (gfs_cons (gf_name (i := 8) sc_kernel.nd rfl (by first | exact Or.inl rfl | exact Or.inr rfl)) (gfs_cons (gf_name (i := 9) sc_kernel.nd rfl (by first | exact Or.inl rfl | exact Or.inr rfl)) (gfs_nil)))) (bk_one (sf_setS (ef_f 2 h_minus hr (by omega) (by rfl) (af_cons (ef_glob g_NOUGHT (by rfl)) (af_cons (ef_ix (ev 8) (ev 3)) (af_nil))) (al_cons (al_cons (al_nil)))) (ev 9) (fun te ti h hi => ps_asg h (pg_sub (pv 7) hi set_list))))) (bk_one (sf_appF [7] (mt_of (ev 7) (fun te h => ps_expr (pe_bm PySem.F.plainAttrs_list PySem.F.slot_list_append PySem.F.type_list_append mt_append (pv 2) (pa_cons h pa_nil))))))))) (bk_nil)))) (bk_one (sf_retO 2))))
theorem ok_kernel (z_range : mg "range" = none) (z_zip : mg "zip" = none) (g_NOUGHT : Gc K mg "NOUGHT" c_NOUGHT) (g_UNIT : Gc K mg "UNIT" c_UNIT) (h_minus : Fn P w K mg base "minus" 2 ["a", "b"] (spF K 2 m_minus)) (h_reduced : Fn P w K mg base "reduced" 3 ["rows", "width"] (spF K 2 m_reduced)) {f : Addr} {fd : FuncData} (F : Fun K "kernel" "kernel" s_kernel f fd) (hm : mg "kernel" = some (.ref f)) : Fn P w K mg base "kernel" 4 ["rows", "width"] (spL K 2 m_kernel) :=
  ⟨f, fd, (fn_L F sc_kernel (bd_kernel z_range z_zip g_NOUGHT g_UNIT  h_minus h_reduced) :), hm, F.kp, (F.binds (ps := ["rows", "width"]) fun _ _ _ _ _ _ us hl => match us, hl with | [_, _], _ => rfl)⟩
abbrev s_reduced_to : Stmt := topS 15
theorem sc_reduced_to : FnScope ["table", "kept", "others", "found", "one", "right", "rows", "told", "line", "place", "at", "parts", "k", "other", "number"] ["table", "kept"] (defScope s_reduced_to) := ⟨rfl, rfl, rfl, by decide +kernel, rfl, by decide +kernel, by decide +kernel⟩
theorem bd_reduced_to (z_len : mg "len" = none) (z_range : mg "range" = none) (z_zip : mg "zip" = none) (g_NOUGHT : Gc K mg "NOUGHT" c_NOUGHT) (h_plus : Fn P w K mg base "plus" 2 ["a", "b"] (spF K 2 m_plus)) (h_minus : Fn P w K mg base "minus" 2 ["a", "b"] (spF K 2 m_minus)) (h_times : Fn P w K mg base "times" 2 ["a", "b"] (spF K 2 m_times)) (h_sum_of : Fn P w K mg base "sum_of" 3 ["numbers"] (spF K 1 m_sum_of)) (h_solved : Fn P w K mg base "solved" 4 ["rows", "right", "width"] (spF K 3 m_solved)) (h_kernel : Fn P w K mg base "kernel" 4 ["rows", "width"] (spL K 2 m_kernel)) {f : Addr} : Body P w K mg base ["table", "kept", "others", "found", "one", "right", "rows", "told", "line", "place", "at", "parts", "k", "other", "number"] "reduced_to" s_reduced_to f 4 b_reduced_to := fun cdv A outer s H E hr => by
  show BkF _ (defBody s_reduced_to) b_reduced_to
  exact bk_cons ((as_set (i := 2) sc_reduced_to.nd rfl (by first | exact Or.inl rfl | exact Or.inr rfl) ((lf_lc (own := [("at", 10)]) rfl sc_reduced_to.nd (blkOk_by (by first | decide +kernel | kernel_rfl | rfl)) (if_rng1 (by rfl) z_range (af_cons (ef_callB cd_len (by rfl) z_len (by decide +kernel) (af_cons (ev 0) (af_nil))) (af_nil))) (fun _ _ _ _ _ => ge_name (i := 10) sc_reduced_to.nd rfl (by first | exact Or.inl rfl | exact Or.inr rfl)) (fun _ _ _ _ _ => ts_one (bf_cmp (od_notIn (u65 hr)) (ev 10) (ev 1))) (fun _ _ _ _ _ => ev 10) (by decide)).ef)).f []) (bk_cons ((asl_set (i := 3) sc_reduced_to.nd rfl (by first | exact Or.inl rfl | exact Or.inr rfl) (lf_lst (af_nil))).o []) (bk_cons (sf_for [] PassesOwn.never rfl (if_seq (ev 1)) (gf_name (i := 4) sc_reduced_to.nd rfl (by first | exact Or.inl rfl | exact Or.inr rfl)) (bk_cons ((asl_lc (i := 5) (own := [("at", 10)]) rfl sc_reduced_to.nd rfl rfl (sw_true rfl rfl rfl rfl) (blkOk_by (by first | decide +kernel | kernel_rfl | rfl)) (if_seq (ev 2)) (fun _ _ _ _ _ => ge_name (i := 10) sc_reduced_to.nd rfl (by first | exact Or.inl rfl | exact Or.inr rfl)) (fun _ _ _ _ _ => ts_nil) (fun _ _ _ _ _ => ef_f 2 h_minus hr (by omega) (by rfl) (af_cons (ef_glob g_NOUGHT (by rfl)) (af_cons (ef_ix (ef_ix (ev 0) (ev 10)) (ev 4)) (af_nil))) (al_cons (al_cons (al_nil)))) (by decide)).as.f []) (bk_cons ((asl_lc (i := 6) (own := [("at", 10)]) rfl sc_reduced_to.nd rfl rfl (sw_true rfl rfl rfl rfl) (blkOk_by (by first | decide +kernel | kernel_rfl | rfl)) (if_seq (ev 2)) (fun _ _ _ _ _ => ge_name (i := 10) sc_reduced_to.nd rfl (by first | exact Or.inl rfl | exact Or.inr rfl)) (fun _ _ _ _ _ => ts_nil) (fun _ _ _ _ _ => (lf_lc (own := [("other", 13)]) rfl sc_reduced_to.nd (blkOk_by (by first | decide +kernel | kernel_rfl | rfl)) (if_seq (ev 2)) (fun _ _ _ _ _ => ge_name (i := 13) sc_reduced_to.nd rfl (by first | exact Or.inl rfl | exact Or.inr rfl)) (fun _ _ _ _ _ => ts_nil) (fun _ _ _ _ _ => ef_ix (ef_ix (ev 0) (ev 10)) (ev 13)) (by decide)).ef) (by decide)).as.f []) (bk_cons (sf_if (bf_tru ((lf_f 2 h_kernel hr (by omega) (by rfl) (af_cons (ev 6) (af_cons (ef_callB cd_len (by rfl) z_len (by decide +kernel) (af_cons (ev 2) (af_nil))) (af_nil))) (al_cons (al_cons (al_nil)))).ef)) (bk_one (sf_retF [] (ef_non))) (bk_nil)) (bk_cons ((as_set (i := 7) sc_reduced_to.nd rfl (by first | exact Or.inl rfl | exact Or.inr rfl) (ef_ix (ef_f 3 h_solved hr (by omega) (by rfl) (af_cons (ev 6) (af_cons (ev 5) (af_cons (ef_callB cd_len (by rfl) z_len (by decide +kernel) (af_cons (ev 2) (af_nil))) (af_nil)))) (al_cons (al_cons (al_cons (al_nil))))) (ef_int))).f []) (bk_cons ((asl_set (i := 8) sc_reduced_to.nd rfl (by first | exact Or.inl rfl | exact Or.inr rfl) (lf_lst (af_nil))).o []) (bk_cons (sf_for [] PassesOwn.never rfl (if_seq (ev 1)) (gf_name (i := 9) sc_reduced_to.nd rfl (by first | exact Or.inl rfl | exact Or.inr rfl)) (bk_cons ((asl_lc (i := 11) (own := [("other", 13), ("number", 14)]) rfl sc_reduced_to.nd rfl rfl (sw_true rfl rfl rfl rfl) (blkOk_by (by first | decide +kernel | kernel_rfl | rfl)) (if_zs (by rfl) z_zip (af_cons (ev 2) (af_cons (ev 7) (af_nil)))) (fun _ _ _ _ _ => ge_tl 2 rfl (ges_cons (ge_name (i := 13) sc_reduced_to.nd rfl (by first | exact Or.inl rfl | exact Or.inr rfl)) (ges_cons (ge_name (i := 14) sc_reduced_to.nd rfl (by first | exact Or.inl rfl | exact Or.inr rfl)) (ges_nil)))) (fun _ _ _ _ _ => ts_nil) (fun _ _ _ _ _ => ef_f 2 h_times hr (by omega) (by rfl) (af_cons (ef_ix (ef_ix (ev 0) (ev 9)) (ev 13)) (af_cons (ev 14) (af_nil))) (al_cons (al_cons (al_nil)))) (by decide)).as.f []) (bk_one (sf_appF [] (mt_of (ef_f 2 h_plus hr (by omega) (by rfl) (af_cons (ef_ix (ef_ix (ev 0) (ev 9)) (ev 4)) (af_cons (ef_f 1 h_sum_of hr (by omega) (by rfl) (af_cons (ev 11) (af_nil)) (al_cons (al_nil))) (af_nil))) (al_cons (al_cons (al_nil)))) (fun te h => ps_expr (pe_bm PySem.F.plainAttrs_list PySem.F.slot_list_append PySem.F.type_list_append mt_append (pv 8) (pa_cons h pa_nil)))))))) (bk_one (sf_appF [8] (mt_of (ev 8) (fun te h => ps_expr (pe_bm PySem.F.plainAttrs_list PySem.F.slot_list_append PySem.F.type_list_append mt_append (pv 3) (pa_cons h pa_nil))))))))))))) (bk_one (sf_retF [3] ((lf_lc (own := [("at", 10)]) rfl sc_reduced_to.nd (blkOk_by (by first | decide +kernel | kernel_rfl | rfl)) (if_rng1 (by rfl) z_range (af_cons (ef_callB cd_len (by rfl) z_len (by decide +kernel) (af_cons (ev 1) (af_nil))) (af_nil))) (fun _ _ _ _ _ => ge_name (i := 10) sc_reduced_to.nd rfl (by first | exact Or.inl rfl | exact Or.inr rfl)) (fun _ _ _ _ _ => ts_nil) (fun _ _ _ _ _ => (lf_lc (own := [("k", 12)]) rfl sc_reduced_to.nd (blkOk_by (by first | decide +kernel | kernel_rfl | rfl)) (if_rng1 (by rfl) z_range (af_cons (ef_callB cd_len (by rfl) z_len (by decide +kernel) (af_cons (ev 1) (af_nil))) (af_nil))) (fun _ _ _ _ _ => ge_name (i := 12) sc_reduced_to.nd rfl (by first | exact Or.inl rfl | exact Or.inr rfl)) (fun _ _ _ _ _ => ts_nil) (fun _ _ _ _ _ => ef_ix (ef_ix (ev 3) (ev 12)) (ev 10)) (by decide)).ef) (by decide)).ef)))))
theorem ok_reduced_to (z_len : mg "len" = none) (z_range : mg "range" = none) (z_zip : mg "zip" = none) (g_NOUGHT : Gc K mg "NOUGHT" c_NOUGHT) (h_plus : Fn P w K mg base "plus" 2 ["a", "b"] (spF K 2 m_plus)) (h_minus : Fn P w K mg base "minus" 2 ["a", "b"] (spF K 2 m_minus)) (h_times : Fn P w K mg base "times" 2 ["a", "b"] (spF K 2 m_times)) (h_sum_of : Fn P w K mg base "sum_of" 3 ["numbers"] (spF K 1 m_sum_of)) (h_solved : Fn P w K mg base "solved" 4 ["rows", "right", "width"] (spF K 3 m_solved)) (h_kernel : Fn P w K mg base "kernel" 4 ["rows", "width"] (spL K 2 m_kernel)) {f : Addr} {fd : FuncData} (F : Fun K "reduced_to" "reduced_to" s_reduced_to f fd) (hm : mg "reduced_to" = some (.ref f)) : Fn P w K mg base "reduced_to" 5 ["table", "kept"] (spF K 2 m_reduced_to) :=
  ⟨f, fd, (fn_F F sc_reduced_to (bd_reduced_to z_len z_range z_zip g_NOUGHT  h_plus h_minus h_times h_sum_of h_solved h_kernel) :), hm, F.kp, (F.binds (ps := ["table", "kept"]) fun _ _ _ _ _ _ us hl => match us, hl with | [_, _], _ => rfl)⟩
abbrev s__law_mixed : Stmt := topS 17
theorem sc__law_mixed : FnScope ["number", "place", "first", "second", "third"] ["number", "place"] (defScope s__law_mixed) := ⟨rfl, rfl, rfl, by decide +kernel, rfl, by decide +kernel, by decide +kernel⟩
theorem bd__law_mixed (z_int : mg "int" = none) {f : Addr} : Body P w K mg base ["number", "place", "first", "second", "third"] "_law_mixed" s__law_mixed f 0 b__law_mixed := fun cdv A outer s H E hr => by
  show BkF _ (defBody s__law_mixed) b__law_mixed
  exact bk_cons ((as_set (i := 2) sc__law_mixed.nd rfl (by first | exact Or.inl rfl | exact Or.inr rfl) (ef_op od_mod (ef_callTy cd_int (by rfl) z_int (by decide +kernel) (af_cons (ef_op od_add (ef_op od_add (ef_op od_mul (ev 0) (ef_int)) (ef_op od_mul (ev 1) (ef_int))) (ef_int)) (af_nil))) (ef_int))).f []) (bk_cons ((as_set (i := 3) sc__law_mixed.nd rfl (by first | exact Or.inl rfl | exact Or.inr rfl) (ef_op od_mod (ef_callTy cd_int (by rfl) z_int (by decide +kernel) (af_cons (ef_op od_add (ef_op od_add (ef_op od_mul (ev 2) (ev 2)) (ef_op od_mul (ef_int) (ev 2))) (ev 1)) (af_nil))) (ef_int))).f []) (bk_cons ((as_set (i := 4) sc__law_mixed.nd rfl (by first | exact Or.inl rfl | exact Or.inr rfl) (ef_op od_mod (ef_callTy cd_int (by rfl) z_int (by decide +kernel) (af_cons (ef_op od_add (ef_op od_mul (ev 3) (ev 3)) (ev 2)) (af_nil))) (ef_int))).f []) (bk_one (sf_retF [] (ef_op od_add (ef_op od_mul (ev 3) (ef_int)) (ev 4))))))
theorem ok__law_mixed (z_int : mg "int" = none) {f : Addr} {fd : FuncData} (F : Fun K "_law_mixed" "_law_mixed" s__law_mixed f fd) (hm : mg "_law_mixed" = some (.ref f)) : Fn P w K mg base "_law_mixed" 1 ["number", "place"] (spF K 2 m__law_mixed) :=
  ⟨f, fd, (fn_F F sc__law_mixed (bd__law_mixed z_int   ) :), hm, F.kp, (F.binds (ps := ["number", "place"]) fun _ _ _ _ _ _ us hl => match us, hl with | [_, _], _ => rfl)⟩
abbrev s__law_rest : Stmt := topS 18
theorem sc__law_rest : FnScope ["script", "place", "fills", "number"] ["script", "place", "fills"] (defScope s__law_rest) := ⟨rfl, rfl, rfl, by decide +kernel, rfl, by decide +kernel, by decide +kernel⟩
theorem bd__law_rest (z_int : mg "int" = none) (z_len : mg "len" = none) (h__law_mixed : Fn P w K mg base "_law_mixed" 1 ["number", "place"] (spF K 2 m__law_mixed)) {f : Addr} : Body P w K mg base ["script", "place", "fills", "number"] "_law_rest" s__law_rest f 1 b__law_rest := fun cdv A outer s H E hr => by
  show BkF _ (defBody s__law_rest) b__law_rest
  exact bk_cons ((as_set (i := 3) sc__law_rest.nd rfl (by first | exact Or.inl rfl | exact Or.inr rfl) (ef_int)).f []) (bk_cons (sf_if (bf_cmp od_gt (ef_callB cd_len (by rfl) z_len (by decide +kernel) (af_cons (ev 0) (af_nil))) (ef_int)) (bk_one ((as_set (i := 3) sc__law_rest.nd rfl (by first | exact Or.inl rfl | exact Or.inr rfl) (ef_callTy cd_int (by rfl) z_int (by decide +kernel) (af_cons (ef_ix (ev 0) (ef_op od_mod (ef_callTy cd_int (by rfl) z_int (by decide +kernel) (af_cons (ev 1) (af_nil))) (ef_callB cd_len (by rfl) z_len (by decide +kernel) (af_cons (ev 0) (af_nil))))) (af_nil)))).f [])) (bk_nil)) (bk_cons (sf_if (bf_cmp od_lt (ev 3) (ef_int)) (bk_one ((as_set (i := 3) sc__law_rest.nd rfl (by first | exact Or.inl rfl | exact Or.inr rfl) (ef_op od_sub (ef_int) (ef_op od_mul (ef_int) (ev 3)))).f [])) (bk_nil)) (bk_cons (sf_if ((wf_and (bf_cmp (od_eq hr.units) (ev 2) (ef_int)) (wf_and (bf_cmp od_lt (ev 1) (ef_callB cd_len (by rfl) z_len (by decide +kernel) (af_cons (ev 0) (af_nil)))) (wf_and1 (bf_cmp od_ge (ev 3) (ef_op od_pow (ef_int) (ef_int)))))).bf) (bk_one (sf_retF [] (ef_op od_sub (ev 3) (ef_op od_pow (ef_int) (ef_int))))) (bk_nil)) (bk_one (sf_retF [] (ef_f 2 h__law_mixed hr (by omega) (by rfl) (af_cons (ef_op od_add (ev 3) (ef_op od_mul (ev 2) (ef_int))) (af_cons (ev 1) (af_nil))) (al_cons (al_cons (al_nil)))))))))
theorem ok__law_rest (z_int : mg "int" = none) (z_len : mg "len" = none) (h__law_mixed : Fn P w K mg base "_law_mixed" 1 ["number", "place"] (spF K 2 m__law_mixed)) {f : Addr} {fd : FuncData} (F : Fun K "_law_rest" "_law_rest" s__law_rest f fd) (hm : mg "_law_rest" = some (.ref f)) : Fn P w K mg base "_law_rest" 2 ["script", "place", "fills"] (spF K 3 m__law_rest) :=
  ⟨f, fd, (fn_F F sc__law_rest (bd__law_rest z_int z_len   h__law_mixed) :), hm, F.kp, (F.binds (ps := ["script", "place", "fills"]) fun _ _ _ _ _ _ us hl => match us, hl with | [_, _, _], _ => rfl)⟩
abbrev s__law_pool : Stmt := topS 19
theorem sc__law_pool : FnScope ["script"] ["script"] (defScope s__law_pool) := ⟨rfl, rfl, rfl, by decide +kernel, rfl, by decide +kernel, by decide +kernel⟩
theorem bd__law_pool (h__law_rest : Fn P w K mg base "_law_rest" 2 ["script", "place", "fills"] (spF K 3 m__law_rest)) {f : Addr} : Body P w K mg base ["script"] "_law_pool" s__law_pool f 2 b__law_pool := fun cdv A outer s H E hr => by
  show BkF _ (defBody s__law_pool) b__law_pool
  exact bk_one (sf_retL [] (lf_lst (af_cons (ev 0) (af_cons (ef_int) (af_cons (ef_f 3 h__law_rest hr (by omega) (by rfl) (af_cons (ev 0) (af_cons (ef_int) (af_cons (ef_int) (af_nil)))) (al_cons (al_cons (al_cons (al_nil))))) (af_cons (ef_int) (af_nil)))))))
theorem ok__law_pool (h__law_rest : Fn P w K mg base "_law_rest" 2 ["script", "place", "fills"] (spF K 3 m__law_rest)) {f : Addr} {fd : FuncData} (F : Fun K "_law_pool" "_law_pool" s__law_pool f fd) (hm : mg "_law_pool" = some (.ref f)) : Fn P w K mg base "_law_pool" 3 ["script"] (spL K 1 m__law_pool) :=
  ⟨f, fd, (fn_L F sc__law_pool (bd__law_pool    h__law_rest) :), hm, F.kp, (F.binds (ps := ["script"]) fun _ _ _ _ _ _ us hl => match us, hl with | [_], _ => rfl)⟩
abbrev s__law_next : Stmt := topS 20
theorem sc__law_next : FnScope ["pool"] ["pool"] (defScope s__law_next) := ⟨rfl, rfl, rfl, by decide +kernel, rfl, by decide +kernel, by decide +kernel⟩
theorem bd__law_next (h__law_rest : Fn P w K mg base "_law_rest" 2 ["script", "place", "fills"] (spF K 3 m__law_rest)) {f : Addr} : Body P w K mg base ["pool"] "_law_next" s__law_next f 2 b__law_next := fun cdv A outer s H E hr => by
  show BkF _ (defBody s__law_next) b__law_next
  exact bk_cons (sf_pset (ef_op od_add (ef_pix 0 1) (ef_int)) (fun te h => ps_asg h (pg_sub (pv 0) pe_int set_list))) (bk_cons (sf_pset (ef_f 3 h__law_rest hr (by omega) (by rfl) (af_cons (ef_pix 0 0) (af_cons (ef_pix 0 1) (af_cons (ef_int) (af_nil)))) (al_cons (al_cons (al_cons (al_nil))))) (fun te h => ps_asg h (pg_sub (pv 0) pe_int set_list))) (bk_one (sf_pset (ef_int) (fun te h => ps_asg h (pg_sub (pv 0) pe_int set_list)))))
theorem ok__law_next (h__law_rest : Fn P w K mg base "_law_rest" 2 ["script", "place", "fills"] (spF K 3 m__law_rest)) {f : Addr} {fd : FuncData} (F : Fun K "_law_next" "_law_next" s__law_next f fd) (hm : mg "_law_next" = some (.ref f)) : Fn P w K mg base "_law_next" 3 ["pool"] (spP K 1 m__law_next) :=
  ⟨f, fd, (fn_P F sc__law_next (bd__law_next    h__law_rest) :), hm, F.kp, (F.binds (ps := ["pool"]) fun _ _ _ _ _ _ us hl => match us, hl with | [_], _ => rfl)⟩
abbrev s__law_draw : Stmt := topS 21
theorem sc__law_draw : FnScope ["pool", "limit", "value"] ["pool", "limit"] (defScope s__law_draw) := ⟨rfl, rfl, rfl, by decide +kernel, rfl, by decide +kernel, by decide +kernel⟩
theorem bd__law_draw (z_int : mg "int" = none) (h__law_rest : Fn P w K mg base "_law_rest" 2 ["script", "place", "fills"] (spF K 3 m__law_rest)) {f : Addr} : Body P w K mg base ["pool", "limit", "value"] "_law_draw" s__law_draw f 2 b__law_draw := fun cdv A outer s H E hr => by
  show BkF _ (defBody s__law_draw) b__law_draw
  exact bk_cons (sf_if (bf_cmp od_le (ef_pix 0 2) (ef_int)) (bk_cons (sf_pset (ef_op od_add (ef_pix 0 3) (ef_int)) (fun te h => ps_asg h (pg_sub (pv 0) pe_int set_list))) (bk_one (sf_pset (ef_f 3 h__law_rest hr (by omega) (by rfl) (af_cons (ef_pix 0 0) (af_cons (ef_pix 0 1) (af_cons (ef_pix 0 3) (af_nil)))) (al_cons (al_cons (al_cons (al_nil))))) (fun te h => ps_asg h (pg_sub (pv 0) pe_int set_list))))) (bk_nil)) (bk_cons ((as_set (i := 2) sc__law_draw.nd rfl (by first | exact Or.inl rfl | exact Or.inr rfl) (ef_op od_mod (ef_callTy cd_int (by rfl) z_int (by decide +kernel) (af_cons (ef_pix 0 2) (af_nil))) (ev 1))).f []) (bk_cons (sf_pset (ef_op od_fdiv (ef_callTy cd_int (by rfl) z_int (by decide +kernel) (af_cons (ef_pix 0 2) (af_nil))) (ev 1)) (fun te h => ps_asg h (pg_sub (pv 0) pe_int set_list))) (bk_one (sf_retF [] (ev 2)))))
theorem ok__law_draw (z_int : mg "int" = none) (h__law_rest : Fn P w K mg base "_law_rest" 2 ["script", "place", "fills"] (spF K 3 m__law_rest)) {f : Addr} {fd : FuncData} (F : Fun K "_law_draw" "_law_draw" s__law_draw f fd) (hm : mg "_law_draw" = some (.ref f)) : Fn P w K mg base "_law_draw" 3 ["pool", "limit"] (spP K 2 m__law_draw) :=
  ⟨f, fd, (fn_P F sc__law_draw (bd__law_draw z_int   h__law_rest) :), hm, F.kp, (F.binds (ps := ["pool", "limit"]) fun _ _ _ _ _ _ us hl => match us, hl with | [_, _], _ => rfl)⟩
abbrev s__law_pick : Stmt := topS 22
theorem sc__law_pick : FnScope ["pool", "options"] ["pool", "options"] (defScope s__law_pick) := ⟨rfl, rfl, rfl, by decide +kernel, rfl, by decide +kernel, by decide +kernel⟩
theorem bd__law_pick (z_len : mg "len" = none) (h__law_draw : Fn P w K mg base "_law_draw" 3 ["pool", "limit"] (spP K 2 m__law_draw)) {f : Addr} : Body P w K mg base ["pool", "options"] "_law_pick" s__law_pick f 3 b__law_pick := fun cdv A outer s H E hr => by
  show BkF _ (defBody s__law_pick) b__law_pick
  exact bk_one (sf_retF [] (ef_ix (ev 1) (ef_p 1 0 h__law_draw hr (by omega) (by rfl) (af_cons (ef_callB cd_len (by rfl) z_len (by decide +kernel) (af_cons (ev 1) (af_nil))) (af_nil)) (al_cons (al_nil)))))
theorem ok__law_pick (z_len : mg "len" = none) (h__law_draw : Fn P w K mg base "_law_draw" 3 ["pool", "limit"] (spP K 2 m__law_draw)) {f : Addr} {fd : FuncData} (F : Fun K "_law_pick" "_law_pick" s__law_pick f fd) (hm : mg "_law_pick" = some (.ref f)) : Fn P w K mg base "_law_pick" 4 ["pool", "options"] (spP K 2 m__law_pick) :=
  ⟨f, fd, (fn_P F sc__law_pick (bd__law_pick z_len   h__law_draw) :), hm, F.kp, (F.binds (ps := ["pool", "options"]) fun _ _ _ _ _ _ us hl => match us, hl with | [_, _], _ => rfl)⟩
abbrev s__law_same : Stmt := topS 23
theorem sc__law_same : FnScope ["answer", "due", "k", "key"] ["answer", "due"] (defScope s__law_same) := ⟨rfl, rfl, rfl, by decide +kernel, rfl, by decide +kernel, by decide +kernel⟩
theorem bd__law_same (z_bool : mg "bool" = none) (z_dict : mg "dict" = none) (z_int : mg "int" = none) (z_isinstance : mg "isinstance" = none) (z_len : mg "len" = none) (z_list : mg "list" = none) (z_range : mg "range" = none) (z_str : mg "str" = none) (z_tuple : mg "tuple" = none) {f : Addr} (i : Nat) (h__law_same : Fn P w K mg base "_law_same" (1 + i) ["answer", "due"] (spF K 2 (m__law_same i))) : Body P w K mg base ["answer", "due", "k", "key"] "_law_same" s__law_same f (1 + i) (b__law_same (m__law_same i)) := fun cdv A outer s H E hr => by
  show BkF _ (defBody s__law_same) (b__law_same (m__law_same i))
  exact bk_cons (sf_if ((wf_or (bf_cmp od_is (ev 1) (ef_non)) (wf_or (bf_cmp od_is (ev 1) (ef_bl)) (wf_or1 (bf_cmp od_is (ev 1) (ef_bl))))).bf) (bk_one (sf_retF [] (ef_orr (ef_and (ef_cmp od_is (ev 1) (ef_non)) (ef_one (ef_cmp od_is (ev 0) (ef_non)))) (ef_orr (ef_and (ef_cmp od_is (ev 1) (ef_bl)) (ef_one (ef_cmp od_is (ev 0) (ef_bl)))) (ef_one (ef_and (ef_cmp od_is (ev 1) (ef_bl)) (ef_one (ef_cmp od_is (ev 0) (ef_bl))))))))) (bk_nil)) (bk_cons (sf_if (bf_tru (ef_isi "int" (by decide) (ev 1) (by rfl) z_isinstance (by rfl) z_int (by decide +kernel))) (bk_one (sf_retF [] (ef_and (ef_isi "int" (by decide) (ev 0) (by rfl) z_isinstance (by rfl) z_int (by decide +kernel)) (ef_and (ef_notV (ef_isi "bool" (by decide) (ev 0) (by rfl) z_isinstance (by rfl) z_bool (by decide +kernel))) (ef_one (ef_cmp (od_eq hr.units) (ev 0) (ev 1))))))) (bk_nil)) (bk_cons (sf_if (bf_tru (ef_isi "str" (by decide) (ev 1) (by rfl) z_isinstance (by rfl) z_str (by decide +kernel))) (bk_one (sf_retF [] (ef_and (ef_isi "str" (by decide) (ev 0) (by rfl) z_isinstance (by rfl) z_str (by decide +kernel)) (ef_one (ef_cmp (od_eq hr.units) (ev 0) (ev 1)))))) (bk_nil)) (bk_cons (sf_if (bf_tru (ef_isi "dict" (by decide) (ev 1) (by rfl) z_isinstance (by rfl) z_dict (by decide +kernel))) (bk_cons (sf_if ((wf_or (bf_not (bf_tru (ef_isi "dict" (by decide) (ev 0) (by rfl) z_isinstance (by rfl) z_dict (by decide +kernel)))) (wf_or1 (bf_cmp (od_ne hr.units) (ef_callB cd_len (by rfl) z_len (by decide +kernel) (af_cons (ev 0) (af_nil))) (ef_callB cd_len (by rfl) z_len (by decide +kernel) (af_cons (ev 1) (af_nil)))))).bf) (bk_one (sf_retF [] (ef_bl))) (bk_nil)) (bk_cons (sf_for [] PassesOwn.never rfl (if_seq (ev 1)) (gf_name (i := 3) sc__law_same.nd rfl (by first | exact Or.inl rfl | exact Or.inr rfl)) (bk_one (sf_if ((wf_or (bf_cmp (od_notIn (u65 hr)) (ev 3) (ev 0)) (wf_or1 (bf_not (bf_tru (ef_f 2 h__law_same hr (by omega) (by rfl) (af_cons (ef_ix (ev 0) (ev 3)) (af_cons (ef_ix (ev 1) (ev 3)) (af_nil))) (al_cons (al_cons (al_nil)))))))).bf) (bk_one (sf_retF [] (ef_bl))) (bk_nil)))) (bk_one (sf_retF [] (ef_bl))))) (bk_nil)) (bk_cons (sf_if ((wf_and (bf_tru (ef_isi "tuple" (by decide) (ev 1) (by rfl) z_isinstance (by rfl) z_tuple (by decide +kernel))) (wf_and1 (bf_not (bf_tru (ef_isi "tuple" (by decide) (ev 0) (by rfl) z_isinstance (by rfl) z_tuple (by decide +kernel)))))).bf) (bk_one (sf_retF [] (ef_bl))) (bk_nil)) (bk_cons (sf_if ((wf_and (bf_tru (ef_isi "list" (by decide) (ev 1) (by rfl) z_isinstance (by rfl) z_list (by decide +kernel))) (wf_and1 (bf_not (bf_tru (ef_isi "list" (by decide) (ev 0) (by rfl) z_isinstance (by rfl) z_list (by decide +kernel)))))).bf) (bk_one (sf_retF [] (ef_bl))) (bk_nil)) (bk_cons (sf_if (bf_cmp (od_ne hr.units) (ef_callB cd_len (by rfl) z_len (by decide +kernel) (af_cons (ev 0) (af_nil))) (ef_callB cd_len (by rfl) z_len (by decide +kernel) (af_cons (ev 1) (af_nil)))) (bk_one (sf_retF [] (ef_bl))) (bk_nil)) (bk_cons (sf_for [] PassesOwn.never rfl (if_rng1 (by rfl) z_range (af_cons (ef_callB cd_len (by rfl) z_len (by decide +kernel) (af_cons (ev 1) (af_nil))) (af_nil))) (gf_name (i := 2) sc__law_same.nd rfl (by first | exact Or.inl rfl | exact Or.inr rfl)) (bk_one (sf_if (bf_not (bf_tru (ef_f 2 h__law_same hr (by omega) (by rfl) (af_cons (ef_ix (ev 0) (ev 2)) (af_cons (ef_ix (ev 1) (ev 2)) (af_nil))) (al_cons (al_cons (al_nil)))))) (bk_one (sf_retF [] (ef_bl))) (bk_nil)))) (bk_one (sf_retF [] (ef_bl))))))))))
theorem ok__law_same (z_bool : mg "bool" = none) (z_dict : mg "dict" = none) (z_int : mg "int" = none) (z_isinstance : mg "isinstance" = none) (z_len : mg "len" = none) (z_list : mg "list" = none) (z_range : mg "range" = none) (z_str : mg "str" = none) (z_tuple : mg "tuple" = none) {f : Addr} {fd : FuncData} (F : Fun K "_law_same" "_law_same" s__law_same f fd) (hm : mg "_law_same" = some (.ref f)) : Fn P w K mg base "_law_same" 21 ["answer", "due"] (spF K 2 (m__law_same 20)) :=
  fn_rec (k := 1) m__law_same hm F.kp (F.binds (ps := ["answer", "due"]) fun _ _ _ _ _ _ us hl => match us, hl with | [_, _], _ => rfl) rfl (fun i h => (fn_F F sc__law_same (bd__law_same z_bool z_dict z_int z_isinstance z_len z_list z_range z_str z_tuple    i h) :)) 20
abbrev s__law_gcd : Stmt := topS 24
theorem sc__law_gcd : FnScope ["one", "other", "k"] ["one", "other"] (defScope s__law_gcd) := ⟨rfl, rfl, rfl, by decide +kernel, rfl, by decide +kernel, by decide +kernel⟩
theorem bd__law_gcd (z_int : mg "int" = none) (z_range : mg "range" = none) {f : Addr} : Body P w K mg base ["one", "other", "k"] "_law_gcd" s__law_gcd f 0 b__law_gcd := fun cdv A outer s H E hr => by
  show BkF _ (defBody s__law_gcd) b__law_gcd
  exact bk_cons (sf_for [] PassesOwn.never rfl (if_rng1 (by rfl) z_range (af_cons (ef_int) (af_nil))) (gf_name (i := 2) sc__law_gcd.nd rfl (by first | exact Or.inl rfl | exact Or.inr rfl)) (bk_cons (sf_if (bf_cmp (od_eq hr.units) (ev 1) (ef_int)) (bk_one (sf_brk)) (bk_nil)) (bk_one (sf_par (i := 0) (j := 1) [] rfl sc__law_gcd.nd rfl rfl (by decide) rfl rfl (af_cons (ev 1) (af_cons (ef_op od_mod (ef_callTy cd_int (by rfl) z_int (by decide +kernel) (af_cons (ev 0) (af_nil))) (ev 1)) (af_nil))) (by rfl))))) (bk_one (sf_retF [] (ev 0)))
theorem ok__law_gcd (z_int : mg "int" = none) (z_range : mg "range" = none) {f : Addr} {fd : FuncData} (F : Fun K "_law_gcd" "_law_gcd" s__law_gcd f fd) (hm : mg "_law_gcd" = some (.ref f)) : Fn P w K mg base "_law_gcd" 1 ["one", "other"] (spF K 2 m__law_gcd) :=
  ⟨f, fd, (fn_F F sc__law_gcd (bd__law_gcd z_int z_range   ) :), hm, F.kp, (F.binds (ps := ["one", "other"]) fun _ _ _ _ _ _ us hl => match us, hl with | [_, _], _ => rfl)⟩
abbrev s__law_ratio : Stmt := topS 25
theorem sc__law_ratio : FnScope ["p", "q", "shared"] ["p", "q"] (defScope s__law_ratio) := ⟨rfl, rfl, rfl, by decide +kernel, rfl, by decide +kernel, by decide +kernel⟩
theorem bd__law_ratio (z_abs : mg "abs" = none) (h__law_gcd : Fn P w K mg base "_law_gcd" 1 ["one", "other"] (spF K 2 m__law_gcd)) {f : Addr} : Body P w K mg base ["p", "q", "shared"] "_law_ratio" s__law_ratio f 1 b__law_ratio := fun cdv A outer s H E hr => by
  show BkF _ (defBody s__law_ratio) b__law_ratio
  exact bk_cons (sf_if (bf_cmp od_lt (ev 1) (ef_int)) (bk_one (sf_par (i := 0) (j := 1) [] rfl sc__law_ratio.nd rfl rfl (by decide) rfl rfl (af_cons (ef_un ud_neg (ev 0)) (af_cons (ef_un ud_neg (ev 1)) (af_nil))) (by rfl))) (bk_nil)) (bk_cons ((as_set (i := 2) sc__law_ratio.nd rfl (by first | exact Or.inl rfl | exact Or.inr rfl) (ef_f 2 h__law_gcd hr (by omega) (by rfl) (af_cons (ef_callB cd_abs (by rfl) z_abs (by decide +kernel) (af_cons (ev 0) (af_nil))) (af_cons (ev 1) (af_nil))) (al_cons (al_cons (al_nil))))).f []) (bk_one (sf_retF [] (ef_tup (af_cons (ef_op od_fdiv (ev 0) (ev 2)) (af_cons (ef_op od_fdiv (ev 1) (ev 2)) (af_nil)))))))
theorem ok__law_ratio (z_abs : mg "abs" = none) (h__law_gcd : Fn P w K mg base "_law_gcd" 1 ["one", "other"] (spF K 2 m__law_gcd)) {f : Addr} {fd : FuncData} (F : Fun K "_law_ratio" "_law_ratio" s__law_ratio f fd) (hm : mg "_law_ratio" = some (.ref f)) : Fn P w K mg base "_law_ratio" 2 ["p", "q"] (spF K 2 m__law_ratio) :=
  ⟨f, fd, (fn_F F sc__law_ratio (bd__law_ratio z_abs   h__law_gcd) :), hm, F.kp, (F.binds (ps := ["p", "q"]) fun _ _ _ _ _ _ us hl => match us, hl with | [_, _], _ => rfl)⟩
abbrev s__law_add : Stmt := topS 26
theorem sc__law_add : FnScope ["one", "other"] ["one", "other"] (defScope s__law_add) := ⟨rfl, rfl, rfl, by decide +kernel, rfl, by decide +kernel, by decide +kernel⟩
theorem bd__law_add (h__law_ratio : Fn P w K mg base "_law_ratio" 2 ["p", "q"] (spF K 2 m__law_ratio)) {f : Addr} : Body P w K mg base ["one", "other"] "_law_add" s__law_add f 2 b__law_add := fun cdv A outer s H E hr => by
  show BkF _ (defBody s__law_add) b__law_add
  exact bk_one (sf_retF [] (ef_f 2 h__law_ratio hr (by omega) (by rfl) (af_cons (ef_op od_add (ef_op od_mul (ef_ix (ev 0) (ef_int)) (ef_ix (ev 1) (ef_int))) (ef_op od_mul (ef_ix (ev 1) (ef_int)) (ef_ix (ev 0) (ef_int)))) (af_cons (ef_op od_mul (ef_ix (ev 0) (ef_int)) (ef_ix (ev 1) (ef_int))) (af_nil))) (al_cons (al_cons (al_nil)))))
theorem ok__law_add (h__law_ratio : Fn P w K mg base "_law_ratio" 2 ["p", "q"] (spF K 2 m__law_ratio)) {f : Addr} {fd : FuncData} (F : Fun K "_law_add" "_law_add" s__law_add f fd) (hm : mg "_law_add" = some (.ref f)) : Fn P w K mg base "_law_add" 3 ["one", "other"] (spF K 2 m__law_add) :=
  ⟨f, fd, (fn_F F sc__law_add (bd__law_add    h__law_ratio) :), hm, F.kp, (F.binds (ps := ["one", "other"]) fun _ _ _ _ _ _ us hl => match us, hl with | [_, _], _ => rfl)⟩
abbrev s__law_sub : Stmt := topS 27
theorem sc__law_sub : FnScope ["one", "other"] ["one", "other"] (defScope s__law_sub) := ⟨rfl, rfl, rfl, by decide +kernel, rfl, by decide +kernel, by decide +kernel⟩
theorem bd__law_sub (h__law_ratio : Fn P w K mg base "_law_ratio" 2 ["p", "q"] (spF K 2 m__law_ratio)) {f : Addr} : Body P w K mg base ["one", "other"] "_law_sub" s__law_sub f 2 b__law_sub := fun cdv A outer s H E hr => by
  show BkF _ (defBody s__law_sub) b__law_sub
  exact bk_one (sf_retF [] (ef_f 2 h__law_ratio hr (by omega) (by rfl) (af_cons (ef_op od_sub (ef_op od_mul (ef_ix (ev 0) (ef_int)) (ef_ix (ev 1) (ef_int))) (ef_op od_mul (ef_ix (ev 1) (ef_int)) (ef_ix (ev 0) (ef_int)))) (af_cons (ef_op od_mul (ef_ix (ev 0) (ef_int)) (ef_ix (ev 1) (ef_int))) (af_nil))) (al_cons (al_cons (al_nil)))))
theorem ok__law_sub (h__law_ratio : Fn P w K mg base "_law_ratio" 2 ["p", "q"] (spF K 2 m__law_ratio)) {f : Addr} {fd : FuncData} (F : Fun K "_law_sub" "_law_sub" s__law_sub f fd) (hm : mg "_law_sub" = some (.ref f)) : Fn P w K mg base "_law_sub" 3 ["one", "other"] (spF K 2 m__law_sub) :=
  ⟨f, fd, (fn_F F sc__law_sub (bd__law_sub    h__law_ratio) :), hm, F.kp, (F.binds (ps := ["one", "other"]) fun _ _ _ _ _ _ us hl => match us, hl with | [_, _], _ => rfl)⟩
abbrev s__law_mul : Stmt := topS 28
theorem sc__law_mul : FnScope ["one", "other"] ["one", "other"] (defScope s__law_mul) := ⟨rfl, rfl, rfl, by decide +kernel, rfl, by decide +kernel, by decide +kernel⟩
theorem bd__law_mul (h__law_ratio : Fn P w K mg base "_law_ratio" 2 ["p", "q"] (spF K 2 m__law_ratio)) {f : Addr} : Body P w K mg base ["one", "other"] "_law_mul" s__law_mul f 2 b__law_mul := fun cdv A outer s H E hr => by
  show BkF _ (defBody s__law_mul) b__law_mul
  exact bk_one (sf_retF [] (ef_f 2 h__law_ratio hr (by omega) (by rfl) (af_cons (ef_op od_mul (ef_ix (ev 0) (ef_int)) (ef_ix (ev 1) (ef_int))) (af_cons (ef_op od_mul (ef_ix (ev 0) (ef_int)) (ef_ix (ev 1) (ef_int))) (af_nil))) (al_cons (al_cons (al_nil)))))
theorem ok__law_mul (h__law_ratio : Fn P w K mg base "_law_ratio" 2 ["p", "q"] (spF K 2 m__law_ratio)) {f : Addr} {fd : FuncData} (F : Fun K "_law_mul" "_law_mul" s__law_mul f fd) (hm : mg "_law_mul" = some (.ref f)) : Fn P w K mg base "_law_mul" 3 ["one", "other"] (spF K 2 m__law_mul) :=
  ⟨f, fd, (fn_F F sc__law_mul (bd__law_mul    h__law_ratio) :), hm, F.kp, (F.binds (ps := ["one", "other"]) fun _ _ _ _ _ _ us hl => match us, hl with | [_, _], _ => rfl)⟩
abbrev s__law_div : Stmt := topS 29
theorem sc__law_div : FnScope ["one", "other"] ["one", "other"] (defScope s__law_div) := ⟨rfl, rfl, rfl, by decide +kernel, rfl, by decide +kernel, by decide +kernel⟩
theorem bd__law_div (h__law_ratio : Fn P w K mg base "_law_ratio" 2 ["p", "q"] (spF K 2 m__law_ratio)) {f : Addr} : Body P w K mg base ["one", "other"] "_law_div" s__law_div f 2 b__law_div := fun cdv A outer s H E hr => by
  show BkF _ (defBody s__law_div) b__law_div
  exact bk_one (sf_retF [] (ef_f 2 h__law_ratio hr (by omega) (by rfl) (af_cons (ef_op od_mul (ef_ix (ev 0) (ef_int)) (ef_ix (ev 1) (ef_int))) (af_cons (ef_op od_mul (ef_ix (ev 0) (ef_int)) (ef_ix (ev 1) (ef_int))) (af_nil))) (al_cons (al_cons (al_nil)))))
theorem ok__law_div (h__law_ratio : Fn P w K mg base "_law_ratio" 2 ["p", "q"] (spF K 2 m__law_ratio)) {f : Addr} {fd : FuncData} (F : Fun K "_law_div" "_law_div" s__law_div f fd) (hm : mg "_law_div" = some (.ref f)) : Fn P w K mg base "_law_div" 3 ["one", "other"] (spF K 2 m__law_div) :=
  ⟨f, fd, (fn_F F sc__law_div (bd__law_div    h__law_ratio) :), hm, F.kp, (F.binds (ps := ["one", "other"]) fun _ _ _ _ _ _ us hl => match us, hl with | [_, _], _ => rfl)⟩
abbrev s__law_dot : Stmt := topS 30
theorem sc__law_dot : FnScope ["row", "other", "found", "k"] ["row", "other"] (defScope s__law_dot) := ⟨rfl, rfl, rfl, by decide +kernel, rfl, by decide +kernel, by decide +kernel⟩
theorem bd__law_dot (z_len : mg "len" = none) (z_range : mg "range" = none) (h__law_add : Fn P w K mg base "_law_add" 3 ["one", "other"] (spF K 2 m__law_add)) (h__law_mul : Fn P w K mg base "_law_mul" 3 ["one", "other"] (spF K 2 m__law_mul)) {f : Addr} : Body P w K mg base ["row", "other", "found", "k"] "_law_dot" s__law_dot f 3 b__law_dot := fun cdv A outer s H E hr => by
  show BkF _ (defBody s__law_dot) b__law_dot
  exact bk_cons ((as_set (i := 2) sc__law_dot.nd rfl (by first | exact Or.inl rfl | exact Or.inr rfl) (ef_tup (af_cons (ef_int) (af_cons (ef_int) (af_nil))))).f []) (bk_cons (sf_for [] PassesOwn.never rfl (if_rng1 (by rfl) z_range (af_cons (ef_callB cd_len (by rfl) z_len (by decide +kernel) (af_cons (ev 0) (af_nil))) (af_nil))) (gf_name (i := 3) sc__law_dot.nd rfl (by first | exact Or.inl rfl | exact Or.inr rfl)) (bk_one (sf_if ((wf_and (bf_cmp (od_ne hr.units) (ef_ix (ef_ix (ev 0) (ev 3)) (ef_int)) (ef_int)) (wf_and1 (bf_cmp (od_ne hr.units) (ef_ix (ef_ix (ev 1) (ev 3)) (ef_int)) (ef_int)))).bf) (bk_one ((as_set (i := 2) sc__law_dot.nd rfl (by first | exact Or.inl rfl | exact Or.inr rfl) (ef_f 2 h__law_add hr (by omega) (by rfl) (af_cons (ev 2) (af_cons (ef_f 2 h__law_mul hr (by omega) (by rfl) (af_cons (ef_ix (ev 0) (ev 3)) (af_cons (ef_ix (ev 1) (ev 3)) (af_nil))) (al_cons (al_cons (al_nil)))) (af_nil))) (al_cons (al_cons (al_nil))))).f [])) (bk_nil)))) (bk_one (sf_retF [] (ev 2))))
theorem ok__law_dot (z_len : mg "len" = none) (z_range : mg "range" = none) (h__law_add : Fn P w K mg base "_law_add" 3 ["one", "other"] (spF K 2 m__law_add)) (h__law_mul : Fn P w K mg base "_law_mul" 3 ["one", "other"] (spF K 2 m__law_mul)) {f : Addr} {fd : FuncData} (F : Fun K "_law_dot" "_law_dot" s__law_dot f fd) (hm : mg "_law_dot" = some (.ref f)) : Fn P w K mg base "_law_dot" 4 ["row", "other"] (spF K 2 m__law_dot) :=
  ⟨f, fd, (fn_F F sc__law_dot (bd__law_dot z_len z_range   h__law_add h__law_mul) :), hm, F.kp, (F.binds (ps := ["row", "other"]) fun _ _ _ _ _ _ us hl => match us, hl with | [_, _], _ => rfl)⟩
abbrev s__law_small_told : Stmt := topS 31
theorem sc__law_small_told : FnScope ["pool"] ["pool"] (defScope s__law_small_told) := ⟨rfl, rfl, rfl, by decide +kernel, rfl, by decide +kernel, by decide +kernel⟩
theorem bd__law_small_told (h__law_draw : Fn P w K mg base "_law_draw" 3 ["pool", "limit"] (spP K 2 m__law_draw)) (h__law_pick : Fn P w K mg base "_law_pick" 4 ["pool", "options"] (spP K 2 m__law_pick)) (h__law_ratio : Fn P w K mg base "_law_ratio" 2 ["p", "q"] (spF K 2 m__law_ratio)) {f : Addr} : Body P w K mg base ["pool"] "_law_small_told" s__law_small_told f 4 b__law_small_told := fun cdv A outer s H E hr => by
  show BkF _ (defBody s__law_small_told) b__law_small_told
  exact bk_one (sf_retF [] (ef_p 1 0 h__law_pick hr (by omega) (by rfl) (af_cons ((lf_lst (af_cons (ef_tup (af_cons (ef_op od_sub (ef_p 1 0 h__law_draw hr (by omega) (by rfl) (af_cons (ef_int) (af_nil)) (al_cons (al_nil))) (ef_int)) (af_cons (ef_int) (af_nil)))) (af_cons (ef_tup (af_cons (ef_op od_sub (ef_p 1 0 h__law_draw hr (by omega) (by rfl) (af_cons (ef_int) (af_nil)) (al_cons (al_nil))) (ef_int)) (af_cons (ef_int) (af_nil)))) (af_cons (ef_f 2 h__law_ratio hr (by omega) (by rfl) (af_cons (ef_op od_sub (ef_p 1 0 h__law_draw hr (by omega) (by rfl) (af_cons (ef_int) (af_nil)) (al_cons (al_nil))) (ef_int)) (af_cons (ef_op od_add (ef_int) (ef_p 1 0 h__law_draw hr (by omega) (by rfl) (af_cons (ef_int) (af_nil)) (al_cons (al_nil)))) (af_nil))) (al_cons (al_cons (al_nil)))) (af_nil))))).ef) (af_nil)) (al_cons (al_nil))))
theorem ok__law_small_told (h__law_draw : Fn P w K mg base "_law_draw" 3 ["pool", "limit"] (spP K 2 m__law_draw)) (h__law_pick : Fn P w K mg base "_law_pick" 4 ["pool", "options"] (spP K 2 m__law_pick)) (h__law_ratio : Fn P w K mg base "_law_ratio" 2 ["p", "q"] (spF K 2 m__law_ratio)) {f : Addr} {fd : FuncData} (F : Fun K "_law_small_told" "_law_small_told" s__law_small_told f fd) (hm : mg "_law_small_told" = some (.ref f)) : Fn P w K mg base "_law_small_told" 5 ["pool"] (spP K 1 m__law_small_told) :=
  ⟨f, fd, (fn_P F sc__law_small_told (bd__law_small_told    h__law_draw h__law_pick h__law_ratio) :), hm, F.kp, (F.binds (ps := ["pool"]) fun _ _ _ _ _ _ us hl => match us, hl with | [_], _ => rfl)⟩
abbrev s__law_rank : Stmt := topS 32
theorem sc__law_rank : FnScope ["rows", "left", "rank", "at", "some", "row", "k", "factor", "j"] ["rows"] (defScope s__law_rank) := ⟨rfl, rfl, rfl, by decide +kernel, rfl, by decide +kernel, by decide +kernel⟩
theorem bd__law_rank (z_len : mg "len" = none) (z_list : mg "list" = none) (z_range : mg "range" = none) (h__law_sub : Fn P w K mg base "_law_sub" 3 ["one", "other"] (spF K 2 m__law_sub)) (h__law_mul : Fn P w K mg base "_law_mul" 3 ["one", "other"] (spF K 2 m__law_mul)) (h__law_div : Fn P w K mg base "_law_div" 3 ["one", "other"] (spF K 2 m__law_div)) {f : Addr} : Body P w K mg base ["rows", "left", "rank", "at", "some", "row", "k", "factor", "j"] "_law_rank" s__law_rank f 3 b__law_rank := fun cdv A outer s H E hr => by
  show BkF _ (defBody s__law_rank) b__law_rank
  exact bk_cons ((asl_set (i := 1) sc__law_rank.nd rfl (by first | exact Or.inl rfl | exact Or.inr rfl) (lf_lc (own := [("row", 5)]) rfl sc__law_rank.nd (blkOk_by (by first | decide +kernel | kernel_rfl | rfl)) (if_seq (ev 0)) (fun _ _ _ _ _ => ge_name (i := 5) sc__law_rank.nd rfl (by first | exact Or.inl rfl | exact Or.inr rfl)) (fun _ _ _ _ _ => ts_nil) (fun _ _ _ _ _ => (lf_callTy cl_list (by rfl) z_list (by decide +kernel) (af_cons (ev 5) (af_nil))).ef) (by decide))).o []) (bk_cons ((as_set (i := 2) sc__law_rank.nd rfl (by first | exact Or.inl rfl | exact Or.inr rfl) (ef_int)).f []) (bk_cons (sf_forS PassesOwn.never rfl (if_rng1p (by rfl) z_range (af_cons (ef_ite (bf_cmp od_gt (ef_callB cd_len (by rfl) z_len (by decide +kernel) (af_cons (ev 1) (af_nil))) (ef_int)) (ef_callB cd_len (by rfl) z_len (by decide +kernel) (af_cons (ef_ix (ev 1) (ef_int)) (af_nil))) (ef_int)) (af_nil))) (gf_name (i := 3) sc__law_rank.nd rfl (by first | exact Or.inl rfl | exact Or.inr rfl)) (bk_cons ((asl_lc (i := 4) (own := [("k", 6)]) rfl sc__law_rank.nd rfl rfl (sw_true rfl rfl rfl rfl) (blkOk_by (by first | decide +kernel | kernel_rfl | rfl)) (if_rng2 (by rfl) z_range (af_cons (ev 2) (af_cons (ef_callB cd_len (by rfl) z_len (by decide +kernel) (af_cons (ev 1) (af_nil))) (af_nil)))) (fun _ _ _ _ _ => ge_name (i := 6) sc__law_rank.nd rfl (by first | exact Or.inl rfl | exact Or.inr rfl)) (fun _ _ _ _ _ => ts_one (bf_cmp (od_ne hr.units) (ef_ix (ef_ix (ef_ix (ev 1) (ev 6)) (ev 3)) (ef_int)) (ef_int))) (fun _ _ _ _ _ => ev 6) (by decide)).sL) (bk_one (sf_if (bf_cmp od_gt (ef_callB cd_len (by rfl) z_len (by decide +kernel) (af_cons (ev 4) (af_nil))) (ef_int)) (bk_cons (sf_swp (ev 2) (ef_ix (ev 4) (ef_int)) (ef_ix (ev 4) (ef_int)) (ev 2) (fun t1 t2 t3 t4 h1 h2 h3 h4 => ps_asg (pe_tup (pa_cons (pe_ix ix_list (pv 1) h3 (fun _ _ => rfl)) (pa_cons (pe_ix ix_list (pv 1) h4 (fun _ _ => rfl)) pa_nil))) (pg_tup rfl (pgs_cons (pg_sub (pv 1) h1 set_list) (pgs_cons (pg_sub (pv 1) h2 set_list) pgs_nil))))) (bk_cons (sf_forS PassesOwn.never rfl (if_rng2p (by rfl) z_range (af_cons (ef_op od_add (ev 2) (ef_int)) (af_cons (ef_callB cd_len (by rfl) z_len (by decide +kernel) (af_cons (ev 1) (af_nil))) (af_nil)))) (gf_name (i := 6) sc__law_rank.nd rfl (by first | exact Or.inl rfl | exact Or.inr rfl)) (bk_cons ((as_set (i := 7) sc__law_rank.nd rfl (by first | exact Or.inl rfl | exact Or.inr rfl) (ef_f 2 h__law_div hr (by omega) (by rfl) (af_cons (ef_ix (ef_ix (ev 1) (ev 6)) (ev 3)) (af_cons (ef_ix (ef_ix (ev 1) (ev 2)) (ev 3)) (af_nil))) (al_cons (al_cons (al_nil))))).s) (bk_one (sf_setLS (lf_lc (own := [("j", 8)]) rfl sc__law_rank.nd (blkOk_by (by first | decide +kernel | kernel_rfl | rfl)) (if_rng1 (by rfl) z_range (af_cons (ef_callB cd_len (by rfl) z_len (by decide +kernel) (af_cons (ef_ix (ev 1) (ev 6)) (af_nil))) (af_nil))) (fun _ _ _ _ _ => ge_name (i := 8) sc__law_rank.nd rfl (by first | exact Or.inl rfl | exact Or.inr rfl)) (fun _ _ _ _ _ => ts_nil) (fun _ _ _ _ _ => ef_f 2 h__law_sub hr (by omega) (by rfl) (af_cons (ef_ix (ef_ix (ev 1) (ev 6)) (ev 8)) (af_cons (ef_f 2 h__law_mul hr (by omega) (by rfl) (af_cons (ev 7) (af_cons (ef_ix (ef_ix (ev 1) (ev 2)) (ev 8)) (af_nil))) (al_cons (al_cons (al_nil)))) (af_nil))) (al_cons (al_cons (al_nil)))) (by decide)) (ev 6) (fun te ti h hi => ps_asg h (pg_sub (pv 1) hi set_list)))))) (bk_one ((as_set (i := 2) sc__law_rank.nd rfl (by first | exact Or.inl rfl | exact Or.inr rfl) (ef_op od_add (ev 2) (ef_int))).f [])))) (bk_nil))))) (bk_one (sf_retF [] (ev 2)))))
theorem ok__law_rank (z_len : mg "len" = none) (z_list : mg "list" = none) (z_range : mg "range" = none) (h__law_sub : Fn P w K mg base "_law_sub" 3 ["one", "other"] (spF K 2 m__law_sub)) (h__law_mul : Fn P w K mg base "_law_mul" 3 ["one", "other"] (spF K 2 m__law_mul)) (h__law_div : Fn P w K mg base "_law_div" 3 ["one", "other"] (spF K 2 m__law_div)) {f : Addr} {fd : FuncData} (F : Fun K "_law_rank" "_law_rank" s__law_rank f fd) (hm : mg "_law_rank" = some (.ref f)) : Fn P w K mg base "_law_rank" 4 ["rows"] (spF K 1 m__law_rank) :=
  ⟨f, fd, (fn_F F sc__law_rank (bd__law_rank z_len z_list z_range   h__law_sub h__law_mul h__law_div) :), hm, F.kp, (F.binds (ps := ["rows"]) fun _ _ _ _ _ _ us hl => match us, hl with | [_], _ => rfl)⟩
abbrev s__law_solved : Stmt := topS 33
theorem sc__law_solved : FnScope ["rows", "right", "left", "at", "lead", "k", "row", "number", "factor", "j"] ["rows", "right"] (defScope s__law_solved) := ⟨rfl, rfl, rfl, by decide +kernel, rfl, by decide +kernel, by decide +kernel⟩
theorem bd__law_solved (z_len : mg "len" = none) (z_list : mg "list" = none) (z_range : mg "range" = none) (h__law_sub : Fn P w K mg base "_law_sub" 3 ["one", "other"] (spF K 2 m__law_sub)) (h__law_mul : Fn P w K mg base "_law_mul" 3 ["one", "other"] (spF K 2 m__law_mul)) (h__law_div : Fn P w K mg base "_law_div" 3 ["one", "other"] (spF K 2 m__law_div)) {f : Addr} : Body P w K mg base ["rows", "right", "left", "at", "lead", "k", "row", "number", "factor", "j"] "_law_solved" s__law_solved f 3 b__law_solved := fun cdv A outer s H E hr => by
  show BkF _ (defBody s__law_solved) b__law_solved
  exact bk_cons ((asl_set (i := 2) sc__law_solved.nd rfl (by first | exact Or.inl rfl | exact Or.inr rfl) (lf_lc (own := [("k", 5)]) rfl sc__law_solved.nd (blkOk_by (by first | decide +kernel | kernel_rfl | rfl)) (if_rng1 (by rfl) z_range (af_cons (ef_callB cd_len (by rfl) z_len (by decide +kernel) (af_cons (ev 0) (af_nil))) (af_nil))) (fun _ _ _ _ _ => ge_name (i := 5) sc__law_solved.nd rfl (by first | exact Or.inl rfl | exact Or.inr rfl)) (fun _ _ _ _ _ => ts_nil) (fun _ _ _ _ _ => ef_op od_add ((lf_callTy cl_list (by rfl) z_list (by decide +kernel) (af_cons (ef_ix (ev 0) (ev 5)) (af_nil))).ef) ((lf_lst (af_cons (ef_ix (ev 1) (ev 5)) (af_nil))).ef)) (by decide))).o []) (bk_cons (sf_for [] PassesOwn.never rfl (if_rng1 (by rfl) z_range (af_cons (ef_callB cd_len (by rfl) z_len (by decide +kernel) (af_cons (ev 0) (af_nil))) (af_nil))) (gf_name (i := 3) sc__law_solved.nd rfl (by first | exact Or.inl rfl | exact Or.inr rfl)) (bk_cons ((as_set (i := 4) sc__law_solved.nd rfl (by first | exact Or.inl rfl | exact Or.inr rfl) (ef_ix ((lf_lc (own := [("k", 5)]) rfl sc__law_solved.nd (blkOk_by (by first | decide +kernel | kernel_rfl | rfl)) (if_rng2 (by rfl) z_range (af_cons (ev 3) (af_cons (ef_callB cd_len (by rfl) z_len (by decide +kernel) (af_cons (ev 2) (af_nil))) (af_nil)))) (fun _ _ _ _ _ => ge_name (i := 5) sc__law_solved.nd rfl (by first | exact Or.inl rfl | exact Or.inr rfl)) (fun _ _ _ _ _ => ts_one (bf_cmp (od_ne hr.units) (ef_ix (ef_ix (ef_ix (ev 2) (ev 5)) (ev 3)) (ef_int)) (ef_int))) (fun _ _ _ _ _ => ev 5) (by decide)).ef) (ef_int))).s) (bk_cons (sf_swp (ev 3) (ev 4) (ev 4) (ev 3) (fun t1 t2 t3 t4 h1 h2 h3 h4 => ps_asg (pe_tup (pa_cons (pe_ix ix_list (pv 2) h3 (fun _ _ => rfl)) (pa_cons (pe_ix ix_list (pv 2) h4 (fun _ _ => rfl)) pa_nil))) (pg_tup rfl (pgs_cons (pg_sub (pv 2) h1 set_list) (pgs_cons (pg_sub (pv 2) h2 set_list) pgs_nil))))) (bk_cons (sf_setLS (lf_lc (own := [("number", 7)]) rfl sc__law_solved.nd (blkOk_by (by first | decide +kernel | kernel_rfl | rfl)) (if_seq (ef_ix (ev 2) (ev 3))) (fun _ _ _ _ _ => ge_name (i := 7) sc__law_solved.nd rfl (by first | exact Or.inl rfl | exact Or.inr rfl)) (fun _ _ _ _ _ => ts_nil) (fun _ _ _ _ _ => ef_f 2 h__law_div hr (by omega) (by rfl) (af_cons (ev 7) (af_cons (ef_ix (ef_ix (ev 2) (ev 3)) (ev 3)) (af_nil))) (al_cons (al_cons (al_nil)))) (by decide)) (ev 3) (fun te ti h hi => ps_asg h (pg_sub (pv 2) hi set_list))) (bk_one (sf_forS PassesOwn.never rfl (if_rng1p (by rfl) z_range (af_cons (ef_callB cd_len (by rfl) z_len (by decide +kernel) (af_cons (ev 2) (af_nil))) (af_nil))) (gf_name (i := 5) sc__law_solved.nd rfl (by first | exact Or.inl rfl | exact Or.inr rfl)) (bk_one (sf_if (bf_cmp (od_ne hr.units) (ev 5) (ev 3)) (bk_cons ((as_set (i := 8) sc__law_solved.nd rfl (by first | exact Or.inl rfl | exact Or.inr rfl) (ef_ix (ef_ix (ev 2) (ev 5)) (ev 3))).s) (bk_one (sf_setLS (lf_lc (own := [("j", 9)]) rfl sc__law_solved.nd (blkOk_by (by first | decide +kernel | kernel_rfl | rfl)) (if_rng1 (by rfl) z_range (af_cons (ef_callB cd_len (by rfl) z_len (by decide +kernel) (af_cons (ef_ix (ev 2) (ev 5)) (af_nil))) (af_nil))) (fun _ _ _ _ _ => ge_name (i := 9) sc__law_solved.nd rfl (by first | exact Or.inl rfl | exact Or.inr rfl)) (fun _ _ _ _ _ => ts_nil) (fun _ _ _ _ _ => ef_f 2 h__law_sub hr (by omega) (by rfl) (af_cons (ef_ix (ef_ix (ev 2) (ev 5)) (ev 9)) (af_cons (ef_f 2 h__law_mul hr (by omega) (by rfl) (af_cons (ev 8) (af_cons (ef_ix (ef_ix (ev 2) (ev 3)) (ev 9)) (af_nil))) (al_cons (al_cons (al_nil)))) (af_nil))) (al_cons (al_cons (al_nil)))) (by decide)) (ev 5) (fun te ti h hi => ps_asg h (pg_sub (pv 2) hi set_list))))) (bk_nil))))))))) (bk_one (sf_retL [2] (lf_lc (own := [("row", 6)]) rfl sc__law_solved.nd (blkOk_by (by first | decide +kernel | kernel_rfl | rfl)) (if_seq (ev 2)) (fun _ _ _ _ _ => ge_name (i := 6) sc__law_solved.nd rfl (by first | exact Or.inl rfl | exact Or.inr rfl)) (fun _ _ _ _ _ => ts_nil) (fun _ _ _ _ _ => ef_ix (ev 6) (ef_un ud_neg (ef_int))) (by decide)))))
theorem ok__law_solved (z_len : mg "len" = none) (z_list : mg "list" = none) (z_range : mg "range" = none) (h__law_sub : Fn P w K mg base "_law_sub" 3 ["one", "other"] (spF K 2 m__law_sub)) (h__law_mul : Fn P w K mg base "_law_mul" 3 ["one", "other"] (spF K 2 m__law_mul)) (h__law_div : Fn P w K mg base "_law_div" 3 ["one", "other"] (spF K 2 m__law_div)) {f : Addr} {fd : FuncData} (F : Fun K "_law_solved" "_law_solved" s__law_solved f fd) (hm : mg "_law_solved" = some (.ref f)) : Fn P w K mg base "_law_solved" 4 ["rows", "right"] (spL K 2 m__law_solved) :=
  ⟨f, fd, (fn_L F sc__law_solved (bd__law_solved z_len z_list z_range   h__law_sub h__law_mul h__law_div) :), hm, F.kp, (F.binds (ps := ["rows", "right"]) fun _ _ _ _ _ _ us hl => match us, hl with | [_, _], _ => rfl)⟩
abbrev s__law_turned_table : Stmt := topS 34
theorem sc__law_turned_table : FnScope ["pool", "size", "rows", "k", "i", "j"] ["pool"] (defScope s__law_turned_table) := ⟨rfl, rfl, rfl, by decide +kernel, rfl, by decide +kernel, by decide +kernel⟩
theorem bd__law_turned_table (z_range : mg "range" = none) (h__law_draw : Fn P w K mg base "_law_draw" 3 ["pool", "limit"] (spP K 2 m__law_draw)) (h__law_add : Fn P w K mg base "_law_add" 3 ["one", "other"] (spF K 2 m__law_add)) (h__law_dot : Fn P w K mg base "_law_dot" 4 ["row", "other"] (spF K 2 m__law_dot)) (h__law_small_told : Fn P w K mg base "_law_small_told" 5 ["pool"] (spP K 1 m__law_small_told)) {f : Addr} : Body P w K mg base ["pool", "size", "rows", "k", "i", "j"] "_law_turned_table" s__law_turned_table f 5 b__law_turned_table := fun cdv A outer s H E hr => by
  show BkF _ (defBody s__law_turned_table) b__law_turned_table
  exact bk_cons ((as_set (i := 1) sc__law_turned_table.nd rfl (by first | exact Or.inl rfl | exact Or.inr rfl) (ef_op od_add (ef_int) (ef_p 1 0 h__law_draw hr (by omega) (by rfl) (af_cons (ef_int) (af_nil)) (al_cons (al_nil))))).f []) (bk_cons ((as_set (i := 2) sc__law_turned_table.nd rfl (by first | exact Or.inl rfl | exact Or.inr rfl) ((lf_lc (own := [("k", 3)]) rfl sc__law_turned_table.nd (blkOk_by (by first | decide +kernel | kernel_rfl | rfl)) (if_rng1 (by rfl) z_range (af_cons (ev 1) (af_nil))) (fun _ _ _ _ _ => ge_name (i := 3) sc__law_turned_table.nd rfl (by first | exact Or.inl rfl | exact Or.inr rfl)) (fun _ _ _ _ _ => ts_nil) (fun _ _ _ _ _ => (lf_lc (own := [("j", 5)]) rfl sc__law_turned_table.nd (blkOk_by (by first | decide +kernel | kernel_rfl | rfl)) (if_rng1 (by rfl) z_range (af_cons (ev 1) (af_nil))) (fun _ _ _ _ _ => ge_name (i := 5) sc__law_turned_table.nd rfl (by first | exact Or.inl rfl | exact Or.inr rfl)) (fun _ _ _ _ _ => ts_nil) (fun _ _ _ _ _ => ef_p 0 0 h__law_small_told hr (by omega) (by rfl) (af_nil) (al_nil)) (by decide)).ef) (by decide)).ef)).f []) (bk_cons (sf_if (bf_cmp (od_eq hr.units) (ef_p 1 0 h__law_draw hr (by omega) (by rfl) (af_cons (ef_int) (af_nil)) (al_cons (al_nil))) (ef_int)) (bk_one (sf_retL [] (lf_lc (own := [("i", 4)]) rfl sc__law_turned_table.nd (blkOk_by (by first | decide +kernel | kernel_rfl | rfl)) (if_rng1 (by rfl) z_range (af_cons (ev 1) (af_nil))) (fun _ _ _ _ _ => ge_name (i := 4) sc__law_turned_table.nd rfl (by first | exact Or.inl rfl | exact Or.inr rfl)) (fun _ _ _ _ _ => ts_nil) (fun _ _ _ _ _ => (lf_lc (own := [("j", 5)]) rfl sc__law_turned_table.nd (blkOk_by (by first | decide +kernel | kernel_rfl | rfl)) (if_rng1 (by rfl) z_range (af_cons (ev 1) (af_nil))) (fun _ _ _ _ _ => ge_name (i := 5) sc__law_turned_table.nd rfl (by first | exact Or.inl rfl | exact Or.inr rfl)) (fun _ _ _ _ _ => ts_nil) (fun _ _ _ _ _ => ef_f 2 h__law_add hr (by omega) (by rfl) (af_cons (ef_ix (ef_ix (ev 2) (ev 4)) (ev 5)) (af_cons (ef_ix (ef_ix (ev 2) (ev 5)) (ev 4)) (af_nil))) (al_cons (al_cons (al_nil)))) (by decide)).ef) (by decide)))) (bk_nil)) (bk_one (sf_retL [] (lf_lc (own := [("i", 4)]) rfl sc__law_turned_table.nd (blkOk_by (by first | decide +kernel | kernel_rfl | rfl)) (if_rng1 (by rfl) z_range (af_cons (ev 1) (af_nil))) (fun _ _ _ _ _ => ge_name (i := 4) sc__law_turned_table.nd rfl (by first | exact Or.inl rfl | exact Or.inr rfl)) (fun _ _ _ _ _ => ts_nil) (fun _ _ _ _ _ => (lf_lc (own := [("j", 5)]) rfl sc__law_turned_table.nd (blkOk_by (by first | decide +kernel | kernel_rfl | rfl)) (if_rng1 (by rfl) z_range (af_cons (ev 1) (af_nil))) (fun _ _ _ _ _ => ge_name (i := 5) sc__law_turned_table.nd rfl (by first | exact Or.inl rfl | exact Or.inr rfl)) (fun _ _ _ _ _ => ts_nil) (fun _ _ _ _ _ => ef_f 2 h__law_dot hr (by omega) (by rfl) (af_cons (ef_ix (ev 2) (ev 4)) (af_cons (ef_ix (ev 2) (ev 5)) (af_nil))) (al_cons (al_cons (al_nil)))) (by decide)).ef) (by decide))))))
theorem ok__law_turned_table (z_range : mg "range" = none) (h__law_draw : Fn P w K mg base "_law_draw" 3 ["pool", "limit"] (spP K 2 m__law_draw)) (h__law_add : Fn P w K mg base "_law_add" 3 ["one", "other"] (spF K 2 m__law_add)) (h__law_dot : Fn P w K mg base "_law_dot" 4 ["row", "other"] (spF K 2 m__law_dot)) (h__law_small_told : Fn P w K mg base "_law_small_told" 5 ["pool"] (spP K 1 m__law_small_told)) {f : Addr} {fd : FuncData} (F : Fun K "_law_turned_table" "_law_turned_table" s__law_turned_table f fd) (hm : mg "_law_turned_table" = some (.ref f)) : Fn P w K mg base "_law_turned_table" 6 ["pool"] (spPL K 1 m__law_turned_table) :=
  ⟨f, fd, (fn_PL F sc__law_turned_table (bd__law_turned_table z_range   h__law_draw h__law_add h__law_dot h__law_small_told) :), hm, F.kp, (F.binds (ps := ["pool"]) fun _ _ _ _ _ _ us hl => match us, hl with | [_], _ => rfl)⟩
abbrev s_law : Stmt := topS 35
theorem sc_law : FnScope ["script", "pool", "turn", "table", "kept", "others", "part", "told", "numbers", "right", "at", "rest", "k", "own", "first", "middle", "i", "places", "j", "row"] ["script"] (defScope s_law) := ⟨rfl, rfl, rfl, by decide +kernel, rfl, by decide +kernel, by decide +kernel⟩
theorem bd_law (z_len : mg "len" = none) (z_list : mg "list" = none) (z_range : mg "range" = none) (h_reduced_to : Fn P w K mg base "reduced_to" 5 ["table", "kept"] (spF K 2 m_reduced_to)) (h__law_pool : Fn P w K mg base "_law_pool" 3 ["script"] (spL K 1 m__law_pool)) (h__law_next : Fn P w K mg base "_law_next" 3 ["pool"] (spP K 1 m__law_next)) (h__law_draw : Fn P w K mg base "_law_draw" 3 ["pool", "limit"] (spP K 2 m__law_draw)) (h__law_same : Fn P w K mg base "_law_same" 21 ["answer", "due"] (spF K 2 (m__law_same 20))) (h__law_add : Fn P w K mg base "_law_add" 3 ["one", "other"] (spF K 2 m__law_add)) (h__law_sub : Fn P w K mg base "_law_sub" 3 ["one", "other"] (spF K 2 m__law_sub)) (h__law_dot : Fn P w K mg base "_law_dot" 4 ["row", "other"] (spF K 2 m__law_dot)) (h__law_small_told : Fn P w K mg base "_law_small_told" 5 ["pool"] (spP K 1 m__law_small_told)) (h__law_rank : Fn P w K mg base "_law_rank" 4 ["rows"] (spF K 1 m__law_rank)) (h__law_solved : Fn P w K mg base "_law_solved" 4 ["rows", "right"] (spL K 2 m__law_solved)) (h__law_turned_table : Fn P w K mg base "_law_turned_table" 6 ["pool"] (spPL K 1 m__law_turned_table)) {f : Addr} : Body P w K mg base ["script", "pool", "turn", "table", "kept", "others", "part", "told", "numbers", "right", "at", "rest", "k", "own", "first", "middle", "i", "places", "j", "row"] "law" s_law f 21 b_law := fun cdv A outer s H E hr => by
  show BkF _ (defBody s_law) b_law
  exact bk_cons ((asl_set (i := 1) sc_law.nd rfl (by first | exact Or.inl rfl | exact Or.inr rfl) (lf_f 1 h__law_pool hr (by omega) (by rfl) (af_cons (ev 0) (af_nil)) (al_cons (al_nil)))).pnew) (bk_cons (sf_for [] PassesOwn.never rfl (if_rng1 (by rfl) z_range (af_cons (ef_int) (af_nil))) (gf_name (i := 2) sc_law.nd rfl (by first | exact Or.inl rfl | exact Or.inr rfl)) (bk_cons (sf_drop (ef_p 0 1 h__law_next hr (by omega) (by rfl) (af_nil) (al_nil))) (bk_cons ((as_set (i := 3) sc_law.nd rfl (by first | exact Or.inl rfl | exact Or.inr rfl) ((lf_p 0 1 h__law_turned_table hr (by omega) (by rfl) (af_nil) (al_nil)).ef)).f []) (bk_cons ((as_set (i := 4) sc_law.nd rfl (by first | exact Or.inl rfl | exact Or.inr rfl) ((lf_lc (own := [("at", 10)]) rfl sc_law.nd (blkOk_by (by first | decide +kernel | kernel_rfl | rfl)) (if_rng1 (by rfl) z_range (af_cons (ef_callB cd_len (by rfl) z_len (by decide +kernel) (af_cons (ev 3) (af_nil))) (af_nil))) (fun _ _ _ _ _ => ge_name (i := 10) sc_law.nd rfl (by first | exact Or.inl rfl | exact Or.inr rfl)) (fun _ _ _ _ _ => ts_one (bf_cmp (od_eq hr.units) (ef_p 1 1 h__law_draw hr (by omega) (by rfl) (af_cons (ef_int) (af_nil)) (al_cons (al_nil))) (ef_int))) (fun _ _ _ _ _ => ev 10) (by decide)).ef)).f []) (bk_cons ((as_set (i := 4) sc_law.nd rfl (by first | exact Or.inl rfl | exact Or.inr rfl) (ef_ite (bf_cmp od_gt (ef_callB cd_len (by rfl) z_len (by decide +kernel) (af_cons (ev 4) (af_nil))) (ef_int)) (ev 4) ((lf_lst (af_cons (ef_int) (af_nil))).ef))).f []) (bk_cons ((as_set (i := 5) sc_law.nd rfl (by first | exact Or.inl rfl | exact Or.inr rfl) ((lf_lc (own := [("at", 10)]) rfl sc_law.nd (blkOk_by (by first | decide +kernel | kernel_rfl | rfl)) (if_rng1 (by rfl) z_range (af_cons (ef_callB cd_len (by rfl) z_len (by decide +kernel) (af_cons (ev 3) (af_nil))) (af_nil))) (fun _ _ _ _ _ => ge_name (i := 10) sc_law.nd rfl (by first | exact Or.inl rfl | exact Or.inr rfl)) (fun _ _ _ _ _ => ts_one (bf_cmp (od_notIn (u65 hr)) (ev 10) (ev 4))) (fun _ _ _ _ _ => ev 10) (by decide)).ef)).f []) (bk_cons ((asl_lc (i := 6) (own := [("i", 16)]) rfl sc_law.nd rfl rfl (sw_true rfl rfl rfl rfl) (blkOk_by (by first | decide +kernel | kernel_rfl | rfl)) (if_seq (ev 5)) (fun _ _ _ _ _ => ge_name (i := 16) sc_law.nd rfl (by first | exact Or.inl rfl | exact Or.inr rfl)) (fun _ _ _ _ _ => ts_nil) (fun _ _ _ _ _ => (lf_lc (own := [("j", 18)]) rfl sc_law.nd (blkOk_by (by first | decide +kernel | kernel_rfl | rfl)) (if_seq (ev 5)) (fun _ _ _ _ _ => ge_name (i := 18) sc_law.nd rfl (by first | exact Or.inl rfl | exact Or.inr rfl)) (fun _ _ _ _ _ => ts_nil) (fun _ _ _ _ _ => ef_ix (ef_ix (ev 3) (ev 16)) (ev 18)) (by decide)).ef) (by decide)).as.f []) (bk_cons ((as_set (i := 7) sc_law.nd rfl (by first | exact Or.inl rfl | exact Or.inr rfl) (ef_f 2 h_reduced_to hr (by omega) (by rfl) (af_cons ((lf_lc (own := [("row", 19)]) rfl sc_law.nd (blkOk_by (by first | decide +kernel | kernel_rfl | rfl)) (if_seq (ev 3)) (fun _ _ _ _ _ => ge_name (i := 19) sc_law.nd rfl (by first | exact Or.inl rfl | exact Or.inr rfl)) (fun _ _ _ _ _ => ts_nil) (fun _ _ _ _ _ => (lf_callTy cl_list (by rfl) z_list (by decide +kernel) (af_cons (ev 19) (af_nil))).ef) (by decide)).ef) (af_cons ((lf_callTy cl_list (by rfl) z_list (by decide +kernel) (af_cons (ev 4) (af_nil))).ef) (af_nil))) (al_cons (al_cons (al_nil))))).f []) (bk_cons (sf_if (bf_cmp (od_ne hr.units) (ef_cmp od_is (ev 7) (ef_non)) (ef_cmp od_lt (ef_f 1 h__law_rank hr (by omega) (by rfl) (af_cons (ev 6) (af_nil)) (al_cons (al_nil))) (ef_callB cd_len (by rfl) z_len (by decide +kernel) (af_cons (ev 5) (af_nil))))) (bk_one (sf_retF [] (ef_bl))) (bk_nil)) (bk_cons (sf_if (bf_cmp od_is (ev 7) (ef_non)) (bk_one (sf_cnt)) (bk_nil)) (bk_cons ((asl_lc (i := 8) (own := [("at", 10)]) rfl sc_law.nd rfl rfl (sw_true rfl rfl rfl rfl) (blkOk_by (by first | decide +kernel | kernel_rfl | rfl)) (if_seq (ev 4)) (fun _ _ _ _ _ => ge_name (i := 10) sc_law.nd rfl (by first | exact Or.inl rfl | exact Or.inr rfl)) (fun _ _ _ _ _ => ts_nil) (fun _ _ _ _ _ => ef_p 0 1 h__law_small_told hr (by omega) (by rfl) (af_nil) (al_nil)) (by decide)).as.f []) (bk_cons ((asl_set (i := 9) sc_law.nd rfl (by first | exact Or.inl rfl | exact Or.inr rfl) (lf_lst (af_nil))).o []) (bk_cons (sf_for [] PassesOwn.never rfl (if_seq (ev 5)) (gf_name (i := 10) sc_law.nd rfl (by first | exact Or.inl rfl | exact Or.inr rfl)) (bk_one (sf_appF [] (mt_of (ef_f 2 h__law_sub hr (by omega) (by rfl) (af_cons (ef_tup (af_cons (ef_int) (af_cons (ef_int) (af_nil)))) (af_cons (ef_f 2 h__law_dot hr (by omega) (by rfl) (af_cons ((lf_lc (own := [("j", 18)]) rfl sc_law.nd (blkOk_by (by first | decide +kernel | kernel_rfl | rfl)) (if_seq (ev 4)) (fun _ _ _ _ _ => ge_name (i := 18) sc_law.nd rfl (by first | exact Or.inl rfl | exact Or.inr rfl)) (fun _ _ _ _ _ => ts_nil) (fun _ _ _ _ _ => ef_ix (ef_ix (ev 3) (ev 10)) (ev 18)) (by decide)).ef) (af_cons (ev 8) (af_nil))) (al_cons (al_cons (al_nil)))) (af_nil))) (al_cons (al_cons (al_nil)))) (fun te h => ps_expr (pe_bm PySem.F.plainAttrs_list PySem.F.slot_list_append PySem.F.type_list_append mt_append (pv 9) (pa_cons h pa_nil))))))) (bk_cons ((asl_set (i := 11) sc_law.nd rfl (by first | exact Or.inl rfl | exact Or.inr rfl) (lf_f 2 h__law_solved hr (by omega) (by rfl) (af_cons (ev 6) (af_cons (ev 9) (af_nil))) (al_cons (al_cons (al_nil))))).sL) (bk_cons (sf_for [] PassesOwn.never rfl (if_rng1 (by rfl) z_range (af_cons (ef_callB cd_len (by rfl) z_len (by decide +kernel) (af_cons (ev 4) (af_nil))) (af_nil))) (gf_name (i := 12) sc_law.nd rfl (by first | exact Or.inl rfl | exact Or.inr rfl)) (bk_cons ((as_set (i := 13) sc_law.nd rfl (by first | exact Or.inl rfl | exact Or.inr rfl) (ef_f 2 h__law_add hr (by omega) (by rfl) (af_cons (ef_f 2 h__law_dot hr (by omega) (by rfl) (af_cons ((lf_lc (own := [("j", 18)]) rfl sc_law.nd (blkOk_by (by first | decide +kernel | kernel_rfl | rfl)) (if_seq (ev 4)) (fun _ _ _ _ _ => ge_name (i := 18) sc_law.nd rfl (by first | exact Or.inl rfl | exact Or.inr rfl)) (fun _ _ _ _ _ => ts_nil) (fun _ _ _ _ _ => ef_ix (ef_ix (ev 3) (ef_ix (ev 4) (ev 12))) (ev 18)) (by decide)).ef) (af_cons (ev 8) (af_nil))) (al_cons (al_cons (al_nil)))) (af_cons (ef_f 2 h__law_dot hr (by omega) (by rfl) (af_cons ((lf_lc (own := [("j", 18)]) rfl sc_law.nd (blkOk_by (by first | decide +kernel | kernel_rfl | rfl)) (if_seq (ev 5)) (fun _ _ _ _ _ => ge_name (i := 18) sc_law.nd rfl (by first | exact Or.inl rfl | exact Or.inr rfl)) (fun _ _ _ _ _ => ts_nil) (fun _ _ _ _ _ => ef_ix (ef_ix (ev 3) (ef_ix (ev 4) (ev 12))) (ev 18)) (by decide)).ef) (af_cons (ev 11) (af_nil))) (al_cons (al_cons (al_nil)))) (af_nil))) (al_cons (al_cons (al_nil))))).f []) (bk_one (sf_if (bf_cmp (od_ne hr.units) (ef_f 2 h__law_dot hr (by omega) (by rfl) (af_cons (ef_ix (ev 7) (ev 12)) (af_cons (ev 8) (af_nil))) (al_cons (al_cons (al_nil)))) (ev 13)) (bk_one (sf_retF [] (ef_bl))) (bk_nil))))) (bk_cons (sf_if (bf_cmp od_gt (ef_callB cd_len (by rfl) z_len (by decide +kernel) (af_cons ((lf_lc (own := [("k", 12)]) rfl sc_law.nd (blkOk_by (by first | decide +kernel | kernel_rfl | rfl)) (if_rng1 (by rfl) z_range (af_cons (ef_callB cd_len (by rfl) z_len (by decide +kernel) (af_cons (ev 4) (af_nil))) (af_nil))) (fun _ _ _ _ _ => ge_name (i := 12) sc_law.nd rfl (by first | exact Or.inl rfl | exact Or.inr rfl)) (fun _ _ _ _ _ => ts_one (bf_cmp (od_ne hr.units) ((lf_lc (own := [("row", 19)]) rfl sc_law.nd (blkOk_by (by first | decide +kernel | kernel_rfl | rfl)) (if_seq (ev 7)) (fun _ _ _ _ _ => ge_name (i := 19) sc_law.nd rfl (by first | exact Or.inl rfl | exact Or.inr rfl)) (fun _ _ _ _ _ => ts_nil) (fun _ _ _ _ _ => ef_ix (ev 19) (ev 12)) (by decide)).ef) (ef_ix (ev 7) (ev 12)))) (fun _ _ _ _ _ => ev 12) (by decide)).ef) (af_nil))) (ef_int)) (bk_one (sf_retF [] (ef_bl))) (bk_nil)) (bk_one (sf_if (bf_cmp od_gt (ef_callB cd_len (by rfl) z_len (by decide +kernel) (af_cons (ev 5) (af_nil))) (ef_int)) (bk_cons ((as_set (i := 14) sc_law.nd rfl (by first | exact Or.inl rfl | exact Or.inr rfl) ((lf_lc (own := [("at", 10)]) rfl sc_law.nd (blkOk_by (by first | decide +kernel | kernel_rfl | rfl)) (if_rng1 (by rfl) z_range (af_cons (ef_callB cd_len (by rfl) z_len (by decide +kernel) (af_cons (ev 3) (af_nil))) (af_nil))) (fun _ _ _ _ _ => ge_name (i := 10) sc_law.nd rfl (by first | exact Or.inl rfl | exact Or.inr rfl)) (fun _ _ _ _ _ => ts_one (bf_cmp (od_ne hr.units) (ev 10) (ef_ix (ev 5) (ef_int)))) (fun _ _ _ _ _ => ev 10) (by decide)).ef)).f []) (bk_cons ((as_set (i := 15) sc_law.nd rfl (by first | exact Or.inl rfl | exact Or.inr rfl) (ef_f 2 h_reduced_to hr (by omega) (by rfl) (af_cons ((lf_lc (own := [("row", 19)]) rfl sc_law.nd (blkOk_by (by first | decide +kernel | kernel_rfl | rfl)) (if_seq (ev 3)) (fun _ _ _ _ _ => ge_name (i := 19) sc_law.nd rfl (by first | exact Or.inl rfl | exact Or.inr rfl)) (fun _ _ _ _ _ => ts_nil) (fun _ _ _ _ _ => (lf_callTy cl_list (by rfl) z_list (by decide +kernel) (af_cons (ev 19) (af_nil))).ef) (by decide)).ef) (af_cons (ev 14) (af_nil))) (al_cons (al_cons (al_nil))))).f []) (bk_one (sf_if (bf_cmp od_isNot (ev 15) (ef_non)) (bk_cons ((asl_lc (i := 17) (own := [("k", 12)]) rfl sc_law.nd rfl rfl (sw_true rfl rfl rfl rfl) (blkOk_by (by first | decide +kernel | kernel_rfl | rfl)) (if_rng1 (by rfl) z_range (af_cons (ef_callB cd_len (by rfl) z_len (by decide +kernel) (af_cons (ev 14) (af_nil))) (af_nil))) (fun _ _ _ _ _ => ge_name (i := 12) sc_law.nd rfl (by first | exact Or.inl rfl | exact Or.inr rfl)) (fun _ _ _ _ _ => ts_one (bf_cmp (od_in (u65 hr)) (ef_ix (ev 14) (ev 12)) (ev 4))) (fun _ _ _ _ _ => ev 12) (by decide)).as.f []) (bk_one (sf_if (bf_not (bf_tru (ef_f 2 h__law_same hr (by omega) (by rfl) (af_cons (ef_f 2 h_reduced_to hr (by omega) (by rfl) (af_cons (ev 15) (af_cons (ev 17) (af_nil))) (al_cons (al_cons (al_nil)))) (af_cons (ev 7) (af_nil))) (al_cons (al_cons (al_nil)))))) (bk_one (sf_retF [] (ef_bl))) (bk_nil)))) (bk_nil))))) (bk_nil))))))))))))))))))) (bk_one (sf_retF [] (ef_bl))))
theorem ok_law_fn (z_len : mg "len" = none) (z_list : mg "list" = none) (z_range : mg "range" = none) (h_reduced_to : Fn P w K mg base "reduced_to" 5 ["table", "kept"] (spF K 2 m_reduced_to)) (h__law_pool : Fn P w K mg base "_law_pool" 3 ["script"] (spL K 1 m__law_pool)) (h__law_next : Fn P w K mg base "_law_next" 3 ["pool"] (spP K 1 m__law_next)) (h__law_draw : Fn P w K mg base "_law_draw" 3 ["pool", "limit"] (spP K 2 m__law_draw)) (h__law_same : Fn P w K mg base "_law_same" 21 ["answer", "due"] (spF K 2 (m__law_same 20))) (h__law_add : Fn P w K mg base "_law_add" 3 ["one", "other"] (spF K 2 m__law_add)) (h__law_sub : Fn P w K mg base "_law_sub" 3 ["one", "other"] (spF K 2 m__law_sub)) (h__law_dot : Fn P w K mg base "_law_dot" 4 ["row", "other"] (spF K 2 m__law_dot)) (h__law_small_told : Fn P w K mg base "_law_small_told" 5 ["pool"] (spP K 1 m__law_small_told)) (h__law_rank : Fn P w K mg base "_law_rank" 4 ["rows"] (spF K 1 m__law_rank)) (h__law_solved : Fn P w K mg base "_law_solved" 4 ["rows", "right"] (spL K 2 m__law_solved)) (h__law_turned_table : Fn P w K mg base "_law_turned_table" 6 ["pool"] (spPL K 1 m__law_turned_table)) {f : Addr} {fd : FuncData} (F : Fun K "law" "law" s_law f fd) : FnOk P w K mg base CX0 22 f fd ["script"] (spF K 1 m_law) := (fn_F F sc_law (bd_law z_len z_list z_range   h_reduced_to h__law_pool h__law_next h__law_draw h__law_same h__law_add h__law_sub h__law_dot h__law_small_told h__law_rank h__law_solved h__law_turned_table) :)
end
end Lw
set_option Elab.async false
set_option linter.all false
set_option maxRecDepth 100000
set_option maxHeartbeats 4000000
namespace Lw
open PySem PySem.Spec PyProof.Rows L2 Dn
theorem all_mk {l : PySem.W.OpenLaw} {w : World} {K : PySem.W.Frag} {h : Heap} {mg : Str → Option Value} {fa f0 f1 f2 f3 f4 f5 f6 f7 f8 f9 f10 f11 f12 f13 f14 f15 f16 f17 f18 f19 f20 f21 f22 f23 f24 f25 f26 f27 f28 : Addr} (X : K.In h) (G : h.Ns mainGlobals mg) (hfa : mg "law" = some (.ref fa))
    {od0 an0 : Option Addr} {sl0 : Array (Option Value)} {oc0 kV0 dc0 pm0 cd0 ct0 : Value}
    {od1 an1 : Option Addr} {sl1 : Array (Option Value)} {oc1 kV1 dc1 pm1 cd1 ct1 : Value}
    {od2 an2 : Option Addr} {sl2 : Array (Option Value)} {oc2 kV2 dc2 pm2 cd2 ct2 : Value}
    {od3 an3 : Option Addr} {sl3 : Array (Option Value)} {oc3 kV3 dc3 pm3 cd3 ct3 : Value}
    {od4 an4 : Option Addr} {sl4 : Array (Option Value)} {oc4 kV4 dc4 pm4 cd4 ct4 : Value}
    {od5 an5 : Option Addr} {sl5 : Array (Option Value)} {oc5 kV5 dc5 pm5 cd5 ct5 : Value}
    {od6 an6 : Option Addr} {sl6 : Array (Option Value)} {oc6 kV6 dc6 pm6 cd6 ct6 : Value}
    {od7 an7 : Option Addr} {sl7 : Array (Option Value)} {oc7 kV7 dc7 pm7 cd7 ct7 : Value}
    {od8 an8 : Option Addr} {sl8 : Array (Option Value)} {oc8 kV8 dc8 pm8 cd8 ct8 : Value}
    {od9 an9 : Option Addr} {sl9 : Array (Option Value)} {oc9 kV9 dc9 pm9 cd9 ct9 : Value}
    {od10 an10 : Option Addr} {sl10 : Array (Option Value)} {oc10 kV10 dc10 pm10 cd10 ct10 : Value}
    {od11 an11 : Option Addr} {sl11 : Array (Option Value)} {oc11 kV11 dc11 pm11 cd11 ct11 : Value}
    {od12 an12 : Option Addr} {sl12 : Array (Option Value)} {oc12 kV12 dc12 pm12 cd12 ct12 : Value}
    {od13 an13 : Option Addr} {sl13 : Array (Option Value)} {oc13 kV13 dc13 pm13 cd13 ct13 : Value}
    {od14 an14 : Option Addr} {sl14 : Array (Option Value)} {oc14 kV14 dc14 pm14 cd14 ct14 : Value}
    {od15 an15 : Option Addr} {sl15 : Array (Option Value)} {oc15 kV15 dc15 pm15 cd15 ct15 : Value}
    {od16 an16 : Option Addr} {sl16 : Array (Option Value)} {oc16 kV16 dc16 pm16 cd16 ct16 : Value}
    {od17 an17 : Option Addr} {sl17 : Array (Option Value)} {oc17 kV17 dc17 pm17 cd17 ct17 : Value}
    {od18 an18 : Option Addr} {sl18 : Array (Option Value)} {oc18 kV18 dc18 pm18 cd18 ct18 : Value}
    {od19 an19 : Option Addr} {sl19 : Array (Option Value)} {oc19 kV19 dc19 pm19 cd19 ct19 : Value}
    {od20 an20 : Option Addr} {sl20 : Array (Option Value)} {oc20 kV20 dc20 pm20 cd20 ct20 : Value}
    {od21 an21 : Option Addr} {sl21 : Array (Option Value)} {oc21 kV21 dc21 pm21 cd21 ct21 : Value}
    {od22 an22 : Option Addr} {sl22 : Array (Option Value)} {oc22 kV22 dc22 pm22 cd22 ct22 : Value}
    {od23 an23 : Option Addr} {sl23 : Array (Option Value)} {oc23 kV23 dc23 pm23 cd23 ct23 : Value}
    {od24 an24 : Option Addr} {sl24 : Array (Option Value)} {oc24 kV24 dc24 pm24 cd24 ct24 : Value}
    {od25 an25 : Option Addr} {sl25 : Array (Option Value)} {oc25 kV25 dc25 pm25 cd25 ct25 : Value}
    {od26 an26 : Option Addr} {sl26 : Array (Option Value)} {oc26 kV26 dc26 pm26 cd26 ct26 : Value}
    {od27 an27 : Option Addr} {sl27 : Array (Option Value)} {oc27 kV27 dc27 pm27 cd27 ct27 : Value}
    {od28 an28 : Option Addr} {sl28 : Array (Option Value)} {oc28 kV28 dc28 pm28 cd28 ct28 : Value} {p_NOUGHT : Addr} {od_NOUGHT : Option Addr} {sz_NOUGHT : Nat} {sl_NOUGHT : Array (Option Value)} {tNOUGHT0 tNOUGHT1 : Tok} {p_UNIT : Addr} {od_UNIT : Option Addr} {sz_UNIT : Nat} {sl_UNIT : Array (Option Value)} {tUNIT0 tUNIT1 : Tok}
    (a0 : PySem.W.nsIn K mainGlobals "frac" = some (some (.ref f0))) (l0 : K.lookup f0 = some ⟨oc0, od0, .func (PySem.W.fnOf "frac" "frac" (defArgs s_frac) (defBody s_frac) (defScope s_frac) .none kV0 dc0 pm0 an0 cd0 ct0), sl0⟩) (c0 : PySem.W.codeIn K cd0 "frac" = true) (k0 : PySem.W.keepIn K (.ref f0) = true)
    (a1 : PySem.W.nsIn K mainGlobals "plus" = some (some (.ref f1))) (l1 : K.lookup f1 = some ⟨oc1, od1, .func (PySem.W.fnOf "plus" "plus" (defArgs s_plus) (defBody s_plus) (defScope s_plus) .none kV1 dc1 pm1 an1 cd1 ct1), sl1⟩) (c1 : PySem.W.codeIn K cd1 "plus" = true) (k1 : PySem.W.keepIn K (.ref f1) = true)
    (a2 : PySem.W.nsIn K mainGlobals "minus" = some (some (.ref f2))) (l2 : K.lookup f2 = some ⟨oc2, od2, .func (PySem.W.fnOf "minus" "minus" (defArgs s_minus) (defBody s_minus) (defScope s_minus) .none kV2 dc2 pm2 an2 cd2 ct2), sl2⟩) (c2 : PySem.W.codeIn K cd2 "minus" = true) (k2 : PySem.W.keepIn K (.ref f2) = true)
    (a3 : PySem.W.nsIn K mainGlobals "times" = some (some (.ref f3))) (l3 : K.lookup f3 = some ⟨oc3, od3, .func (PySem.W.fnOf "times" "times" (defArgs s_times) (defBody s_times) (defScope s_times) .none kV3 dc3 pm3 an3 cd3 ct3), sl3⟩) (c3 : PySem.W.codeIn K cd3 "times" = true) (k3 : PySem.W.keepIn K (.ref f3) = true)
    (a4 : PySem.W.nsIn K mainGlobals "over" = some (some (.ref f4))) (l4 : K.lookup f4 = some ⟨oc4, od4, .func (PySem.W.fnOf "over" "over" (defArgs s_over) (defBody s_over) (defScope s_over) .none kV4 dc4 pm4 an4 cd4 ct4), sl4⟩) (c4 : PySem.W.codeIn K cd4 "over" = true) (k4 : PySem.W.keepIn K (.ref f4) = true)
    (a5 : PySem.W.nsIn K mainGlobals "sum_of" = some (some (.ref f5))) (l5 : K.lookup f5 = some ⟨oc5, od5, .func (PySem.W.fnOf "sum_of" "sum_of" (defArgs s_sum_of) (defBody s_sum_of) (defScope s_sum_of) .none kV5 dc5 pm5 an5 cd5 ct5), sl5⟩) (c5 : PySem.W.codeIn K cd5 "sum_of" = true) (k5 : PySem.W.keepIn K (.ref f5) = true)
    (a6 : PySem.W.nsIn K mainGlobals "reduced" = some (some (.ref f6))) (l6 : K.lookup f6 = some ⟨oc6, od6, .func (PySem.W.fnOf "reduced" "reduced" (defArgs s_reduced) (defBody s_reduced) (defScope s_reduced) .none kV6 dc6 pm6 an6 cd6 ct6), sl6⟩) (c6 : PySem.W.codeIn K cd6 "reduced" = true) (k6 : PySem.W.keepIn K (.ref f6) = true)
    (a7 : PySem.W.nsIn K mainGlobals "solved" = some (some (.ref f7))) (l7 : K.lookup f7 = some ⟨oc7, od7, .func (PySem.W.fnOf "solved" "solved" (defArgs s_solved) (defBody s_solved) (defScope s_solved) .none kV7 dc7 pm7 an7 cd7 ct7), sl7⟩) (c7 : PySem.W.codeIn K cd7 "solved" = true) (k7 : PySem.W.keepIn K (.ref f7) = true)
    (a8 : PySem.W.nsIn K mainGlobals "kernel" = some (some (.ref f8))) (l8 : K.lookup f8 = some ⟨oc8, od8, .func (PySem.W.fnOf "kernel" "kernel" (defArgs s_kernel) (defBody s_kernel) (defScope s_kernel) .none kV8 dc8 pm8 an8 cd8 ct8), sl8⟩) (c8 : PySem.W.codeIn K cd8 "kernel" = true) (k8 : PySem.W.keepIn K (.ref f8) = true)
    (a9 : PySem.W.nsIn K mainGlobals "reduced_to" = some (some (.ref f9))) (l9 : K.lookup f9 = some ⟨oc9, od9, .func (PySem.W.fnOf "reduced_to" "reduced_to" (defArgs s_reduced_to) (defBody s_reduced_to) (defScope s_reduced_to) .none kV9 dc9 pm9 an9 cd9 ct9), sl9⟩) (c9 : PySem.W.codeIn K cd9 "reduced_to" = true) (k9 : PySem.W.keepIn K (.ref f9) = true)
    (a10 : PySem.W.nsIn K mainGlobals "_law_mixed" = some (some (.ref f10))) (l10 : K.lookup f10 = some ⟨oc10, od10, .func (PySem.W.fnOf "_law_mixed" "_law_mixed" (defArgs s__law_mixed) (defBody s__law_mixed) (defScope s__law_mixed) .none kV10 dc10 pm10 an10 cd10 ct10), sl10⟩) (c10 : PySem.W.codeIn K cd10 "_law_mixed" = true) (k10 : PySem.W.keepIn K (.ref f10) = true)
    (a11 : PySem.W.nsIn K mainGlobals "_law_rest" = some (some (.ref f11))) (l11 : K.lookup f11 = some ⟨oc11, od11, .func (PySem.W.fnOf "_law_rest" "_law_rest" (defArgs s__law_rest) (defBody s__law_rest) (defScope s__law_rest) .none kV11 dc11 pm11 an11 cd11 ct11), sl11⟩) (c11 : PySem.W.codeIn K cd11 "_law_rest" = true) (k11 : PySem.W.keepIn K (.ref f11) = true)
    (a12 : PySem.W.nsIn K mainGlobals "_law_pool" = some (some (.ref f12))) (l12 : K.lookup f12 = some ⟨oc12, od12, .func (PySem.W.fnOf "_law_pool" "_law_pool" (defArgs s__law_pool) (defBody s__law_pool) (defScope s__law_pool) .none kV12 dc12 pm12 an12 cd12 ct12), sl12⟩) (c12 : PySem.W.codeIn K cd12 "_law_pool" = true) (k12 : PySem.W.keepIn K (.ref f12) = true)
    (a13 : PySem.W.nsIn K mainGlobals "_law_next" = some (some (.ref f13))) (l13 : K.lookup f13 = some ⟨oc13, od13, .func (PySem.W.fnOf "_law_next" "_law_next" (defArgs s__law_next) (defBody s__law_next) (defScope s__law_next) .none kV13 dc13 pm13 an13 cd13 ct13), sl13⟩) (c13 : PySem.W.codeIn K cd13 "_law_next" = true) (k13 : PySem.W.keepIn K (.ref f13) = true)
    (a14 : PySem.W.nsIn K mainGlobals "_law_draw" = some (some (.ref f14))) (l14 : K.lookup f14 = some ⟨oc14, od14, .func (PySem.W.fnOf "_law_draw" "_law_draw" (defArgs s__law_draw) (defBody s__law_draw) (defScope s__law_draw) .none kV14 dc14 pm14 an14 cd14 ct14), sl14⟩) (c14 : PySem.W.codeIn K cd14 "_law_draw" = true) (k14 : PySem.W.keepIn K (.ref f14) = true)
    (a15 : PySem.W.nsIn K mainGlobals "_law_pick" = some (some (.ref f15))) (l15 : K.lookup f15 = some ⟨oc15, od15, .func (PySem.W.fnOf "_law_pick" "_law_pick" (defArgs s__law_pick) (defBody s__law_pick) (defScope s__law_pick) .none kV15 dc15 pm15 an15 cd15 ct15), sl15⟩) (c15 : PySem.W.codeIn K cd15 "_law_pick" = true) (k15 : PySem.W.keepIn K (.ref f15) = true)
    (a16 : PySem.W.nsIn K mainGlobals "_law_same" = some (some (.ref f16))) (l16 : K.lookup f16 = some ⟨oc16, od16, .func (PySem.W.fnOf "_law_same" "_law_same" (defArgs s__law_same) (defBody s__law_same) (defScope s__law_same) .none kV16 dc16 pm16 an16 cd16 ct16), sl16⟩) (c16 : PySem.W.codeIn K cd16 "_law_same" = true) (k16 : PySem.W.keepIn K (.ref f16) = true)
    (a17 : PySem.W.nsIn K mainGlobals "_law_gcd" = some (some (.ref f17))) (l17 : K.lookup f17 = some ⟨oc17, od17, .func (PySem.W.fnOf "_law_gcd" "_law_gcd" (defArgs s__law_gcd) (defBody s__law_gcd) (defScope s__law_gcd) .none kV17 dc17 pm17 an17 cd17 ct17), sl17⟩) (c17 : PySem.W.codeIn K cd17 "_law_gcd" = true) (k17 : PySem.W.keepIn K (.ref f17) = true)
    (a18 : PySem.W.nsIn K mainGlobals "_law_ratio" = some (some (.ref f18))) (l18 : K.lookup f18 = some ⟨oc18, od18, .func (PySem.W.fnOf "_law_ratio" "_law_ratio" (defArgs s__law_ratio) (defBody s__law_ratio) (defScope s__law_ratio) .none kV18 dc18 pm18 an18 cd18 ct18), sl18⟩) (c18 : PySem.W.codeIn K cd18 "_law_ratio" = true) (k18 : PySem.W.keepIn K (.ref f18) = true)
    (a19 : PySem.W.nsIn K mainGlobals "_law_add" = some (some (.ref f19))) (l19 : K.lookup f19 = some ⟨oc19, od19, .func (PySem.W.fnOf "_law_add" "_law_add" (defArgs s__law_add) (defBody s__law_add) (defScope s__law_add) .none kV19 dc19 pm19 an19 cd19 ct19), sl19⟩) (c19 : PySem.W.codeIn K cd19 "_law_add" = true) (k19 : PySem.W.keepIn K (.ref f19) = true)
    (a20 : PySem.W.nsIn K mainGlobals "_law_sub" = some (some (.ref f20))) (l20 : K.lookup f20 = some ⟨oc20, od20, .func (PySem.W.fnOf "_law_sub" "_law_sub" (defArgs s__law_sub) (defBody s__law_sub) (defScope s__law_sub) .none kV20 dc20 pm20 an20 cd20 ct20), sl20⟩) (c20 : PySem.W.codeIn K cd20 "_law_sub" = true) (k20 : PySem.W.keepIn K (.ref f20) = true)
    (a21 : PySem.W.nsIn K mainGlobals "_law_mul" = some (some (.ref f21))) (l21 : K.lookup f21 = some ⟨oc21, od21, .func (PySem.W.fnOf "_law_mul" "_law_mul" (defArgs s__law_mul) (defBody s__law_mul) (defScope s__law_mul) .none kV21 dc21 pm21 an21 cd21 ct21), sl21⟩) (c21 : PySem.W.codeIn K cd21 "_law_mul" = true) (k21 : PySem.W.keepIn K (.ref f21) = true)
    (a22 : PySem.W.nsIn K mainGlobals "_law_div" = some (some (.ref f22))) (l22 : K.lookup f22 = some ⟨oc22, od22, .func (PySem.W.fnOf "_law_div" "_law_div" (defArgs s__law_div) (defBody s__law_div) (defScope s__law_div) .none kV22 dc22 pm22 an22 cd22 ct22), sl22⟩) (c22 : PySem.W.codeIn K cd22 "_law_div" = true) (k22 : PySem.W.keepIn K (.ref f22) = true)
    (a23 : PySem.W.nsIn K mainGlobals "_law_dot" = some (some (.ref f23))) (l23 : K.lookup f23 = some ⟨oc23, od23, .func (PySem.W.fnOf "_law_dot" "_law_dot" (defArgs s__law_dot) (defBody s__law_dot) (defScope s__law_dot) .none kV23 dc23 pm23 an23 cd23 ct23), sl23⟩) (c23 : PySem.W.codeIn K cd23 "_law_dot" = true) (k23 : PySem.W.keepIn K (.ref f23) = true)
    (a24 : PySem.W.nsIn K mainGlobals "_law_small_told" = some (some (.ref f24))) (l24 : K.lookup f24 = some ⟨oc24, od24, .func (PySem.W.fnOf "_law_small_told" "_law_small_told" (defArgs s__law_small_told) (defBody s__law_small_told) (defScope s__law_small_told) .none kV24 dc24 pm24 an24 cd24 ct24), sl24⟩) (c24 : PySem.W.codeIn K cd24 "_law_small_told" = true) (k24 : PySem.W.keepIn K (.ref f24) = true)
    (a25 : PySem.W.nsIn K mainGlobals "_law_rank" = some (some (.ref f25))) (l25 : K.lookup f25 = some ⟨oc25, od25, .func (PySem.W.fnOf "_law_rank" "_law_rank" (defArgs s__law_rank) (defBody s__law_rank) (defScope s__law_rank) .none kV25 dc25 pm25 an25 cd25 ct25), sl25⟩) (c25 : PySem.W.codeIn K cd25 "_law_rank" = true) (k25 : PySem.W.keepIn K (.ref f25) = true)
    (a26 : PySem.W.nsIn K mainGlobals "_law_solved" = some (some (.ref f26))) (l26 : K.lookup f26 = some ⟨oc26, od26, .func (PySem.W.fnOf "_law_solved" "_law_solved" (defArgs s__law_solved) (defBody s__law_solved) (defScope s__law_solved) .none kV26 dc26 pm26 an26 cd26 ct26), sl26⟩) (c26 : PySem.W.codeIn K cd26 "_law_solved" = true) (k26 : PySem.W.keepIn K (.ref f26) = true)
    (a27 : PySem.W.nsIn K mainGlobals "_law_turned_table" = some (some (.ref f27))) (l27 : K.lookup f27 = some ⟨oc27, od27, .func (PySem.W.fnOf "_law_turned_table" "_law_turned_table" (defArgs s__law_turned_table) (defBody s__law_turned_table) (defScope s__law_turned_table) .none kV27 dc27 pm27 an27 cd27 ct27), sl27⟩) (c27 : PySem.W.codeIn K cd27 "_law_turned_table" = true) (k27 : PySem.W.keepIn K (.ref f27) = true)
    (a28 : PySem.W.nsIn K mainGlobals "law" = some (some (.ref f28))) (l28 : K.lookup f28 = some ⟨oc28, od28, .func (PySem.W.fnOf "law" "law" (defArgs s_law) (defBody s_law) (defScope s_law) .none kV28 dc28 pm28 an28 cd28 ct28), sl28⟩) (c28 : PySem.W.codeIn K cd28 "law" = true) (k28 : PySem.W.keepIn K (.ref f28) = true)
    (z_abs : PySem.W.nsIn K mainGlobals "abs" = some none)
    (z_bool : PySem.W.nsIn K mainGlobals "bool" = some none)
    (z_dict : PySem.W.nsIn K mainGlobals "dict" = some none)
    (z_int : PySem.W.nsIn K mainGlobals "int" = some none)
    (z_isinstance : PySem.W.nsIn K mainGlobals "isinstance" = some none)
    (z_len : PySem.W.nsIn K mainGlobals "len" = some none)
    (z_list : PySem.W.nsIn K mainGlobals "list" = some none)
    (z_range : PySem.W.nsIn K mainGlobals "range" = some none)
    (z_str : PySem.W.nsIn K mainGlobals "str" = some none)
    (z_tuple : PySem.W.nsIn K mainGlobals "tuple" = some none)
    (z_zip : PySem.W.nsIn K mainGlobals "zip" = some none)
    (i_gcd : PySem.W.nsIn K mainGlobals "gcd" = some (some (.builtin "math.gcd")))
    (n_NOUGHT : PySem.W.nsIn K mainGlobals "NOUGHT" = some (some (.ref p_NOUGHT))) (o_NOUGHT : K.lookup p_NOUGHT = some ⟨.type "tuple", od_NOUGHT, .seq #[.int 0 tNOUGHT0, .int 1 tNOUGHT1] sz_NOUGHT, sl_NOUGHT⟩)
    (n_UNIT : PySem.W.nsIn K mainGlobals "UNIT" = some (some (.ref p_UNIT))) (o_UNIT : K.lookup p_UNIT = some ⟨.type "tuple", od_UNIT, .seq #[.int 1 tUNIT0, .int 1 tUNIT1] sz_UNIT, sl_UNIT⟩) :
    ∃ fd : FuncData, (∀ (s : Shared) (v : Value), BindsTo s fd ⟨[v], []⟩ [("script", v)]) ∧ ∀ base : Heap, K.In base → base.Ns mainGlobals mg → FnOk l.prog w K mg base CX0 22 fa fd ["script"] (spLaw K) := by
  have e := hfa.symm.trans (PySem.W.mg_of X G a28)
  cases e
  refine ⟨PySem.W.fnOf "law" "law" (defArgs s_law) (defBody s_law) (defScope s_law) .none kV28 dc28 pm28 an28 cd28 ct28, fun s v => .of_eq rfl, fun base _ _ => ?_⟩
  have y_abs := PySem.W.mg_none_of X G z_abs
  have y_bool := PySem.W.mg_none_of X G z_bool
  have y_dict := PySem.W.mg_none_of X G z_dict
  have y_int := PySem.W.mg_none_of X G z_int
  have y_isinstance := PySem.W.mg_none_of X G z_isinstance
  have y_len := PySem.W.mg_none_of X G z_len
  have y_list := PySem.W.mg_none_of X G z_list
  have y_range := PySem.W.mg_none_of X G z_range
  have y_str := PySem.W.mg_none_of X G z_str
  have y_tuple := PySem.W.mg_none_of X G z_tuple
  have y_zip := PySem.W.mg_none_of X G z_zip
  have y_gcd := PySem.W.mg_of X G i_gcd
  have y_NOUGHT : Gc K mg "NOUGHT" c_NOUGHT := ⟨_, .ref p_NOUGHT, PySem.W.mg_of X G n_NOUGHT, rfl, fun S => rp_tup.mpr ⟨p_NOUGHT, [.int 0, .int 1], rfl, .inr ⟨_, _, _, o_NOUGHT, rfl, rfl, (by decide : (2 : Nat) ≤ sizeLine), (.cons ⟨tNOUGHT0, rfl⟩ (.cons ⟨tNOUGHT1, rfl⟩ .nil))⟩, RpL.ints [0, 1]⟩⟩
  have y_UNIT : Gc K mg "UNIT" c_UNIT := ⟨_, .ref p_UNIT, PySem.W.mg_of X G n_UNIT, rfl, fun S => rp_tup.mpr ⟨p_UNIT, [.int 1, .int 1], rfl, .inr ⟨_, _, _, o_UNIT, rfl, rfl, (by decide : (2 : Nat) ≤ sizeLine), (.cons ⟨tUNIT0, rfl⟩ (.cons ⟨tUNIT1, rfl⟩ .nil))⟩, RpL.ints [1, 1]⟩⟩
  have H_frac : Fn l.prog w K mg base "frac" 1 ["p", "q"] (spF K 2 m_frac) := ok_frac y_gcd (fun_mk (st := s_frac) l0 c0 k0) (PySem.W.mg_of X G a0)
  have H_plus : Fn l.prog w K mg base "plus" 2 ["a", "b"] (spF K 2 m_plus) := ok_plus H_frac (fun_mk (st := s_plus) l1 c1 k1) (PySem.W.mg_of X G a1)
  have H_minus : Fn l.prog w K mg base "minus" 2 ["a", "b"] (spF K 2 m_minus) := ok_minus H_frac (fun_mk (st := s_minus) l2 c2 k2) (PySem.W.mg_of X G a2)
  have H_times : Fn l.prog w K mg base "times" 2 ["a", "b"] (spF K 2 m_times) := ok_times H_frac (fun_mk (st := s_times) l3 c3 k3) (PySem.W.mg_of X G a3)
  have H_over : Fn l.prog w K mg base "over" 2 ["a", "b"] (spF K 2 m_over) := ok_over H_frac (fun_mk (st := s_over) l4 c4 k4) (PySem.W.mg_of X G a4)
  have H_sum_of : Fn l.prog w K mg base "sum_of" 3 ["numbers"] (spF K 1 m_sum_of) := ok_sum_of y_NOUGHT H_plus (fun_mk (st := s_sum_of) l5 c5 k5) (PySem.W.mg_of X G a5)
  have H_reduced : Fn l.prog w K mg base "reduced" 3 ["rows", "width"] (spF K 2 m_reduced) := ok_reduced y_len y_list y_range y_zip y_NOUGHT y_UNIT H_minus H_times H_over (fun_mk (st := s_reduced) l6 c6 k6) (PySem.W.mg_of X G a6)
  have H_solved : Fn l.prog w K mg base "solved" 4 ["rows", "right", "width"] (spF K 3 m_solved) := ok_solved y_len y_list y_range y_zip y_NOUGHT H_reduced (fun_mk (st := s_solved) l7 c7 k7) (PySem.W.mg_of X G a7)
  have H_kernel : Fn l.prog w K mg base "kernel" 4 ["rows", "width"] (spL K 2 m_kernel) := ok_kernel y_range y_zip y_NOUGHT y_UNIT H_minus H_reduced (fun_mk (st := s_kernel) l8 c8 k8) (PySem.W.mg_of X G a8)
  have H_reduced_to : Fn l.prog w K mg base "reduced_to" 5 ["table", "kept"] (spF K 2 m_reduced_to) := ok_reduced_to y_len y_range y_zip y_NOUGHT H_plus H_minus H_times H_sum_of H_solved H_kernel (fun_mk (st := s_reduced_to) l9 c9 k9) (PySem.W.mg_of X G a9)
  have H__law_mixed : Fn l.prog w K mg base "_law_mixed" 1 ["number", "place"] (spF K 2 m__law_mixed) := ok__law_mixed y_int (fun_mk (st := s__law_mixed) l10 c10 k10) (PySem.W.mg_of X G a10)
  have H__law_rest : Fn l.prog w K mg base "_law_rest" 2 ["script", "place", "fills"] (spF K 3 m__law_rest) := ok__law_rest y_int y_len H__law_mixed (fun_mk (st := s__law_rest) l11 c11 k11) (PySem.W.mg_of X G a11)
  have H__law_pool : Fn l.prog w K mg base "_law_pool" 3 ["script"] (spL K 1 m__law_pool) := ok__law_pool H__law_rest (fun_mk (st := s__law_pool) l12 c12 k12) (PySem.W.mg_of X G a12)
  have H__law_next : Fn l.prog w K mg base "_law_next" 3 ["pool"] (spP K 1 m__law_next) := ok__law_next H__law_rest (fun_mk (st := s__law_next) l13 c13 k13) (PySem.W.mg_of X G a13)
  have H__law_draw : Fn l.prog w K mg base "_law_draw" 3 ["pool", "limit"] (spP K 2 m__law_draw) := ok__law_draw y_int H__law_rest (fun_mk (st := s__law_draw) l14 c14 k14) (PySem.W.mg_of X G a14)
  have H__law_pick : Fn l.prog w K mg base "_law_pick" 4 ["pool", "options"] (spP K 2 m__law_pick) := ok__law_pick y_len H__law_draw (fun_mk (st := s__law_pick) l15 c15 k15) (PySem.W.mg_of X G a15)
  have H__law_same : Fn l.prog w K mg base "_law_same" 21 ["answer", "due"] (spF K 2 (m__law_same 20)) := ok__law_same y_bool y_dict y_int y_isinstance y_len y_list y_range y_str y_tuple (fun_mk (st := s__law_same) l16 c16 k16) (PySem.W.mg_of X G a16)
  have H__law_gcd : Fn l.prog w K mg base "_law_gcd" 1 ["one", "other"] (spF K 2 m__law_gcd) := ok__law_gcd y_int y_range (fun_mk (st := s__law_gcd) l17 c17 k17) (PySem.W.mg_of X G a17)
  have H__law_ratio : Fn l.prog w K mg base "_law_ratio" 2 ["p", "q"] (spF K 2 m__law_ratio) := ok__law_ratio y_abs H__law_gcd (fun_mk (st := s__law_ratio) l18 c18 k18) (PySem.W.mg_of X G a18)
  have H__law_add : Fn l.prog w K mg base "_law_add" 3 ["one", "other"] (spF K 2 m__law_add) := ok__law_add H__law_ratio (fun_mk (st := s__law_add) l19 c19 k19) (PySem.W.mg_of X G a19)
  have H__law_sub : Fn l.prog w K mg base "_law_sub" 3 ["one", "other"] (spF K 2 m__law_sub) := ok__law_sub H__law_ratio (fun_mk (st := s__law_sub) l20 c20 k20) (PySem.W.mg_of X G a20)
  have H__law_mul : Fn l.prog w K mg base "_law_mul" 3 ["one", "other"] (spF K 2 m__law_mul) := ok__law_mul H__law_ratio (fun_mk (st := s__law_mul) l21 c21 k21) (PySem.W.mg_of X G a21)
  have H__law_div : Fn l.prog w K mg base "_law_div" 3 ["one", "other"] (spF K 2 m__law_div) := ok__law_div H__law_ratio (fun_mk (st := s__law_div) l22 c22 k22) (PySem.W.mg_of X G a22)
  have H__law_dot : Fn l.prog w K mg base "_law_dot" 4 ["row", "other"] (spF K 2 m__law_dot) := ok__law_dot y_len y_range H__law_add H__law_mul (fun_mk (st := s__law_dot) l23 c23 k23) (PySem.W.mg_of X G a23)
  have H__law_small_told : Fn l.prog w K mg base "_law_small_told" 5 ["pool"] (spP K 1 m__law_small_told) := ok__law_small_told H__law_draw H__law_pick H__law_ratio (fun_mk (st := s__law_small_told) l24 c24 k24) (PySem.W.mg_of X G a24)
  have H__law_rank : Fn l.prog w K mg base "_law_rank" 4 ["rows"] (spF K 1 m__law_rank) := ok__law_rank y_len y_list y_range H__law_sub H__law_mul H__law_div (fun_mk (st := s__law_rank) l25 c25 k25) (PySem.W.mg_of X G a25)
  have H__law_solved : Fn l.prog w K mg base "_law_solved" 4 ["rows", "right"] (spL K 2 m__law_solved) := ok__law_solved y_len y_list y_range H__law_sub H__law_mul H__law_div (fun_mk (st := s__law_solved) l26 c26 k26) (PySem.W.mg_of X G a26)
  have H__law_turned_table : Fn l.prog w K mg base "_law_turned_table" 6 ["pool"] (spPL K 1 m__law_turned_table) := ok__law_turned_table y_range H__law_draw H__law_add H__law_dot H__law_small_told (fun_mk (st := s__law_turned_table) l27 c27 k27) (PySem.W.mg_of X G a27)
  have F := fun_mk (st := s_law) l28 c28 k28
  exact law_of (ok_law_fn y_len y_list y_range H_reduced_to H__law_pool H__law_next H__law_draw H__law_same H__law_add H__law_sub H__law_dot H__law_small_told H__law_rank H__law_solved H__law_turned_table F) law_true
end Lw
open PySem PySem.W PyProof.Rows
set_option maxHeartbeats 0 in
theorem PySem.Challenge.cw_trusswork_k24_whole_tables_reduced_holds : PySem.Challenge.rw_trusswork_k24_whole_tables_reduced.Holds := by
  w_on; o_law; k_head; (case hw => w_witness2)
  k_fill
  refine L2.walk_of (l := PySem.Challenge.rw_trusswork_k24_whole_tables_reduced) (n := 63) (k := 22) (x := "script") (CX := fun _ => L2.CX0) (sp := fun w => Dn.spLaw _) rfl (by decide) rfl ⟨rfl, by decide, by decide⟩ (fun w h Y => PySem.W.kIn_of Y) ?F (fun _ _ a ns hl _ hS => ⟨a, ns, rfl, hS, hl, fun _ => rfl⟩) (fun _ _ _ _ _ h => h)
  case F =>
    intro w mg fa h KX G hmg
    refine' Lw.all_mk KX G hmg ?a0 ?l0 ?c0 ?k0 ?a1 ?l1 ?c1 ?k1 ?a2 ?l2 ?c2 ?k2 ?a3 ?l3 ?c3 ?k3 ?a4 ?l4 ?c4 ?k4 ?a5 ?l5 ?c5 ?k5 ?a6 ?l6 ?c6 ?k6 ?a7 ?l7 ?c7 ?k7 ?a8 ?l8 ?c8 ?k8 ?a9 ?l9 ?c9 ?k9 ?a10 ?l10 ?c10 ?k10 ?a11 ?l11 ?c11 ?k11 ?a12 ?l12 ?c12 ?k12 ?a13 ?l13 ?c13 ?k13 ?a14 ?l14 ?c14 ?k14 ?a15 ?l15 ?c15 ?k15 ?a16 ?l16 ?c16 ?k16 ?a17 ?l17 ?c17 ?k17 ?a18 ?l18 ?c18 ?k18 ?a19 ?l19 ?c19 ?k19 ?a20 ?l20 ?c20 ?k20 ?a21 ?l21 ?c21 ?k21 ?a22 ?l22 ?c22 ?k22 ?a23 ?l23 ?c23 ?k23 ?a24 ?l24 ?c24 ?k24 ?a25 ?l25 ?c25 ?k25 ?a26 ?l26 ?c26 ?k26 ?a27 ?l27 ?c27 ?k27 ?a28 ?l28 ?c28 ?k28 ?z_abs ?z_bool ?z_dict ?z_int ?z_isinstance ?z_len ?z_list ?z_range ?z_str ?z_tuple ?z_zip ?i_gcd ?n_NOUGHT ?o_NOUGHT ?n_UNIT ?o_UNIT
    (case a0 => k_is); (case l0 => k_is); (case c0 => k_is); (case k0 => k_is); (case a1 => k_is); (case l1 => k_is); (case c1 => k_is); (case k1 => k_is); (case a2 => k_is); (case l2 => k_is); (case c2 => k_is); (case k2 => k_is); (case a3 => k_is); (case l3 => k_is); (case c3 => k_is); (case k3 => k_is); (case a4 => k_is); (case l4 => k_is); (case c4 => k_is); (case k4 => k_is); (case a5 => k_is); (case l5 => k_is); (case c5 => k_is); (case k5 => k_is); (case a6 => k_is); (case l6 => k_is); (case c6 => k_is); (case k6 => k_is); (case a7 => k_is); (case l7 => k_is); (case c7 => k_is); (case k7 => k_is); (case a8 => k_is); (case l8 => k_is); (case c8 => k_is); (case k8 => k_is); (case a9 => k_is); (case l9 => k_is); (case c9 => k_is); (case k9 => k_is); (case a10 => k_is); (case l10 => k_is); (case c10 => k_is); (case k10 => k_is); (case a11 => k_is); (case l11 => k_is); (case c11 => k_is); (case k11 => k_is); (case a12 => k_is); (case l12 => k_is); (case c12 => k_is); (case k12 => k_is); (case a13 => k_is); (case l13 => k_is); (case c13 => k_is); (case k13 => k_is); (case a14 => k_is); (case l14 => k_is); (case c14 => k_is); (case k14 => k_is); (case a15 => k_is); (case l15 => k_is); (case c15 => k_is); (case k15 => k_is); (case a16 => k_is); (case l16 => k_is); (case c16 => k_is); (case k16 => k_is); (case a17 => k_is); (case l17 => k_is); (case c17 => k_is); (case k17 => k_is); (case a18 => k_is); (case l18 => k_is); (case c18 => k_is); (case k18 => k_is); (case a19 => k_is); (case l19 => k_is); (case c19 => k_is); (case k19 => k_is); (case a20 => k_is); (case l20 => k_is); (case c20 => k_is); (case k20 => k_is); (case a21 => k_is); (case l21 => k_is); (case c21 => k_is); (case k21 => k_is); (case a22 => k_is); (case l22 => k_is); (case c22 => k_is); (case k22 => k_is); (case a23 => k_is); (case l23 => k_is); (case c23 => k_is); (case k23 => k_is); (case a24 => k_is); (case l24 => k_is); (case c24 => k_is); (case k24 => k_is); (case a25 => k_is); (case l25 => k_is); (case c25 => k_is); (case k25 => k_is); (case a26 => k_is); (case l26 => k_is); (case c26 => k_is); (case k26 => k_is); (case a27 => k_is); (case l27 => k_is); (case c27 => k_is); (case k27 => k_is); (case a28 => k_is); (case l28 => k_is); (case c28 => k_is); (case k28 => k_is); (case z_abs => k_is); (case z_bool => k_is); (case z_dict => k_is); (case z_int => k_is); (case z_isinstance => k_is); (case z_len => k_is); (case z_list => k_is); (case z_range => k_is); (case z_str => k_is); (case z_tuple => k_is); (case z_zip => k_is); (case i_gcd => k_is); (case n_NOUGHT => k_is); (case o_NOUGHT => k_is); (case n_UNIT => k_is); (case o_UNIT => k_is)
