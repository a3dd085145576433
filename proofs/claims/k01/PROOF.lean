import PyProof.Rows.All
import Wide.All
import OpenK.AllK
import Wide.FinOn
import HandS.ForMost
import HandS.ForExc
import HandS.Flow
import HandS.IsInst
import HandS.CallSlots
import HandS.ExcInit
import HandS.Zip
import HandS.TupAny
import HandS.TupMul
import HandS.RaiseMore
import HandS.Style
import KE.KExcSuper
import HandS.ExcField
import HandS.ExcIs
import HandS.ExcValue
import KE.KExcIs
import PySem.Challenge.RW_rowcounts_k01_errors_and_their_fields
set_option Elab.async false
set_option linter.all false
set_option maxRecDepth 100000
set_option maxHeartbeats 2000000
/-! Dl: a layer of plain data over the hand layer. A value stands for a datum (D); what is read never changes (the frozen part); the names of a def hold data; a def's promise speaks of data alone. -/
namespace Dl
open PySem L2

/-! ### data -/
inductive D where
  | non | bl (b : Bool) | int (i : Int) | str (x : Str)
  | tup (xs : List D) | lst (xs : List D) | dct (ks xs : List D)
  | obj (c : Str) (ns : List Str) (xs : List D)
  | exc (c : Str) (ns : List Str) (xs : List D)
  | scr (ns : List Int)
  | pen
/-- the written part and the module's names -/
structure Tb where
  K : PySem.W.Frag
  mg : Str → Option Value
/-- the frozen part of the heap; where the pen lies -/
structure Fz where
  B : Hp
  pn : Option Addr
def Ex (H H' : Hp) : Prop := ∀ a o, H a = some o → H' a = some o
theorem Ex.refl (H : Hp) : Ex H H := fun _ _ h => h
theorem Ex.trans {H H1 H2 : Hp} (a : Ex H H1) (b : Ex H1 H2) : Ex H H2 := fun x o h => b x o (a x o h)
theorem Ex.seq {K : PySem.W.Frag} {H H' : Hp} {a : Addr} {xs : List V} (e : Ex H H') (h : SqL K H a xs) : SqL K H' a xs := by
  rcases h with (h | ⟨o, h⟩) | h
  · exact .inl (.inl (e _ _ h))
  · exact .inl (.inr ⟨o, e _ _ h⟩)
  · exact .inr h
theorem Ex.sqt {K : PySem.W.Frag} {H H' : Hp} {a : Addr} {xs : List V} (e : Ex H H') (h : SqT K H a xs) : SqT K H' a xs := by
  rcases h with (h | ⟨o, h⟩) | h
  · exact .inl (.inl (e _ _ h))
  · exact .inl (.inr ⟨o, e _ _ h⟩)
  · exact .inr h
theorem Ex.new {H : Hp} {p : Addr} {o : HO} (h : H p = none) : Ex H (upd H p o) := fun a u e => by
  rw [upd_ne (ne_of_none e h)]
  exact e

structure Le (F F' : Fz) : Prop where
  B : Ex F.B F'.B
  pn : ∀ p, F.pn = some p → F'.pn = some p
theorem Le.refl (F : Fz) : Le F F := ⟨Ex.refl _, fun _ h => h⟩
theorem Le.trans {F F1 F2 : Fz} (a : Le F F1) (b : Le F1 F2) : Le F F2 := ⟨a.B.trans b.B, fun p h => b.pn p (a.pn p h)⟩

mutual
/-- v stands for the datum -/
def Rp (T : Tb) (F : Fz) : D → V → Prop
  | .non, v => v = .non
  | .bl b, v => v = .bl b
  | .int i, v => v = .int i
  | .str x, v => v = .str x
  | .tup xs, v => ∃ a vs, v = .ref a ∧ SqT T.K F.B a vs ∧ Rps T F xs vs
  | .lst xs, v => ∃ a vs, v = .ref a ∧ F.B a = some (.lst vs) ∧ Rps T F xs vs
  | .dct ks xs, v => ∃ a kvs, v = .ref a ∧ F.B a = some (.dK kvs) ∧ Rps T F ks (kvs.map fun p => kV p.1) ∧ Rps T F xs (kvs.map (·.2))
  | .obj c ns xs, v => ∃ a dx C fs, v = .ref a ∧ T.mg c = some (.ref C) ∧ F.B a = some (.ins C dx fs) ∧ fs.map (·.1) = ns ∧ Rps T F xs (fs.map (·.2))
  | .exc c ns xs, v => ∃ a C, v = .ref a ∧ T.mg c = some (.ref C) ∧ ((ns = [] ∧ xs = [] ∧ F.B a = some (exo a C none)) ∨ ∃ dx fs, F.B a = some (exo a C (some dx)) ∧ F.B dx = some (exd dx fs) ∧ fs.map (·.1) = ns ∧ Rps T F xs (fs.map (·.2)))
  | .scr ns, v => ∃ a, v = .ref a ∧ SqL T.K F.B a (ns.map V.int)
  | .pen, v => ∃ p, F.pn = some p ∧ v = .ref p
def Rps (T : Tb) (F : Fz) : List D → List V → Prop
  | [], vs => vs = []
  | d :: ds, vs => ∃ v r, vs = v :: r ∧ Rp T F d v ∧ Rps T F ds r
end

section
variable {T : Tb} {F F' : Fz}
mutual
theorem Rp.mono (h : Le F F') : ∀ (d : D) (v : V), Rp T F d v → Rp T F' d v
  | .non, _, r => by simpa only [Rp] using r
  | .bl _, _, r => by simpa only [Rp] using r
  | .int _, _, r => by simpa only [Rp] using r
  | .str _, _, r => by simpa only [Rp] using r
  | .tup xs, v, r => by
    simp only [Rp] at r ⊢
    obtain ⟨a, vs, e, q, z⟩ := r
    exact ⟨a, vs, e, h.B.sqt q, Rps.mono h xs vs z⟩
  | .lst xs, v, r => by
    simp only [Rp] at r ⊢
    obtain ⟨a, vs, e, q, z⟩ := r
    exact ⟨a, vs, e, h.B _ _ q, Rps.mono h xs vs z⟩
  | .dct ks xs, v, r => by
    simp only [Rp] at r ⊢
    obtain ⟨a, kvs, e, q, z1, z2⟩ := r
    exact ⟨a, kvs, e, h.B _ _ q, Rps.mono h ks _ z1, Rps.mono h xs _ z2⟩
  | .obj c ns xs, v, r => by
    simp only [Rp] at r ⊢
    obtain ⟨a, dx, C, fs, e, m, q, n, z⟩ := r
    exact ⟨a, dx, C, fs, e, m, h.B _ _ q, n, Rps.mono h xs _ z⟩
  | .exc c ns xs, v, r => by
    simp only [Rp] at r ⊢
    obtain ⟨a, C, e, m, ⟨q1, q2, q3⟩ | ⟨dx, fs, q1, q2, n, z⟩⟩ := r
    · exact ⟨a, C, e, m, .inl ⟨q1, q2, h.B _ _ q3⟩⟩
    · exact ⟨a, C, e, m, .inr ⟨dx, fs, h.B _ _ q1, h.B _ _ q2, n, Rps.mono h xs _ z⟩⟩
  | .scr ns, v, r => by
    simp only [Rp] at r ⊢
    obtain ⟨a, e, q⟩ := r
    exact ⟨a, e, h.B.seq q⟩
  | .pen, v, r => by
    simp only [Rp] at r ⊢
    obtain ⟨p, q, e⟩ := r
    exact ⟨p, h.pn p q, e⟩
theorem Rps.mono (h : Le F F') : ∀ (ds : List D) (vs : List V), Rps T F ds vs → Rps T F' ds vs
  | [], _, r => by simpa only [Rps] using r
  | d :: ds, vs, r => by
    simp only [Rps] at r ⊢
    obtain ⟨v, q, e, r1, r2⟩ := r
    exact ⟨v, q, e, Rp.mono h d v r1, Rps.mono h ds q r2⟩
end
theorem Rps.length : ∀ {ds : List D} {vs : List V}, Rps T F ds vs → vs.length = ds.length
  | [], vs, r => by simp only [Rps] at r; rw [r]; rfl
  | d :: ds, vs, r => by
    simp only [Rps] at r
    obtain ⟨v, q, e, _, r2⟩ := r
    rw [e, List.length_cons, List.length_cons, Rps.length r2]
theorem Rps.get : ∀ {ds : List D} {vs : List V} {i : Nat} {d : D}, Rps T F ds vs → ds[i]? = some d → ∃ v, vs[i]? = some v ∧ Rp T F d v
  | [], _, _, _, _, e => by simp at e
  | _ :: _, vs, 0, d, r, e => by
    simp only [Rps] at r
    obtain ⟨v, q, rfl, r1, _⟩ := r
    simp only [List.getElem?_cons_zero, Option.some.injEq] at e
    subst e
    exact ⟨v, rfl, r1⟩
  | _ :: ds, vs, i + 1, d, r, e => by
    simp only [Rps] at r
    obtain ⟨v, q, rfl, _, r2⟩ := r
    obtain ⟨u, h1, h2⟩ := Rps.get (i := i) r2 (by simpa using e)
    exact ⟨u, by simpa using h1, h2⟩
theorem Rps.geti {ds : List D} {vs : List V} {i : Nat} {v : V} (r : Rps T F ds vs) (e : vs[i]? = some v) : ∃ d, ds[i]? = some d ∧ Rp T F d v := by
  have hl := r.length
  have hi : i < vs.length := (List.getElem?_eq_some_iff.mp e).1
  have h2 : ds[i]? = some ds[i] := List.getElem?_eq_getElem (by omega)
  obtain ⟨u, h3, h4⟩ := r.get h2
  rw [e] at h3
  cases h3
  exact ⟨_, h2, h4⟩
theorem Rps.append : ∀ {ds es : List D} {vs us : List V}, Rps T F ds vs → Rps T F es us → Rps T F (ds ++ es) (vs ++ us)
  | [], _, _, _, r, q => by
    simp only [Rps] at r
    subst r
    exact q
  | d :: ds, es, vs, us, r, q => by
    simp only [Rps] at r
    obtain ⟨v, z, rfl, r1, r2⟩ := r
    simp only [List.cons_append, Rps]
    exact ⟨v, z ++ us, rfl, r1, Rps.append r2 q⟩
theorem Rps.cons {d : D} {v : V} {ds : List D} {vs : List V} (r : Rp T F d v) (q : Rps T F ds vs) : Rps T F (d :: ds) (v :: vs) := by
  simp only [Rps]
  exact ⟨v, vs, rfl, r, q⟩
theorem Rps.nil : Rps T F [] [] := by simp only [Rps]
theorem Rps.one {d : D} {v : V} (r : Rp T F d v) : Rps T F [d] [v] := Rps.cons r Rps.nil
theorem Rps.take : ∀ {ds : List D} {vs : List V} (n : Nat), Rps T F ds vs → Rps T F (ds.take n) (vs.take n)
  | _, _, 0, _ => by simp only [List.take_zero]; exact Rps.nil
  | [], vs, n + 1, r => by
    simp only [Rps] at r
    subst r
    exact Rps.nil
  | d :: ds, vs, n + 1, r => by
    simp only [Rps] at r
    obtain ⟨v, z, rfl, r1, r2⟩ := r
    simp only [List.take_succ_cons]
    exact Rps.cons r1 (Rps.take n r2)
theorem Rps.drop : ∀ {ds : List D} {vs : List V} (n : Nat), Rps T F ds vs → Rps T F (ds.drop n) (vs.drop n)
  | _, _, 0, r => by simpa only [List.drop_zero] using r
  | [], vs, n + 1, r => by
    simp only [Rps] at r
    subst r
    exact Rps.nil
  | d :: ds, vs, n + 1, r => by
    simp only [Rps] at r
    obtain ⟨v, z, rfl, r1, r2⟩ := r
    simp only [List.drop_succ_cons]
    exact Rps.drop n r2
theorem Rps.inv_cons {d : D} {ds : List D} {vs : List V} (r : Rps T F (d :: ds) vs) : ∃ v q, vs = v :: q ∧ Rp T F d v ∧ Rps T F ds q := by simpa only [Rps] using r
theorem Rps.inv_nil {vs : List V} (r : Rps T F [] vs) : vs = [] := by simpa only [Rps] using r
end

/-! ### the state of a def -/
/-- what a slot holds: a datum (frozen), or a thing that only this slot knows -/
inductive Sl where
  | d (x : D) | own (x : D)
abbrev Dn := List (Option Sl)
/-- the pen: a list of the cells, the index of the next one, the rest of a great one; n: fewer than so many cells are read (0: there is no pen) -/
def PenOk (T : Tb) (F : Fz) (H : Hp) (n : Nat) : Prop := ∀ p, F.pn = some p → F.B p = none ∧ ∃ (c : Addr) (k g : Int) (xs : List Int), H p = some (.lst [.ref c, .int k, .int g]) ∧ SqL T.K F.B c (xs.map V.int) ∧ xs.length ≤ 63 ∧ 0 ≤ k ∧ k < n ∧ 0 ≤ g
/-- from one state to a later one: the frozen part grows by what is new, all that stood stands but for the pen -/
structure Fwd (F : Fz) (H : Hp) (F' : Fz) (H' : Hp) : Prop where
  le : Le F F'
  ex : Ex F'.B H'
  keep : ∀ a o, H a = some o → F.pn ≠ some a → H' a = some o
  dom : ∀ a, H' a = none → H a = none
  new : ∀ a, F.B a = none → F'.B a ≠ none → H a = none
  pnew : ∀ p, F'.pn = some p → F.pn = none → H p = none
theorem Fwd.refl {F : Fz} {H : Hp} (h : Ex F.B H) : Fwd F H F H := ⟨Le.refl _, h, fun _ _ e _ => e, fun _ e => e, fun a h1 h2 => (h2 h1).elim, fun p h1 h2 => by rw [h1] at h2; cases h2⟩
theorem Fwd.trans {F F1 F2 : Fz} {H H1 H2 : Hp} (a : Fwd F H F1 H1) (b : Fwd F1 H1 F2 H2) : Fwd F H F2 H2 where
  le := a.le.trans b.le
  ex := b.ex
  keep := fun x o e n => b.keep x o (a.keep x o e n) fun z => by
    cases q : F.pn with
    | none =>
      have := a.pnew x z q
      rw [this] at e
      cases e
    | some p =>
      have := a.le.pn p q
      rw [z] at this
      cases this
      exact n q
  dom := fun x e => a.dom x (b.dom x e)
  new := fun x h1 h2 => by
    by_cases h : F1.B x = none
    · exact a.dom x (b.new x h h2)
    · exact a.new x h1 h
  pnew := fun p h1 h2 => by
    cases q : F1.pn with
    | none => exact a.dom p (b.pnew p h1 q)
    | some r =>
      have := b.le.pn r q
      rw [h1] at this
      cases this
      exact a.pnew p q h2
/-- the own things -/
def OwnAt (T : Tb) (F : Fz) (H : Hp) (p : Addr) : D → Prop
  | .lst xs => ∃ vs, H p = some (.lst vs) ∧ Rps T F xs vs
  | .dct ks xs => ∃ kvs, H p = some (.dK kvs) ∧ Rps T F ks (kvs.map fun p => kV p.1) ∧ Rps T F xs (kvs.map (·.2))
  | .obj c ns xs => ∃ dx C fs, T.mg c = some (.ref C) ∧ H p = some (.ins C dx fs) ∧ fs.map (·.1) = ns ∧ Rps T F xs (fs.map (·.2))
  | _ => False
theorem OwnAt.fwd {T : Tb} {F F' : Fz} {H H' : Hp} {p : Addr} {d : D} (f : Fwd F H F' H') (n : F.pn ≠ some p) (h : OwnAt T F H p d) : OwnAt T F' H' p d := by
  cases d with
  | lst xs =>
    obtain ⟨vs, a, b⟩ := h
    exact ⟨vs, f.keep _ _ a n, Rps.mono f.le _ _ b⟩
  | dct ks xs =>
    obtain ⟨vs, a, b, c⟩ := h
    exact ⟨vs, f.keep _ _ a n, Rps.mono f.le _ _ b, Rps.mono f.le _ _ c⟩
  | obj c ns xs =>
    obtain ⟨dx, C, fs, m, a, b, c⟩ := h
    exact ⟨dx, C, fs, m, f.keep _ _ a n, b, Rps.mono f.le _ _ c⟩
  | _ => exact h.elim
theorem OwnAt.some {T : Tb} {F : Fz} {H : Hp} {p : Addr} {d : D} (h : OwnAt T F H p d) : ∃ o, H p = some o := by
  cases d with
  | lst xs => obtain ⟨vs, a, b⟩ := h; exact ⟨_, a⟩
  | dct ks xs => obtain ⟨vs, a, b, c⟩ := h; exact ⟨_, a⟩
  | obj c ns xs => obtain ⟨dx, C, fs, m, a, b, c⟩ := h; exact ⟨_, a⟩
  | _ => exact h.elim
def SlOk (T : Tb) (H0 : Hp) (F : Fz) (H : Hp) (v : V) : Sl → Prop
  | .d x => Rp T F x v
  | .own x => ∃ p, v = .ref p ∧ F.B p = none ∧ F.pn ≠ some p ∧ H0 p = none ∧ OwnAt T F H p x
structure Stt (T : Tb) (F0 : Fz) (H0 : Hp) (F : Fz) (H : Hp) (σ : St) (δ : Dn) (n : Nat) : Prop where
  fwd : Fwd F0 H0 F H
  pen : PenOk T F H n
  len : σ.length = δ.length
  sl : ∀ (i : Nat) (s : Sl), δ[i]? = some (some s) → ∃ v, σ[i]? = some (some v) ∧ SlOk T H0 F H v s
  sep : ∀ (i j : Nat) (p : Addr) (x y : D), δ[i]? = some (some (.own x)) → δ[j]? = some (some (.own y)) → σ[i]? = some (some (.ref p)) → σ[j]? = some (some (.ref p)) → i = j
section
variable {T : Tb} {F0 F F' : Fz} {H0 H H' : Hp} {σ σ' : St} {δ δ' : Dn} {n n' : Nat}
theorem Stt.go (S : Stt T F0 H0 F H σ δ n) (f : Fwd F H F' H') (p : PenOk T F' H' n') : Stt T F0 H0 F' H' σ δ n' where
  fwd := S.fwd.trans f
  pen := p
  len := S.len
  sl := fun i s e => by
    obtain ⟨v, h1, h2⟩ := S.sl i s e
    refine ⟨v, h1, ?_⟩
    cases s with
    | d x => exact Rp.mono f.le _ _ h2
    | own x =>
      obtain ⟨p, rfl, a, b, c, o⟩ := h2
      obtain ⟨u, hu⟩ := o.some
      refine ⟨p, rfl, ?_, ?_, c, o.fwd f b⟩
      · cases q : F'.B p with
        | none => rfl
        | some w =>
          have := f.new p a (by rw [q]; exact fun z => nomatch z)
          rw [this] at hu
          cases hu
      · intro z
        cases q : F.pn with
        | none =>
          have := f.pnew p z q
          rw [this] at hu
          cases hu
        | some r =>
          have := f.le.pn r q
          rw [z] at this
          cases this
          exact b q
  sep := S.sep
theorem Stt.ex (S : Stt T F0 H0 F H σ δ n) : Ex F.B H := S.fwd.ex
theorem Stt.get (S : Stt T F0 H0 F H σ δ n) {i : Nat} {d : D} (e : δ[i]? = some (some (.d d))) : ∃ v, σ[i]? = some (some v) ∧ Rp T F d v := S.sl i _ e
/-- a datum into a slot -/
theorem Stt.set (S : Stt T F0 H0 F H σ δ n) {i : Nat} {d : D} {v : V} (r : Rp T F d v) : Stt T F0 H0 F H (σ.set i (some v)) (δ.set i (some (.d d))) n where
  fwd := S.fwd
  pen := S.pen
  len := by rw [List.length_set, List.length_set]; exact S.len
  sl := fun j s e => by
    by_cases hj : i = j
    · subst hj
      have hi : i < δ.length := by
        have := (List.getElem?_eq_some_iff.mp e).1
        rwa [List.length_set] at this
      rw [List.getElem?_set_self hi] at e
      cases e
      exact ⟨v, List.getElem?_set_self (by rw [S.len]; exact hi), r⟩
    · rw [List.getElem?_set_ne hj] at e ⊢
      exact S.sl j s e
  sep := fun a b p x y e1 e2 e3 e4 => by
    have ha : i ≠ a := by
      rintro rfl
      have hi : i < δ.length := by
        have := (List.getElem?_eq_some_iff.mp e1).1
        rwa [List.length_set] at this
      rw [List.getElem?_set_self hi] at e1
      cases e1
    have hb : i ≠ b := by
      rintro rfl
      have hi : i < δ.length := by
        have := (List.getElem?_eq_some_iff.mp e2).1
        rwa [List.length_set] at this
      rw [List.getElem?_set_self hi] at e2
      cases e2
    rw [List.getElem?_set_ne ha] at e1 e3
    rw [List.getElem?_set_ne hb] at e2 e4
    exact S.sep a b p x y e1 e2 e3 e4
/-- slots forgotten -/
def wipeD (δ : Dn) : List Nat → Dn
  | [] => δ
  | v :: vs => (wipeD δ vs).set v none
theorem Stt.forget (S : Stt T F0 H0 F H σ δ n) {i : Nat} {o : Option V} : Stt T F0 H0 F H (σ.set i o) (δ.set i none) n where
  fwd := S.fwd
  pen := S.pen
  len := by rw [List.length_set, List.length_set]; exact S.len
  sl := fun j s e => by
    by_cases hj : i = j
    · subst hj
      have hi : i < δ.length := by
        have := (List.getElem?_eq_some_iff.mp e).1
        rwa [List.length_set] at this
      rw [List.getElem?_set_self hi] at e
      cases e
    · rw [List.getElem?_set_ne hj] at e ⊢
      exact S.sl j s e
  sep := fun a b p x y e1 e2 e3 e4 => by
    have ha : i ≠ a := by
      rintro rfl
      have hi : i < δ.length := by
        have := (List.getElem?_eq_some_iff.mp e1).1
        rwa [List.length_set] at this
      rw [List.getElem?_set_self hi] at e1
      cases e1
    have hb : i ≠ b := by
      rintro rfl
      have hi : i < δ.length := by
        have := (List.getElem?_eq_some_iff.mp e2).1
        rwa [List.length_set] at this
      rw [List.getElem?_set_self hi] at e2
      cases e2
    rw [List.getElem?_set_ne ha] at e1 e3
    rw [List.getElem?_set_ne hb] at e2 e4
    exact S.sep a b p x y e1 e2 e3 e4
theorem Stt.wipe (S : Stt T F0 H0 F H σ δ n) : ∀ vs : List Nat, Stt T F0 H0 F H (L2.wipe σ vs) (wipeD δ vs) n
  | [] => S
  | v :: vs => by
    unfold L2.wipe wipeD
    exact (Stt.wipe S vs).forget
/-- a new thing is laid and frozen at once -/
theorem fwd_new {p : Addr} {o : HO} (h : Ex F.B H) (np : H p = none) : Fwd F H ⟨upd F.B p o, F.pn⟩ (upd H p o) where
  le := ⟨fun a u e => by
    have : a ≠ p := by
      rintro rfl
      rw [h _ _ e] at np
      cases np
    show upd F.B p o a = some u
    rw [upd_ne this]; exact e, fun _ e => e⟩
  ex := fun a u e => by
    have e : upd F.B p o a = some u := e
    by_cases ha : a = p
    · subst ha; rw [upd_same] at e ⊢; exact e
    · rw [upd_ne ha] at e ⊢; exact h _ _ e
  keep := fun a u e _ => by rw [upd_ne (ne_of_none e np)]; exact e
  dom := fun a e => by
    by_cases ha : a = p
    · subst ha; exact np
    · rw [upd_ne ha] at e; exact e
  new := fun a h1 h2 => by
    have h2 : upd F.B p o a ≠ none := h2
    by_cases ha : a = p
    · subst ha; exact np
    · rw [upd_ne ha] at h2; exact (h2 h1).elim
  pnew := fun q h1 h2 => by
    have h1 : F.pn = some q := h1
    rw [h1] at h2; cases h2
theorem PenOk.fwd_ex (f : Fwd F H F' H') (e : ∀ p, F'.pn = some p → F.pn = some p) (x : Ex H H') (P : PenOk T F H n) : PenOk T F' H' n := fun p hp => by
  obtain ⟨h1, c, k, g, xs, h2, h3, h4⟩ := P p (e p hp)
  refine ⟨?_, c, k, g, xs, x _ _ h2, f.le.B.seq h3, h4⟩
  cases q : F'.B p with
  | none => rfl
  | some w =>
    have := f.new p h1 (by rw [q]; exact fun z => nomatch z)
    rw [this] at h2
    cases h2
theorem PenOk.new {p : Addr} {o : HO} (h : Ex F.B H) (np : H p = none) (P : PenOk T F H n) : PenOk T ⟨upd F.B p o, F.pn⟩ (upd H p o) n :=
  P.fwd_ex (fwd_new h np) (fun _ e => e) (Ex.new np)
end
end Dl

set_option Elab.async false
set_option linter.all false
set_option maxRecDepth 100000
set_option maxHeartbeats 2000000
namespace Dl
open PySem L2

/-! ### readings over data -/
abbrev XD := Str → List Str → List D → Nat → Prop
abbrev DE := Dn → Nat → (D → Nat → Prop) → XD → Prop
abbrev DT := Dn → Nat → (Bool → Nat → Prop) → XD → Prop
abbrev DA := Dn → Nat → (List D → Nat → Prop) → XD → Prop
/-- an exception: its class's name, its fields -/
def XOk (T : Tb) (F : Fz) (H : Hp) (c : Str) (ns : List Str) (ds : List D) (cls : Value) (d : Option Addr) : Prop :=
  ∃ C, T.mg c = some (.ref C) ∧ cls = .ref C ∧ ((d = none ∧ ns = [] ∧ ds = []) ∨ ∃ dd fs, d = some dd ∧ H dd = some (.xd fs) ∧ fs.map (·.1) = ns ∧ Rps T F ds (fs.map (·.2)))
/-- a def's entry, and what is wanted of exceptions -/
structure Gx where
  F0 : Fz
  H0 : Hp
  W : WX
abbrev tb (X : Cx) : Tb := ⟨X.K, X.mg⟩
def Kx (T : Tb) (W : WX) (σ : St) (F : Fz) (H : Hp) (x : XD) : Prop := ∀ c ns ds cls dd F' H' n', Fwd F H F' H' → PenOk T F' H' n' → XOk T F' H' c ns ds cls dd → x c ns ds n' → W cls dd σ H'
theorem Kx.go {T : Tb} {W : WX} {σ : St} {F F' : Fz} {H H' : Hp} {x : XD} (k : Kx T W σ F H x) (f : Fwd F H F' H') : Kx T W σ F' H' x := fun c ns ds cls dd F2 H2 n2 f2 p2 o q => k c ns ds cls dd F2 H2 n2 (f.trans f2) p2 o q
def upE (T : Tb) (g : Gx) (m : DE) : TE := fun σ H Q => ∃ F δ n q x, Stt T g.F0 g.H0 F H σ δ n ∧ m δ n q x ∧ (∀ v d F' H' n', Fwd F H F' H' → PenOk T F' H' n' → Rp T F' d v → q d n' → Q v H') ∧ Kx T g.W σ F H x
def upT (T : Tb) (g : Gx) (m : DT) : TT := fun σ H Q => ∃ F δ n q x, Stt T g.F0 g.H0 F H σ δ n ∧ m δ n q x ∧ (∀ b F' H' n', Fwd F H F' H' → PenOk T F' H' n' → q b n' → Q b H') ∧ Kx T g.W σ F H x
def upA (T : Tb) (g : Gx) (m : DA) : TA := fun σ H Q => ∃ F δ n q x, Stt T g.F0 g.H0 F H σ δ n ∧ m δ n q x ∧ (∀ vs ds F' H' n', Fwd F H F' H' → PenOk T F' H' n' → Rps T F' ds vs → q ds n' → Q vs H') ∧ Kx T g.W σ F H x
abbrev PDE (g : Gx) (X : Cx) (e : Expr) (m : DE) : Prop := PE X e (upE (tb X) g m)
abbrev PDT (g : Gx) (X : Cx) (e : Expr) (m : DT) : Prop := PT X e (upT (tb X) g m)
abbrev PDW (g : Gx) (X : Cx) (e : Expr) (m : DT) : Prop := PW X e (upT (tb X) g m)
abbrev PDA (g : Gx) (X : Cx) (es : List Expr) (m : DA) : Prop := PA X es (upA (tb X) g m)

theorem pe_mono {X : Cx} {e : Expr} {t t' : TE} (h : PE X e t) (i : ∀ σ H Q, t' σ H Q → t σ H Q) : PE X e t' := ⟨fun pins s σ H Q I q => h.run pins s σ H Q I (i σ H Q q)⟩
theorem pt_mono {X : Cx} {e : Expr} {t t' : TT} (h : PT X e t) (i : ∀ σ H Q, t' σ H Q → t σ H Q) : PT X e t' := ⟨fun pins s σ H Q I q => h.run pins s σ H Q I (i σ H Q q)⟩
theorem pw_mono {X : Cx} {e : Expr} {t t' : TT} (h : PW X e t) (i : ∀ σ H Q, t' σ H Q → t σ H Q) : PW X e t' := ⟨fun w pins s σ H Q I q => h.run w pins s σ H Q I (i σ H Q q)⟩
theorem pa_mono {X : Cx} {e : List Expr} {t t' : TA} (h : PA X e t) (i : ∀ σ H Q, t' σ H Q → t σ H Q) : PA X e t' := ⟨fun pos pins s σ H Q I q => h.run pos pins s σ H Q I (i σ H Q q)⟩

section
variable {T : Tb} {g : Gx} {σ : St} {H : Hp} {F : Fz} {δ : Dn} {n : Nat} {x : XD}
theorem seqE {m : DE} {q : D → Nat → Prop} {Q : VK} (S : Stt T g.F0 g.H0 F H σ δ n) (h : m δ n q x) (kx : Kx T g.W σ F H x)
    (k : ∀ v d F' H' n', Fwd F H F' H' → Stt T g.F0 g.H0 F' H' σ δ n' → Kx T g.W σ F' H' x → Rp T F' d v → q d n' → Q v H') : upE T g m σ H Q :=
  ⟨F, δ, n, q, x, S, h, fun v d F' H' n' f p r hq => k v d F' H' n' f (S.go f p) (kx.go f) r hq, kx⟩
theorem seqT {m : DT} {q : Bool → Nat → Prop} {Q : Bool → Hp → Prop} (S : Stt T g.F0 g.H0 F H σ δ n) (h : m δ n q x) (kx : Kx T g.W σ F H x)
    (k : ∀ b F' H' n', Fwd F H F' H' → Stt T g.F0 g.H0 F' H' σ δ n' → Kx T g.W σ F' H' x → q b n' → Q b H') : upT T g m σ H Q :=
  ⟨F, δ, n, q, x, S, h, fun b F' H' n' f p hq => k b F' H' n' f (S.go f p) (kx.go f) hq, kx⟩
theorem seqA {m : DA} {q : List D → Nat → Prop} {Q : List V → Hp → Prop} (S : Stt T g.F0 g.H0 F H σ δ n) (h : m δ n q x) (kx : Kx T g.W σ F H x)
    (k : ∀ vs ds F' H' n', Fwd F H F' H' → Stt T g.F0 g.H0 F' H' σ δ n' → Kx T g.W σ F' H' x → Rps T F' ds vs → q ds n' → Q vs H') : upA T g m σ H Q :=
  ⟨F, δ, n, q, x, S, h, fun v d F' H' n' f p r hq => k v d F' H' n' f (S.go f p) (kx.go f) r hq, kx⟩
end

/-! ### a pure step: things are laid, nothing else turns -/
structure Stp (F : Fz) (H : Hp) (F' : Fz) (H' : Hp) : Prop where
  f : Fwd F H F' H'
  x : Ex H H'
  p : F'.pn = F.pn
theorem Stp.refl {F : Fz} {H : Hp} (h : Ex F.B H) : Stp F H F H := ⟨Fwd.refl h, Ex.refl _, rfl⟩
theorem Stp.trans {F F1 F2 : Fz} {H H1 H2 : Hp} (a : Stp F H F1 H1) (b : Stp F1 H1 F2 H2) : Stp F H F2 H2 := ⟨a.f.trans b.f, a.x.trans b.x, b.p.trans a.p⟩
theorem Stp.new {F : Fz} {H : Hp} {p : Addr} {o : HO} (h : Ex F.B H) (np : H p = none) : Stp F H ⟨upd F.B p o, F.pn⟩ (upd H p o) := ⟨fwd_new h np, Ex.new np, rfl⟩
theorem Stp.pen {T : Tb} {F F' : Fz} {H H' : Hp} {n : Nat} (s : Stp F H F' H') (P : PenOk T F H n) : PenOk T F' H' n := P.fwd_ex s.f (fun p e => by rw [← s.p]; exact e) s.x
/-- an operation on values, as a function on data -/
def lift1 (T : Tb) (p : D → Option D) : V → Hp → VK → Prop := fun v H Q => ∃ F d z, Ex F.B H ∧ Rp T F d v ∧ p d = some z ∧ ∀ u F' H', Stp F H F' H' → Rp T F' z u → Q u H'
def lift2 (T : Tb) (p : D → D → Option D) : R2 := fun v w H Q => ∃ F a b z, Ex F.B H ∧ Rp T F a v ∧ Rp T F b w ∧ p a b = some z ∧ ∀ u F' H', Stp F H F' H' → Rp T F' z u → Q u H'
def liftN (T : Tb) (p : List D → Option D) : List V → Hp → VK → Prop := fun vs H Q => ∃ F ds z, Ex F.B H ∧ Rps T F ds vs ∧ p ds = some z ∧ ∀ u F' H', Stp F H F' H' → Rp T F' z u → Q u H'
abbrev OpD (X : Cx) (f : Value → Value → Sem Value) (p : D → D → Option D) : Prop := OpR X f (lift2 (tb X) p)
abbrev UnD (X : Cx) (f : Value → Sem Value) (p : D → Option D) : Prop := UnR X f (lift1 (tb X) p)
abbrev CallD (X : Cx) (f : Value) (p : List D → Option D) : Prop := CallR X f (liftN (tb X) p)
theorem opr_mono {X : Cx} {f : Value → Value → Sem Value} {r r' : R2} (h : OpR X f r) (i : ∀ x y H Q, r' x y H Q → r x y H Q) : OpR X f r' := fun pins s σ H x y v u Q I rx ry q => h pins s σ H x y v u Q I rx ry (i x y H Q q)
theorem unr_mono {X : Cx} {f : Value → Sem Value} {r r' : V → Hp → VK → Prop} (h : UnR X f r) (i : ∀ x H Q, r' x H Q → r x H Q) : UnR X f r' := fun pins s σ H x v Q I rx q => h pins s σ H x v Q I rx (i x H Q q)
theorem callr_mono {X : Cx} {f : Value} {r r' : List V → Hp → VK → Prop} (h : CallR X f r) (i : ∀ xs H Q, r' xs H Q → r xs H Q) : CallR X f r' := fun pins s σ H x v Q I rx q => h pins s σ H x v Q I rx (i x H Q q)
/-- two functions on data, the one where the other has no answer -/
def orD (p q : D → D → Option D) : D → D → Option D := fun a b => (p a b).orElse fun _ => q a b
theorem OpD.or {X : Cx} {f : Value → Value → Sem Value} {p q : D → D → Option D} (h : OpD X f p) (h' : OpD X f q) : OpD X f (orD p q) := by
  intro pins s σ H x y v u Q I rx ry ⟨F, a, b, z, e, r1, r2, hz, k⟩
  cases hp : p a b with
  | some w =>
    simp only [orD, hp, Option.orElse_some, Option.some.injEq] at hz
    subst hz
    exact h pins s σ H x y v u Q I rx ry ⟨F, a, b, w, e, r1, r2, hp, k⟩
  | none =>
    simp only [orD, hp, Option.orElse_none] at hz
    exact h' pins s σ H x y v u Q I rx ry ⟨F, a, b, z, e, r1, r2, hz, k⟩
def orN (p q : List D → Option D) : List D → Option D := fun a => (p a).orElse fun _ => q a
theorem CallD.or {X : Cx} {f : Value} {p q : List D → Option D} (h : CallD X f p) (h' : CallD X f q) : CallD X f (orN p q) := by
  intro pins s σ H x v Q I rx ⟨F, a, z, e, r1, hz, k⟩
  cases hp : p a with
  | some w =>
    simp only [orN, hp, Option.orElse_some, Option.some.injEq] at hz
    subst hz
    exact h pins s σ H x v Q I rx ⟨F, a, w, e, r1, hp, k⟩
  | none =>
    simp only [orN, hp, Option.orElse_none] at hz
    exact h' pins s σ H x v Q I rx ⟨F, a, z, e, r1, hz, k⟩

/-! ### expressions -/
def mVar (i : Nat) : DE := fun δ n q _ => ∃ d, δ[i]? = some (some (.d d)) ∧ q d n
def mC (d : D) : DE := fun _ n q _ => q d n
def mOp (p : D → D → Option D) (a b : DE) : DE := fun δ n q x => a δ n (fun u n1 => b δ n1 (fun w n2 => ∃ z, p u w = some z ∧ q z n2) x) x
def mUn (p : D → Option D) (a : DE) : DE := fun δ n q x => a δ n (fun u n1 => ∃ z, p u = some z ∧ q z n1) x
def mNil : DA := fun _ n q _ => q [] n
def mCons (a : DE) (r : DA) : DA := fun δ n q x => a δ n (fun u n1 => r δ n1 (fun us n2 => q (u :: us) n2) x) x
def mCall (p : List D → Option D) (a : DA) : DE := fun δ n q x => a δ n (fun us n1 => ∃ z, p us = some z ∧ q z n1) x
def trD : D → Option Bool
  | .non => some false
  | .bl b => some b
  | .int i => some (i != 0)
  | .str y => if y.length ≤ sizeLine then some ((y.length : Int) != 0) else none
  | .tup xs => some (!xs.isEmpty)
  | .lst xs => some (!xs.isEmpty)
  | .dct ks _ => some (!ks.isEmpty)
  | _ => none
def mAnd (a b : DE) : DE := fun δ n q x => a δ n (fun u n1 => ∃ k, trD u = some k ∧ if k = true then b δ n1 q x else q u n1) x
def mOr (a b : DE) : DE := fun δ n q x => a δ n (fun u n1 => ∃ k, trD u = some k ∧ if k = true then q u n1 else b δ n1 q x) x
def mNot (a : DE) : DE := fun δ n q x => a δ n (fun u n1 => ∃ k, trD u = some k ∧ q (.bl (!k)) n1) x
def mIf (t : DT) (a b : DE) : DE := fun δ n q x => t δ n (fun k n1 => if k = true then a δ n1 q x else b δ n1 q x) x
def mTr (a : DE) : DT := fun δ n q x => a δ n (fun u n1 => ∃ k, trD u = some k ∧ q k n1) x
def mTB (a : DE) : DT := fun δ n q x => a δ n (fun u n1 => ∃ k, u = .bl k ∧ q k n1) x
def mTAnd (a b : DT) : DT := fun δ n q x => a δ n (fun k n1 => if k = true then b δ n1 q x else q false n1) x
def mTOr (a b : DT) : DT := fun δ n q x => a δ n (fun k n1 => if k = true then q true n1 else b δ n1 q x) x
def mTNot (a : DT) : DT := fun δ n q x => a δ n (fun k n1 => q (!k) n1) x
def mChain (p p' : D → D → Option D) (a b c : DE) : DE := fun δ n q x => a δ n (fun u n1 => b δ n1 (fun w n2 => ∃ z k, p u w = some z ∧ z = .bl k ∧ if k = true then c δ n2 (fun y n3 => ∃ z', p' w y = some z' ∧ q z' n3) x else q (.bl false) n2) x) x
def mTup (a : DA) : DE := fun δ n q x => a δ n (fun us n1 => us.length ≤ sizeLine ∧ q (.tup us) n1) x
def mLst (a : DA) : DE := fun δ n q x => a δ n (fun us n1 => us.length ≤ sizeLine ∧ q (.lst us) n1) x

theorem isEmpty_rps {T : Tb} {F : Fz} : ∀ {xs : List D} {vs : List V}, Rps T F xs vs → vs.isEmpty = xs.isEmpty
  | [], vs, r => by rw [r.inv_nil]; rfl
  | d :: ds, vs, r => by
    obtain ⟨v, q, rfl, _⟩ := r.inv_cons
    rfl
theorem tru_of {T : Tb} {F : Fz} {H : Hp} {d : D} {v : V} {k : Bool} (e : Ex F.B H) (r : Rp T F d v) (h : trD d = some k) : TruV T.K v H k := by
  cases d with
  | non => simp only [Rp] at r; subst r; simp only [trD, Option.some.injEq] at h; exact h.symm
  | bl b => simp only [Rp] at r; subst r; simp only [trD, Option.some.injEq] at h; exact h.symm
  | int i => simp only [Rp] at r; subst r; simp only [trD, Option.some.injEq] at h; exact h.symm
  | str y =>
    simp only [Rp] at r; subst r
    simp only [trD] at h
    split at h
    · simp only [Option.some.injEq] at h
      exact ⟨by assumption, h.symm⟩
    · cases h
  | tup xs =>
    simp only [Rp] at r
    obtain ⟨a, vs, rfl, q, z⟩ := r
    simp only [trD, Option.some.injEq] at h
    exact .inr (.inl ⟨vs, e.sqt q, by rw [isEmpty_rps z]; exact h.symm⟩)
  | lst xs =>
    simp only [Rp] at r
    obtain ⟨a, vs, rfl, q, z⟩ := r
    simp only [trD, Option.some.injEq] at h
    exact .inl ⟨vs, SqL.of (e _ _ q), by rw [isEmpty_rps z]; exact h.symm⟩
  | dct ks xs =>
    simp only [Rp] at r
    obtain ⟨a, kvs, rfl, q, z, _⟩ := r
    simp only [trD, Option.some.injEq] at h
    refine .inr (.inr ⟨kvs, e _ _ q, ?_⟩)
    have := isEmpty_rps z
    rw [← h, ← this]
    cases kvs <;> rfl
  | obj c ns xs => cases h
  | exc c ns xs => cases h
  | scr ns => cases h
  | pen => cases h

section
variable {g : Gx} {X : Cx} {a b c e : Expr} {m ma mb mc : DE} {t u : DT} {es rest : List Expr} {mr : DA} {pos : Pos}
theorem de_var (i : Nat) {x : Str} (hN : X.N[i]? = some x := by rfl) (hv : Vis X.env.scope x := by first | exact Or.inl rfl | exact Or.inr (Or.inl rfl) | exact Or.inr (Or.inr rfl)) (hd : (x == ("__debug__" : Str)) = false := by decide)
    (hcd : (x == ("__classdict__" : Str)) = false := by decide) : PDE g X (.Name x pos) (mVar i) := pe_mono (pe_var hN hv hd hcd) fun σ H Q h => by
  obtain ⟨F, δ, n, q, x, S, ⟨d, e, hq⟩, kn, kx⟩ := h
  obtain ⟨v, h1, h2⟩ := S.get e
  exact ⟨v, h1, kn v d F H n (Fwd.refl S.ex) S.pen h2 hq⟩
theorem de_c {d : D} {v : V} (h : PE X e (tC v)) (r : ∀ T F, Rp T F d v) : PDE g X e (mC d) := pe_mono h fun σ H Q h => by
  obtain ⟨F, δ, n, q, x, S, hq, kn, kx⟩ := h
  exact kn v d F H n (Fwd.refl S.ex) S.pen (r _ _) hq
theorem de_int {i : Int} {j} : PDE g X (.Constant (.int i) j pos) (mC (.int i)) := de_c pe_int fun _ _ => by simp only [Rp]
theorem de_bl {i : Bool} {j} : PDE g X (.Constant (.bool i) j pos) (mC (.bl i)) := de_c pe_bl fun _ _ => by simp only [Rp]
theorem de_non {j} : PDE g X (.Constant .none j pos) (mC .non) := de_c pe_non fun _ _ => by simp only [Rp]
theorem de_str {i : Str} {j} : PDE g X (.Constant (.str i) j pos) (mC (.str i)) := de_c pe_str fun _ _ => by simp only [Rp]
/-- a module's constant -/
theorem de_glob {x : Str} {d : D} {v : V} {u : Value} (hm : X.mg x = some u) (r : RelV v u) (hd : ∀ T F, Rp T F d v) (hg : Gl X x := by rfl) (hdb : (x == ("__debug__" : Str)) = false := by decide) : PDE g X (.Name x pos) (mC d) := de_c (pe_glob hg hm r hdb) hd
theorem seq2 {p : D → D → Option D} {T : Tb} {σ : St} {H : Hp} {Q : VK} (h : upE T g (mOp p ma mb) σ H Q) : tOp (lift2 T p) (upE T g ma) (upE T g mb) σ H Q := by
  obtain ⟨F, δ, n, q, x, S, hm, kn, kx⟩ := h
  refine seqE S hm kx fun v d F1 H1 n1 f1 S1 kx1 r1 h1 => ?_
  refine seqE S1 h1 kx1 fun w d2 F2 H2 n2 f2 S2 kx2 r2 h2 => ?_
  obtain ⟨z, hz, hq⟩ := h2
  exact ⟨F2, d, d2, z, S2.ex, Rp.mono f2.le _ _ r1, r2, hz, fun u F3 H3 s3 r3 => kn u z F3 H3 n2 ((f1.trans f2).trans s3.f) (s3.pen S2.pen) r3 hq⟩
theorem de_op {op : Operator} {p : D → D → Option D} (ho : OpD X (binaryOp op) p) (ha : PDE g X a ma) (hb : PDE g X b mb) : PDE g X (.BinOp a op b pos) (mOp p ma mb) := pe_mono (pe_op ho ha hb) fun σ H Q h => seq2 h
theorem de_cmp {op : CmpOp} {p : D → D → Option D} (ho : OpD X (compareOp op) p) (ha : PDE g X a ma) (hb : PDE g X b mb) (hm : behindInMarks op b = false) : PDE g X (.Compare a [op] [b] pos) (mOp p ma mb) := pe_mono (pe_cmpR ho ha hb hm) fun σ H Q h => seq2 h
theorem rp_bl {T : Tb} {F : Fz} {k : Bool} {v : V} (r : Rp T F (.bl k) v) : v = .bl k := by simpa only [Rp] using r
theorem dt_cmp {op : CmpOp} {p : D → D → Option D} (ho : OpD X (compareOp op) p) (ha : PDE g X a ma) (hb : PDE g X b mb) (hm : behindInMarks op b = false) : PDT g X (.Compare a [op] [b] pos) (mTB (mOp p ma mb)) := pt_mono (pt_cmpR ho ha hb hm) fun σ H Q h => by
  obtain ⟨F, δ, n, q, x, S, hm, kn, kx⟩ := h
  refine seq2 ⟨F, δ, n, _, x, S, hm, fun v d F1 H1 n1 f1 p1 r1 h1 => ?_, kx⟩
  obtain ⟨k, rfl, hq⟩ := h1
  exact ⟨k, rp_bl r1, kn k F1 H1 n1 f1 p1 hq⟩
theorem de_un {op : UnaryOp} {p : D → Option D} (ho : UnD X (unaryOp op) p) (ha : PDE g X a ma) : PDE g X (.UnaryOp op a pos) (mUn p ma) := pe_mono (pe_un ho ha) fun σ H Q h => by
  obtain ⟨F, δ, n, q, x, S, hm, kn, kx⟩ := h
  refine seqE S hm kx fun v d F1 H1 n1 f1 S1 kx1 r1 h1 => ?_
  obtain ⟨z, hz, hq⟩ := h1
  exact ⟨F1, d, z, S1.ex, r1, hz, fun u F3 H3 s3 r3 => kn u z F3 H3 n1 (f1.trans s3.f) (s3.pen S1.pen) r3 hq⟩
theorem seqChain {p p' : D → D → Option D} {T : Tb} {σ : St} {H : Hp} {Q : VK} (h : upE T g (mChain p p' ma mb mc) σ H Q) : tChain (lift2 T p) (lift2 T p') (upE T g ma) (upE T g mb) (upE T g mc) σ H Q := by
  obtain ⟨F, δ, n, q, x, S, hm, kn, kx⟩ := h
  refine seqE S hm kx fun v d F1 H1 n1 f1 S1 kx1 r1 h1 => ?_
  refine seqE S1 h1 kx1 fun w d2 F2 H2 n2 f2 S2 kx2 r2 h2 => ?_
  obtain ⟨z, k, hz, rfl, hq⟩ := h2
  refine ⟨F2, d, d2, _, S2.ex, Rp.mono f2.le _ _ r1, r2, hz, fun u F3 H3 s3 r3 => ⟨k, rp_bl r3, ?_⟩⟩
  have S3 := S2.go s3.f (s3.pen S2.pen)
  cases k with
  | false =>
    rw [if_neg Bool.false_ne_true] at hq
    refine iteF ?_
    exact kn _ _ F3 H3 n2 ((f1.trans f2).trans s3.f) (s3.pen S2.pen) (by simp only [Rp]) hq
  | true =>
    rw [if_pos rfl] at hq
    refine iteT ?_
    refine seqE S3 hq (kx2.go s3.f) fun y d4 F4 H4 n4 f4 S4 kx4 r4 h4 => ?_
    obtain ⟨z', hz', hq'⟩ := h4
    exact ⟨F4, d2, d4, z', S4.ex, Rp.mono (s3.f.le.trans f4.le) _ _ r2, r4, hz', fun u F5 H5 s5 r5 => kn u z' F5 H5 n4 ((((f1.trans f2).trans s3.f).trans f4).trans s5.f) (s5.pen S4.pen) r5 hq'⟩
theorem de_chain {op op' : CmpOp} {p p' : D → D → Option D} (ho : OpD X (compareOp op) p) (ho' : OpD X (compareOp op') p') (ha : PDE g X a ma) (hb : PDE g X b mb) (hc : PDE g X c mc)
    (hm : lastMarks [op, op'] [b, c] = false := by with_unfolding_all rfl) : PDE g X (.Compare a [op, op'] [b, c] pos) (mChain p p' ma mb mc) := pe_mono (pe_chain ho ho' ha hb hc hm) fun σ H Q h => seqChain h
theorem dt_chain {op op' : CmpOp} {p p' : D → D → Option D} (ho : OpD X (compareOp op) p) (ho' : OpD X (compareOp op') p') (ha : PDE g X a ma) (hb : PDE g X b mb) (hc : PDE g X c mc)
    (hm : lastMarks [op, op'] [b, c] = false := by with_unfolding_all rfl) : PDT g X (.Compare a [op, op'] [b, c] pos) (mTB (mChain p p' ma mb mc)) := pt_mono (pt_chain ho ho' ha hb hc hm) fun σ H Q h => by
  obtain ⟨F, δ, n, q, x, S, hm, kn, kx⟩ := h
  refine seqChain ⟨F, δ, n, _, x, S, hm, fun v d F1 H1 n1 f1 p1 r1 h1 => ?_, kx⟩
  obtain ⟨k, rfl, hq⟩ := h1
  exact ⟨k, rp_bl r1, kn k F1 H1 n1 f1 p1 hq⟩
/-! arguments -/
theorem da_nil : PDA g X [] mNil := pa_mono pa_nil fun σ H Q h => by
  obtain ⟨F, δ, n, q, x, S, hm, kn, kx⟩ := h
  exact kn [] [] F H n (Fwd.refl S.ex) S.pen Rps.nil hm
theorem da_cons (ha : PDE g X e m) (hr : PDA g X es mr) (hs : starEach (e :: es) X.env = (false, eval e X.env) :: starEach es X.env := by rfl) : PDA g X (e :: es) (mCons m mr) := pa_mono (pa_cons ha hr hs) fun σ H Q h => by
  obtain ⟨F, δ, n, q, x, S, hm, kn, kx⟩ := h
  refine seqE S hm kx fun v d F1 H1 n1 f1 S1 kx1 r1 h1 => ?_
  refine seqA S1 h1 kx1 fun w d2 F2 H2 n2 f2 S2 kx2 r2 h2 => ?_
  exact kn _ _ F2 H2 n2 (f1.trans f2) S2.pen (Rps.cons (Rp.mono f2.le _ _ r1) r2) h2
theorem de_tup {x1} (h : PDA g X es mr) : PDE g X (.Tuple es x1 pos) (mTup mr) := pe_mono (pe_tup h) fun σ H Q h => by
  obtain ⟨F, δ, n, q, x, S, hm, kn, kx⟩ := h
  refine seqA S hm kx fun v d F1 H1 n1 f1 S1 kx1 r1 h1 => ?_
  obtain ⟨hz, hq⟩ := h1
  refine ⟨by rw [r1.length]; exact hz, fun p hp => ?_⟩
  have s3 : Stp F1 H1 ⟨upd F1.B p (.tup v), F1.pn⟩ (upd H1 p (.tup v)) := Stp.new S1.ex hp
  refine kn _ _ _ _ n1 (f1.trans s3.f) (s3.pen S1.pen) ?_ hq
  simp only [Rp]
  exact ⟨p, v, rfl, SqT.of upd_same, Rps.mono s3.f.le _ _ r1⟩
theorem de_lst (h : PDA g X es mr) : PDE g X (.List es pos) (mLst mr) := pe_mono (pe_lst h) fun σ H Q h => by
  obtain ⟨F, δ, n, q, x, S, hm, kn, kx⟩ := h
  refine seqA S hm kx fun v d F1 H1 n1 f1 S1 kx1 r1 h1 => ?_
  obtain ⟨hz, hq⟩ := h1
  refine ⟨by rw [r1.length]; exact hz, fun p hp => ?_⟩
  have s3 : Stp F1 H1 ⟨upd F1.B p (.lst v), F1.pn⟩ (upd H1 p (.lst v)) := Stp.new S1.ex hp
  refine kn _ _ _ _ n1 (f1.trans s3.f) (s3.pen S1.pen) ?_ hq
  simp only [Rp]
  exact ⟨p, v, rfl, upd_same, Rps.mono s3.f.le _ _ r1⟩
/-! tests -/
theorem dt_val (ha : PDE g X a ma) (he : ∀ whole, isTrue a X.env whole = (do let v ← whole; standAt a.pos; holding [v] (truthy v)) := by intro _; rfl) : PDT g X a (mTr ma) := pt_mono (pt_truth ha he) fun σ H Q h => by
  obtain ⟨F, δ, n, q, x, S, hm, kn, kx⟩ := h
  refine seqE S hm kx fun v d F1 H1 n1 f1 S1 kx1 r1 h1 => ?_
  obtain ⟨k, hk, hq⟩ := h1
  exact ⟨k, tru_of S1.ex r1 hk, kn k F1 H1 n1 f1 S1.pen hq⟩
theorem dt_not (ha : PDT g X a t) : PDT g X (.UnaryOp .Not a pos) (mTNot t) := pt_mono (pt_not ha) fun σ H Q h => by
  obtain ⟨F, δ, n, q, x, S, hm, kn, kx⟩ := h
  exact seqT S hm kx fun k F1 H1 n1 f1 S1 kx1 h1 => kn _ F1 H1 n1 f1 S1.pen h1
theorem dw_and1 (ha : PDT g X a t) : PDW g X (.BoolOp .And [a] pos) t := pw_mono (pw_and1 ha) fun σ H Q h => h
theorem dw_or1 (ha : PDT g X a t) : PDW g X (.BoolOp .Or [a] pos) t := pw_mono (pw_or1 ha) fun σ H Q h => h
theorem dw_and (ha : PDT g X a t) (hb : PDW g X (.BoolOp .And (b :: rest) pos) u) : PDW g X (.BoolOp .And (a :: b :: rest) pos) (mTAnd t u) := pw_mono (pw_and ha hb) fun σ H Q h => by
  obtain ⟨F, δ, n, q, x, S, hm, kn, kx⟩ := h
  refine seqT S hm kx fun k F1 H1 n1 f1 S1 kx1 h1 => ?_
  cases k with
  | true =>
    rw [if_pos rfl] at h1
    refine iteT ?_
    exact seqT S1 h1 kx1 fun k F2 H2 n2 f2 S2 kx2 h2 => kn _ F2 H2 n2 (f1.trans f2) S2.pen h2
  | false =>
    rw [if_neg Bool.false_ne_true] at h1
    exact iteF (kn _ F1 H1 n1 f1 S1.pen h1)
theorem dw_or (ha : PDT g X a t) (hb : PDW g X (.BoolOp .Or (b :: rest) pos) u) : PDW g X (.BoolOp .Or (a :: b :: rest) pos) (mTOr t u) := pw_mono (pw_or ha hb) fun σ H Q h => by
  obtain ⟨F, δ, n, q, x, S, hm, kn, kx⟩ := h
  refine seqT S hm kx fun k F1 H1 n1 f1 S1 kx1 h1 => ?_
  cases k with
  | false =>
    rw [if_neg Bool.false_ne_true] at h1
    refine iteF ?_
    exact seqT S1 h1 kx1 fun k F2 H2 n2 f2 S2 kx2 h2 => kn _ F2 H2 n2 (f1.trans f2) S2.pen h2
  | true =>
    rw [if_pos rfl] at h1
    exact iteT (kn _ F1 H1 n1 f1 S1.pen h1)
theorem dt_w (h : PDW g X a t) : PDT g X a t := h.pt
/-! and, or, not as values -/
theorem de_one {op} (h : PDE g X a m) : PDE g X (.BoolOp op [a] pos) m := pe_one h
theorem de_and (ha : PDE g X a ma) (hb : PDE g X (.BoolOp .And (b :: rest) pos) mb) : PDE g X (.BoolOp .And (a :: b :: rest) pos) (mAnd ma mb) := pe_mono (pe_andT ha hb) fun σ H Q h => by
  obtain ⟨F, δ, n, q, x, S, hm, kn, kx⟩ := h
  refine seqE S hm kx fun v d F1 H1 n1 f1 S1 kx1 r1 h1 => ?_
  obtain ⟨k, hk, h1⟩ := h1
  refine ⟨k, tru_of S1.ex r1 hk, ?_⟩
  cases k with
  | true =>
    rw [if_pos rfl] at h1
    refine iteT ?_
    exact seqE S1 h1 kx1 fun v d F2 H2 n2 f2 S2 kx2 r2 h2 => kn _ _ F2 H2 n2 (f1.trans f2) S2.pen r2 h2
  | false =>
    rw [if_neg Bool.false_ne_true] at h1
    exact iteF (kn _ _ F1 H1 n1 f1 S1.pen r1 h1)
theorem de_or (ha : PDE g X a ma) (hb : PDE g X (.BoolOp .Or (b :: rest) pos) mb) : PDE g X (.BoolOp .Or (a :: b :: rest) pos) (mOr ma mb) := pe_mono (pe_orT ha hb) fun σ H Q h => by
  obtain ⟨F, δ, n, q, x, S, hm, kn, kx⟩ := h
  refine seqE S hm kx fun v d F1 H1 n1 f1 S1 kx1 r1 h1 => ?_
  obtain ⟨k, hk, h1⟩ := h1
  refine ⟨k, tru_of S1.ex r1 hk, ?_⟩
  cases k with
  | false =>
    rw [if_neg Bool.false_ne_true] at h1
    refine iteF ?_
    exact seqE S1 h1 kx1 fun v d F2 H2 n2 f2 S2 kx2 r2 h2 => kn _ _ F2 H2 n2 (f1.trans f2) S2.pen r2 h2
  | true =>
    rw [if_pos rfl] at h1
    exact iteT (kn _ _ F1 H1 n1 f1 S1.pen r1 h1)
theorem de_not (ha : PDE g X a ma) : PDE g X (.UnaryOp .Not a pos) (mNot ma) := pe_mono (pe_notT ha) fun σ H Q h => by
  obtain ⟨F, δ, n, q, x, S, hm, kn, kx⟩ := h
  refine seqE S hm kx fun v d F1 H1 n1 f1 S1 kx1 r1 h1 => ?_
  obtain ⟨k, hk, h1⟩ := h1
  exact ⟨k, tru_of S1.ex r1 hk, kn _ _ F1 H1 n1 f1 S1.pen (by simp only [Rp]) h1⟩
theorem de_if (hc : PDT g X c t) (ha : PDE g X a ma) (hb : PDE g X b mb) : PDE g X (.IfExp c a b pos) (mIf t ma mb) := pe_mono (pe_ifExp hc ha hb) fun σ H Q h => by
  obtain ⟨F, δ, n, q, x, S, hm, kn, kx⟩ := h
  refine seqT S hm kx fun k F1 H1 n1 f1 S1 kx1 h1 => ?_
  cases k with
  | true =>
    rw [if_pos rfl] at h1
    refine iteT ?_
    exact seqE S1 h1 kx1 fun v d F2 H2 n2 f2 S2 kx2 r2 h2 => kn _ _ F2 H2 n2 (f1.trans f2) S2.pen r2 h2
  | false =>
    rw [if_neg Bool.false_ne_true] at h1
    refine iteF ?_
    exact seqE S1 h1 kx1 fun v d F2 H2 n2 f2 S2 kx2 r2 h2 => kn _ _ F2 H2 n2 (f1.trans f2) S2.pen r2 h2
/-! calls of built-ins -/
theorem seqC {p : List D → Option D} {T : Tb} {σ : St} {H : Hp} {Q : VK} (h : upE T g (mCall p mr) σ H Q) : tCB (liftN T p) (upA T g mr) σ H Q := by
  obtain ⟨F, δ, n, q, x, S, hm, kn, kx⟩ := h
  refine seqA S hm kx fun v d F1 H1 n1 f1 S1 kx1 r1 h1 => ?_
  obtain ⟨z, hz, hq⟩ := h1
  exact ⟨F1, d, z, S1.ex, r1, hz, fun u F3 H3 s3 r3 => kn u z F3 H3 n1 (f1.trans s3.f) (s3.pen S1.pen) r3 hq⟩
theorem de_callB {x : Str} {id : String} {p : List D → Option D} {ps : Pos} (hc : CallD X (.builtin id) p) (hm : X.mg x = none) (hv : bootBuiltins x = some (.builtin id)) (ha : PDA g X (e :: es) mr) (hg : Gl X x := by rfl) (hn : x ≠ "__name__" := by decide) (hdb : (x == ("__debug__" : Str)) = false := by decide)
    (he : starEach (e :: es) X.env = (false, eval e X.env) :: starEach es X.env := by rfl) (hpl : (backTo pos (starEach es X.env)).any (·.1) = false := by rfl) : PDE g X (.Call (.Name x ps) (e :: es) [] pos) (mCall p mr) :=
  pe_mono (pe_callB hc hg hm hv ha hn hdb he hpl) fun σ H Q h => seqC h
theorem de_callTy {x : Str} {id : String} {p : List D → Option D} {ps : Pos} (hc : CallD X (.type id) p) (hm : X.mg x = none) (hv : bootBuiltins x = some (.type id)) (ha : PDA g X (e :: es) mr) (hg : Gl X x := by rfl) (hn : x ≠ "__name__" := by decide) (hdb : (x == ("__debug__" : Str)) = false := by decide)
    (he : starEach (e :: es) X.env = (false, eval e X.env) :: starEach es X.env := by rfl) (hpl : (backTo pos (starEach es X.env)).any (·.1) = false := by rfl) : PDE g X (.Call (.Name x ps) (e :: es) [] pos) (mCall p mr) :=
  pe_mono (pe_callTy hc hg hm hv ha hn hdb he hpl) fun σ H Q h => seqC h
end
end Dl

set_option Elab.async false
set_option linter.all false
set_option maxRecDepth 100000
set_option maxHeartbeats 2000000
namespace Dl
open PySem L2

/-! ### statements -/
structure DEn where
  nx : Dn → Nat → Prop
  rt : D → Nat → Prop
  bk : Dn → Nat → Prop
  ct : Dn → Nat → Prop
  rs : Str → List Str → List D → Dn → Nat → Prop
abbrev DS := DEn → Dn → Nat → Prop
structure Ks (T : Tb) (g : Gx) (F : Fz) (E : DEn) (D' : Ends) : Prop where
  nx : ∀ σ' δ' F' H' n', Le F F' → Stt T g.F0 g.H0 F' H' σ' δ' n' → E.nx δ' n' → D'.nx σ' H'
  rt : ∀ v d F' H' n', Le F F' → Fwd g.F0 g.H0 F' H' → PenOk T F' H' n' → Rp T F' d v → E.rt d n' → D'.rt v H'
  bk : ∀ σ' δ' F' H' n', Le F F' → Stt T g.F0 g.H0 F' H' σ' δ' n' → E.bk δ' n' → D'.bk σ' H'
  ct : ∀ σ' δ' F' H' n', Le F F' → Stt T g.F0 g.H0 F' H' σ' δ' n' → E.ct δ' n' → D'.ct σ' H'
  rs : ∀ σ' δ' c ns ds cls dd F' H' n', Le F F' → Stt T g.F0 g.H0 F' H' σ' δ' n' → XOk T F' H' c ns ds cls dd → E.rs c ns ds δ' n' → g.W cls dd σ' H'
theorem Ks.go {T : Tb} {g : Gx} {F F' : Fz} {E : DEn} {D' : Ends} (k : Ks T g F E D') (l : Le F F') : Ks T g F' E D' :=
  ⟨fun σ' δ' F2 H2 n2 l2 => k.nx σ' δ' F2 H2 n2 (l.trans l2), fun v d F2 H2 n2 l2 => k.rt v d F2 H2 n2 (l.trans l2), fun σ' δ' F2 H2 n2 l2 => k.bk σ' δ' F2 H2 n2 (l.trans l2),
    fun σ' δ' F2 H2 n2 l2 => k.ct σ' δ' F2 H2 n2 (l.trans l2), fun σ' δ' c ns ds cls dd F2 H2 n2 l2 => k.rs σ' δ' c ns ds cls dd F2 H2 n2 (l.trans l2)⟩
def upS (T : Tb) (g : Gx) (M : DS) : TS := fun D' σ H => ∃ F δ n E, Stt T g.F0 g.H0 F H σ δ n ∧ M E δ n ∧ Ks T g F E D'
abbrev PDS (g : Gx) (X : Cx) (st : Stmt) (M : DS) : Prop := PS X st (upS (tb X) g M)
abbrev PDSs (g : Gx) (X : Cx) (st : List Stmt) (M : DS) : Prop := PSs X st (upS (tb X) g M)
theorem ps_mono {X : Cx} {e : Stmt} {t t' : TS} (h : PS X e t) (i : ∀ D' σ H, t' D' σ H → t D' σ H) : PS X e t' := ⟨fun pins s σ H Q I q => h.run pins s σ H Q I (i Q σ H q)⟩
theorem pss_mono {X : Cx} {e : List Stmt} {t t' : TS} (h : PSs X e t) (i : ∀ D' σ H, t' D' σ H → t D' σ H) : PSs X e t' := ⟨fun pins s σ H Q I q => h.run pins s σ H Q I (i Q σ H q)⟩
/-- an expression's exceptions are the statement's -/
def xOf (r : Str → List Str → List D → Dn → Nat → Prop) (δ : Dn) : XD := fun c ns ds n => r c ns ds δ n
theorem Ks.kx {T : Tb} {g : Gx} {F : Fz} {H : Hp} {E : DEn} {D' : Ends} {σ : St} {δ : Dn} {n : Nat} (k : Ks T g F E D') (S : Stt T g.F0 g.H0 F H σ δ n) : Kx T g.W σ F H (xOf E.rs δ) :=
  fun c ns ds cls dd F' H' n' f p o q => k.rs σ δ c ns ds cls dd F' H' n' f.le (S.go f p) o q

def mNext : DS := fun E δ n => E.nx δ n
def mSeq (a b : DS) : DS := fun E δ n => a { E with nx := fun δ' n' => b E δ' n' } δ n
def mDrop (a : DE) : DS := fun E δ n => a δ n (fun _ n1 => E.nx δ n1) (xOf E.rs δ)
def mRet (a : DE) : DS := fun E δ n => a δ n E.rt (xOf E.rs δ)
def mRetN : DS := fun E _ n => E.rt .non n
def mIfS (t : DT) (a b : DS) : DS := fun E δ n => t δ n (fun k n1 => if k = true then a E δ n1 else b E δ n1) (xOf E.rs δ)
def mNever : DS := fun _ _ _ => False
def mBreak : DS := fun E δ n => E.bk δ n
def mCont : DS := fun E δ n => E.ct δ n

/-! ### targets -/
abbrev DG := D → Dn → (Dn → Prop) → Prop
abbrev DGs := List D → Dn → (Dn → Prop) → Prop
def gN (i : Nat) : DG := fun d δ R => R (δ.set i (some (.d d)))
def gT (n : Nat) (G : DGs) : DG := fun d δ R => match d with
  | .tup ds => ds.length = n ∧ G ds δ R
  | _ => False
def gsN : DGs := fun ds δ R => match ds with
  | [] => R δ
  | _ => False
def gsC (G : DG) (Gs : DGs) : DGs := fun ds δ R => match ds with
  | d :: r => G d δ fun δ' => Gs r δ' R
  | [] => False
/-- σ' is σ but for the slots gs -/
def Off (gs : List Nat) (σ σ' : St) : Prop := σ'.length = σ.length ∧ ∀ j, j ∉ gs → σ'[j]? = σ[j]?
theorem wipe_get (σ : St) : ∀ (vs : List Nat) (j : Nat), (L2.wipe σ vs)[j]? = if j ∈ vs ∧ j < σ.length then some none else σ[j]?
  | [], j => by simp [L2.wipe]
  | v :: vs, j => by
    unfold L2.wipe
    by_cases h : v = j
    · subst h
      by_cases hl : v < σ.length
      · rw [List.getElem?_set_self (by rw [L2.wipe_length]; exact hl)]
        simp [hl]
      · rw [List.getElem?_eq_none (by rw [List.length_set, L2.wipe_length]; omega), if_neg (by simp [hl]), List.getElem?_eq_none (by omega)]
    · rw [List.getElem?_set_ne h, wipe_get σ vs j]
      have : (j ∈ v :: vs ∧ j < σ.length) ↔ (j ∈ vs ∧ j < σ.length) := by
        simp only [List.mem_cons]
        constructor
        · rintro ⟨q | q, z⟩
          · exact (h q.symm).elim
          · exact ⟨q, z⟩
        · rintro ⟨q, z⟩
          exact ⟨.inr q, z⟩
      simp only [this]
theorem Off.wipe {gs vs : List Nat} {σ σ' : St} (o : Off gs σ σ') (h : ∀ j ∈ gs, j ∈ vs) : L2.wipe σ' vs = L2.wipe σ vs := by
  apply List.ext_getElem?
  intro j
  rw [wipe_get, wipe_get, o.1]
  by_cases c : j ∈ vs ∧ j < σ.length
  · rw [if_pos c, if_pos c]
  · rw [if_neg c, if_neg c]
    by_cases hj : j ∈ gs
    · have : ¬ j < σ.length := fun z => c ⟨h j hj, z⟩
      rw [List.getElem?_eq_none (by rw [o.1]; omega), List.getElem?_eq_none (by omega)]
    · exact o.2 j hj
theorem Off.refl (gs : List Nat) (σ : St) : Off gs σ σ := ⟨rfl, fun _ _ => rfl⟩
theorem Off.trans {gs hs : List Nat} {σ σ1 σ2 : St} (a : Off gs σ σ1) (b : Off hs σ1 σ2) : Off (gs ++ hs) σ σ2 := ⟨b.1.trans a.1, fun j hj => by
  simp only [List.mem_append, not_or] at hj
  rw [b.2 j hj.2, a.2 j hj.1]⟩
def upG (T : Tb) (g : Gx) (gs : List Nat) (G : DG) : TG := fun v σ H Q => ∃ F δ n d R, Stt T g.F0 g.H0 F H σ δ n ∧ Rp T F d v ∧ G d δ R ∧ ∀ σ' δ', Stt T g.F0 g.H0 F H σ' δ' n → Off gs σ σ' → R δ' → Q σ' H
def upGs (T : Tb) (g : Gx) (gs : List Nat) (G : DGs) : TGs := fun vs σ H Q => ∃ F δ n ds R, Stt T g.F0 g.H0 F H σ δ n ∧ Rps T F ds vs ∧ G ds δ R ∧ ∀ σ' δ', Stt T g.F0 g.H0 F H σ' δ' n → Off gs σ σ' → R δ' → Q σ' H
abbrev PDG (g : Gx) (X : Cx) (gs : List Nat) (tg : Expr) (G : DG) : Prop := PG X tg (upG (tb X) g gs G)
abbrev PDGs (g : Gx) (X : Cx) (gs : List Nat) (ts : List Expr) (G : DGs) : Prop := PGs X ts (upGs (tb X) g gs G)
theorem pg_mono {X : Cx} {e : Expr} {t t' : TG} (h : PG X e t) (i : ∀ v σ H Q, t' v σ H Q → t v σ H Q) : PG X e t' := ⟨fun pins s σ H v u Q I r q => h.run pins s σ H v u Q I r (i v σ H Q q)⟩
theorem pgs_mono {X : Cx} {e : List Expr} {t t' : TGs} (h : PGs X e t) (i : ∀ v σ H Q, t' v σ H Q → t v σ H Q) : PGs X e t' := ⟨fun pins s σ H v u Q I r q => h.run pins s σ H v u Q I r (i v σ H Q q)⟩
section
variable {g : Gx} {X : Cx} {pos : Pos}
theorem dg_name {i : Nat} {x : Str} (hN : X.N.Nodup) (hi : X.N[i]? = some x) (hx : Loc X.env.scope x) (hf : X.fn x = true ∨ X.env.scope.names.lookup x = some .local := by first | exact .inl rfl | exact .inr rfl | assumption) : PDG g X [i] (.Name x pos) (gN i) :=
  pg_mono (pg_name hN hi hx hf) fun v σ H Q h => by
    obtain ⟨F, δ, n, d, R, S, r, hR, k⟩ := h
    refine k _ _ (S.set r) ⟨List.length_set .., fun j hj => ?_⟩ hR
    rw [List.getElem?_set_ne (by simpa [eq_comm] using hj)]
theorem dgs_nil : PDGs g X [] [] gsN := pgs_mono pgs_nil fun v σ H Q h => by
  obtain ⟨F, δ, n, d, R, S, r, hR, k⟩ := h
  unfold gsN at hR
  split at hR
  · exact ⟨r.inv_nil, k σ δ S (Off.refl _ _) hR⟩
  · exact hR.elim
theorem dgs_cons {gs hs : List Nat} {e : Expr} {es : List Expr} {G : DG} {Gs : DGs} (h1 : PDG g X gs e G) (h2 : PDGs g X hs es Gs)
    (hs' : (assignEach (e :: es) X.env).map (·.2) = assign e X.env :: (assignEach es X.env).map (·.2) := by rfl) : PDGs g X (gs ++ hs) (e :: es) (gsC G Gs) := pgs_mono (pgs_cons h1 h2 hs') fun v σ H Q h => by
  obtain ⟨F, δ, n, ds, R, S, r, hR, k⟩ := h
  unfold gsC at hR
  split at hR
  · rename_i d dr
    obtain ⟨u, us, rfl, r1, r2⟩ := r.inv_cons
    exact ⟨u, us, rfl, F, δ, n, d, _, S, r1, hR, fun σ1 δ1 S1 o1 q1 => ⟨F, δ1, n, dr, R, S1, r2, q1, fun σ2 δ2 S2 o2 q2 => k σ2 δ2 S2 (o1.trans o2) q2⟩⟩
  · exact hR.elim
theorem dg_tup {gs : List Nat} {es : List Expr} {kk : Nat} {G : DGs} {n : Nat} (hc : X.calm = true) (h : PDGs g X gs es G)
    (hn : (assignEach es X.env).length = n := by rfl) (hst : (assignEach es X.env).findIdx? (·.1) = none := by rfl) : PDG g X gs (.Tuple es kk pos) (gT n G) := pg_mono (pg_tup hc h hn hst) fun v σ H Q h => by
  obtain ⟨F, δ, n', d, R, S, r, hR, k⟩ := h
  unfold gT at hR
  split at hR
  · rename_i ds
    obtain ⟨hl, hR⟩ := hR
    simp only [Rp] at r
    obtain ⟨a, vs, rfl, q, z⟩ := r
    exact ⟨a, vs, rfl, S.ex.sqt q, by rw [z.length]; exact hl, F, δ, n', ds, R, S, z, hR, k⟩
  · exact hR.elim
end

section
variable {g : Gx} {X : Cx} {e c : Expr} {m : DE} {t : DT} {st : Stmt} {rest a b : List Stmt} {M M' : DS} {pos : Pos}
theorem dss_nil : PDSs g X [] mNext := pss_mono pss_nil fun D' σ H h => by
  obtain ⟨F, δ, n, E, S, hm, k⟩ := h
  exact k.nx σ δ F H n (Le.refl _) S hm
theorem dss_cons (h1 : PDS g X st M) (h2 : PDSs g X rest M') : PDSs g X (st :: rest) (mSeq M M') := pss_mono (pss_cons h1 h2) fun D' σ H h => by
  obtain ⟨F, δ, n, E, S, hm, k⟩ := h
  exact ⟨F, δ, n, _, S, hm, fun σ' δ' F' H' n' l S' q => ⟨F', δ', n', E, S', q, k.go l⟩, k.rt, k.bk, k.ct, k.rs⟩
theorem dss_one (h1 : PDS g X st M) : PDSs g X [st] M := pss_one h1
theorem ds_pass : PDS g X (.Pass pos) mNext := ps_mono ps_pass fun D' σ H h => by
  obtain ⟨F, δ, n, E, S, hm, k⟩ := h
  exact k.nx σ δ F H n (Le.refl _) S hm
theorem ds_break : PDS g X (.Break pos) mBreak := ps_mono ps_break fun D' σ H h => by
  obtain ⟨F, δ, n, E, S, hm, k⟩ := h
  exact k.bk σ δ F H n (Le.refl _) S hm
theorem ds_continue : PDS g X (.Continue pos) mCont := ps_mono ps_continue fun D' σ H h => by
  obtain ⟨F, δ, n, E, S, hm, k⟩ := h
  exact k.ct σ δ F H n (Le.refl _) S hm
theorem ds_never : PDS g X st mNever := ps_mono ps_never fun D' σ H h => by
  obtain ⟨F, δ, n, E, S, hm, k⟩ := h
  exact hm
theorem dss_never : PDSs g X rest mNever := pss_mono pss_never fun D' σ H h => by
  obtain ⟨F, δ, n, E, S, hm, k⟩ := h
  exact hm
theorem ds_expr (he : PDE g X e m) (hs : swapsWith e none pos.line X.env = pure false := by rfl) : PDS g X (.Expr e pos) (mDrop m) := ps_mono (ps_expr he hs) fun D' σ H h => by
  obtain ⟨F, δ, n, E, S, hm, k⟩ := h
  exact seqE S hm (k.kx S) fun v d F1 H1 n1 f1 S1 kx1 r1 h1 => k.nx σ δ F1 H1 n1 f1.le S1 h1
theorem ds_ret (he : PDE g X e m) : PDS g X (.Return (some e) pos) (mRet m) := ps_mono (ps_ret he) fun D' σ H h => by
  obtain ⟨F, δ, n, E, S, hm, k⟩ := h
  exact seqE S hm (k.kx S) fun v d F1 H1 n1 f1 S1 kx1 r1 h1 => k.rt v d F1 H1 n1 f1.le S1.fwd S1.pen r1 h1
theorem ds_retN : PDS g X (.Return none pos) mRetN := ps_mono ps_retN fun D' σ H h => by
  obtain ⟨F, δ, n, E, S, hm, k⟩ := h
  exact k.rt _ .non F H n (Le.refl _) S.fwd S.pen (by simp only [Rp]) hm
theorem ds_if (hc : PDT g X c t) (ha : PDSs g X a M) (hb : PDSs g X b M') : PDS g X (.If c a b pos) (mIfS t M M') := ps_mono (ps_if hc ha hb) fun D' σ H h => by
  obtain ⟨F, δ, n, E, S, hm, k⟩ := h
  refine seqT S hm (k.kx S) fun b F1 H1 n1 f1 S1 kx1 h1 => ?_
  cases b with
  | true =>
    rw [if_pos rfl] at h1
    exact iteT ⟨F1, δ, n1, E, S1, h1, k.go f1.le⟩
  | false =>
    rw [if_neg Bool.false_ne_true] at h1
    exact iteF ⟨F1, δ, n1, E, S1, h1, k.go f1.le⟩
/-- target = e -/
def mAsg (m : DE) (G : DG) : DS := fun E δ n => m δ n (fun d n1 => G d δ fun δ' => E.nx δ' n1) (xOf E.rs δ)
theorem asg_of {T : Tb} {gs : List Nat} {G : DG} {D' : Ends} {σ : St} {H : Hp} (h : upS T g (mAsg m G) D' σ H) : tAsg (upE T g m) (upG T g gs G) D' σ H := by
  obtain ⟨F, δ, n, E, S, hm, k⟩ := h
  refine seqE S hm (k.kx S) fun v d F1 H1 n1 f1 S1 kx1 r1 h1 => ?_
  exact ⟨F1, δ, n1, d, _, S1, r1, h1, fun σ' δ' S' o q => k.nx σ' δ' F1 H1 n1 f1.le S' q⟩
theorem ds_asg {gs : List Nat} {tg : Expr} {G : DG} (he : PDE g X e m) (hg : PDG g X gs tg G) (hs : swapsWithSole [tg] e pos.line X.env = pure false := by rfl) (hw : swappedStores [tg] e X.env = pure none := by rfl)
    (h1 : (assignEach [tg] X.env).map (·.2) = [assign tg X.env] := by rfl) : PDS g X (.Assign [tg] e pos) (mAsg m G) := ps_mono (ps_asg he hg hs hw h1) fun D' σ H h => asg_of h
theorem ds_set {i : Nat} {x : Str} {pos' : Pos} (hN : X.N.Nodup) (hi : X.N[i]? = some x) (hx : Loc X.env.scope x) (he : PDE g X e m) (hs : swapsWith e (some (.Name x pos')) pos.line X.env = pure false := by rfl)
    (hf : X.fn x = true ∨ X.env.scope.names.lookup x = some .local := by first | exact .inl rfl | exact .inr rfl | assumption) : PDS g X (.Assign [.Name x pos'] e pos) (mAsg m (gN i)) := ps_mono (ps_set hN hi hx he hs hf) fun D' σ H h => by
  have q : tAsg (upE (tb X) g m) (upG (tb X) g [i] (gN i)) D' σ H := asg_of h
  obtain ⟨F, δ, n, E, S, hm, k⟩ := h
  refine seqE S hm (k.kx S) fun v d F1 H1 n1 f1 S1 kx1 r1 h1 => ?_
  exact k.nx _ _ F1 H1 n1 f1.le (S1.set r1) h1
end

/-! ### what is walked -/
abbrev DI := Dn → Nat → (List D → Nat → Prop) → XD → Prop
def WalksD (T : Tb) (J : It) (F : Fz) (ds : List D) : Prop := ∀ F' H', Le F F' → Ex F'.B H' → ∀ i : Nat, (∀ d, ds[i]? = some d → J.go i H' ∧ ∀ v H2, J.yld i H' v H2 → ∃ F2, Stp F' H' F2 H2 ∧ Rp T F2 d v) ∧ (ds.length ≤ i → J.stop i H')
def upI (T : Tb) (g : Gx) (m : DI) : TI := fun σ H R => ∃ F δ n q x, Stt T g.F0 g.H0 F H σ δ n ∧ m δ n q x ∧ (∀ J ds F' H' n', Fwd F H F' H' → PenOk T F' H' n' → WalksD T J F' ds → q ds n' → R J H') ∧ Kx T g.W σ F H x
abbrev PDI (g : Gx) (X : Cx) (tg iter : Expr) (m : DI) : Prop := PI X tg iter (upI (tb X) g m)
theorem pi_mono {X : Cx} {tg e : Expr} {t t' : TI} (h : PI X tg e t) (i : ∀ σ H Q, t' σ H Q → t σ H Q) : PI X tg e t' := ⟨fun pins s σ H Q I q => h.run pins s σ H Q I (i σ H Q q)⟩
def itemsD : D → Option (List D)
  | .tup xs => some xs
  | .lst xs => some xs
  | _ => none
def mIter (m : DE) : DI := fun δ n q x => m δ n (fun d n1 => ∃ ds, itemsD d = some ds ∧ q ds n1) x
section
variable {T : Tb} {F : Fz}
theorem walks_list {a : Addr} {vs : List V} {ds : List D} (h : SqL T.K F.B a vs) (r : Rps T F ds vs) : WalksD T (Itl T.K a) F ds := fun F' H' l e i => by
  have q : SqL T.K H' a vs := e.seq (l.B.seq h)
  refine ⟨fun d hd => ?_, fun hl => ⟨vs, q, by rw [r.length]; exact hl⟩⟩
  obtain ⟨v, hv, rv⟩ := r.get hd
  refine ⟨⟨vs, v, q, hv⟩, fun u H2 ⟨e2, hy⟩ => ?_⟩
  subst e2
  have := hy vs q
  rw [hv] at this
  cases this
  exact ⟨F', Stp.refl e, Rp.mono l _ _ rv⟩
theorem walks_tup {a : Addr} {vs : List V} {ds : List D} (h : SqT T.K F.B a vs) (r : Rps T F ds vs) : WalksD T (Itt T.K a) F ds := fun F' H' l e i => by
  have q : SqT T.K H' a vs := e.sqt (l.B.sqt h)
  refine ⟨fun d hd => ?_, fun hl => ⟨vs, q, by rw [r.length]; exact hl⟩⟩
  obtain ⟨v, hv, rv⟩ := r.get hd
  refine ⟨⟨vs, v, q, hv⟩, fun u H2 ⟨e2, hy⟩ => ?_⟩
  subst e2
  have := hy vs q
  rw [hv] at this
  cases this
  exact ⟨F', Stp.refl e, Rp.mono l _ _ rv⟩
/-- lo, lo + 1, .., k of them -/
def upFrom (lo : Int) (k : Nat) : List D := (List.range k).map fun (i : Nat) => D.int (lo + (i : Int))
theorem walks_range {lo : Int} {k : Nat} : WalksD T (Itr lo k) F (upFrom lo k) := fun F' H' l e i => by
  refine ⟨fun d hd => ?_, fun hl => by
    show k ≤ i
    simpa [upFrom] using hl⟩
  unfold upFrom at hd
  rw [List.getElem?_map] at hd
  by_cases hi : i < k
  · rw [List.getElem?_range hi] at hd
    cases hd
    refine ⟨hi, fun v H2 ⟨e2, ev⟩ => ?_⟩
    subst e2 ev
    exact ⟨F', Stp.refl e, by simp only [Rp]⟩
  · rw [List.getElem?_eq_none (by simpa using Nat.le_of_not_lt hi)] at hd
    cases hd
def zipD (xs ys : List D) : List D := List.zipWith (fun x y => D.tup [x, y]) xs ys
theorem walks_zipT {a b : Addr} {vs us : List V} {xs ys : List D} (h1 : SqT T.K F.B a vs) (r1 : Rps T F xs vs) (h2 : SqT T.K F.B b us) (r2 : Rps T F ys us) : WalksD T (RZ.ItzT T.K a b) F (zipD xs ys) := fun F' H' l e i => by
  have q1 : SqT T.K H' a vs := e.sqt (l.B.sqt h1)
  have q2 : SqT T.K H' b us := e.sqt (l.B.sqt h2)
  refine ⟨fun d hd => ?_, fun hl => ⟨vs, us, q1, q2, ?_⟩⟩
  · unfold zipD at hd
    rw [List.getElem?_zipWith] at hd
    cases hx : xs[i]? with
    | none => rw [hx] at hd; cases hd
    | some x =>
      cases hy : ys[i]? with
      | none => rw [hx, hy] at hd; cases hd
      | some y =>
        rw [hx, hy] at hd
        cases hd
        obtain ⟨v, hv, rv⟩ := r1.get hx
        obtain ⟨u, hu, ru⟩ := r2.get hy
        refine ⟨⟨vs, us, v, u, q1, q2, hv, hu⟩, fun w H2 ⟨p, v', u', e1, hp, e2, y1, y2⟩ => ?_⟩
        subst e1 e2
        have z1 := y1 vs q1
        have z2 := y2 us q2
        rw [hv] at z1
        rw [hu] at z2
        cases z1
        cases z2
        have s : Stp F' H' ⟨upd F'.B p (.tup [v, u]), F'.pn⟩ (upd H' p (.tup [v, u])) := Stp.new e hp
        refine ⟨_, s, ?_⟩
        simp only [Rp]
        exact ⟨p, [v, u], rfl, SqT.of upd_same, Rps.cons (Rp.mono (l.trans s.f.le) _ _ rv) (Rps.one (Rp.mono (l.trans s.f.le) _ _ ru))⟩
  · unfold zipD at hl
    rw [List.length_zipWith] at hl
    rw [r1.length, r2.length]
    omega
theorem walks_zipL {a b : Addr} {vs us : List V} {xs ys : List D} (h1 : SqL T.K F.B a vs) (r1 : Rps T F xs vs) (h2 : SqL T.K F.B b us) (r2 : Rps T F ys us) : WalksD T (Itz T.K a b) F (zipD xs ys) := fun F' H' l e i => by
  have q1 : SqL T.K H' a vs := e.seq (l.B.seq h1)
  have q2 : SqL T.K H' b us := e.seq (l.B.seq h2)
  refine ⟨fun d hd => ?_, fun hl => ⟨vs, us, q1, q2, ?_⟩⟩
  · unfold zipD at hd
    rw [List.getElem?_zipWith] at hd
    cases hx : xs[i]? with
    | none => rw [hx] at hd; cases hd
    | some x =>
      cases hy : ys[i]? with
      | none => rw [hx, hy] at hd; cases hd
      | some y =>
        rw [hx, hy] at hd
        cases hd
        obtain ⟨v, hv, rv⟩ := r1.get hx
        obtain ⟨u, hu, ru⟩ := r2.get hy
        refine ⟨⟨vs, us, v, u, q1, q2, hv, hu⟩, fun w H2 ⟨p, v', u', e1, hp, e2, y1, y2⟩ => ?_⟩
        subst e1 e2
        have z1 := y1 vs q1
        have z2 := y2 us q2
        rw [hv] at z1
        rw [hu] at z2
        cases z1
        cases z2
        have s : Stp F' H' ⟨upd F'.B p (.tup [v, u]), F'.pn⟩ (upd H' p (.tup [v, u])) := Stp.new e hp
        refine ⟨_, s, ?_⟩
        simp only [Rp]
        exact ⟨p, [v, u], rfl, SqT.of upd_same, Rps.cons (Rp.mono (l.trans s.f.le) _ _ rv) (Rps.one (Rp.mono (l.trans s.f.le) _ _ ru))⟩
  · unfold zipD at hl
    rw [List.length_zipWith] at hl
    rw [r1.length, r2.length]
    omega
end
section
variable {g : Gx} {X : Cx} {tg e e2 : Expr} {m : DE} {mr : DA} {pos p : Pos}
/-- a list or a tuple walked -/
theorem pi_seq {l : Expr} {tl : TE} (hl : PE X l tl) : PI X tg l (fun σ H R => tl σ H fun x H1 => ∃ a, x = .ref a ∧ (((∃ xs, SqL X.K H1 a xs) ∧ R (Itl X.K a) H1) ∨ ((∃ xs, SqT X.K H1 a xs) ∧ R (Itt X.K a) H1))) := by
  refine ⟨fun pins s σ H R I h => ?_⟩
  refine thn (hl.run pins s σ H _ I h) fun v s1 ⟨x, H1, I1, r1, q1⟩ => ?_
  obtain ⟨a, e, q1⟩ := q1
  subst e
  cases r1
  rcases q1 with ⟨⟨xs, hq⟩, q⟩ | ⟨⟨xs, hq⟩, q⟩
  · obtain ⟨its, rv, p, hz⟩ := I1.list hq
    refine PySem.wpAny_pyIter_list p.isList ?_
    refine ⟨s1.heap.objs.size, [s1.heap.objs.size], _, _, H1, rfl, I1.kept (t' := s1.toks) fun b o e => Heap.get?_push_of_some _ e, turn_list a _, ⟨_, Heap.get?_push_size _ rfl, rfl, rfl⟩, fun b hb => ?_, q⟩
    have e : b = s1.heap.objs.size := by simpa using hb
    subst e
    exact I1.fpOk (Nat.le_refl _) (I1.hok.fresh (Nat.le_refl _))
  · obtain ⟨its, rv, p, hz⟩ := I1.tuple hq
    refine PySem.wpAny_pyIter_tuple (show s1.heap.IsTuple a its.toArray from p) ?_
    refine ⟨s1.heap.objs.size, [s1.heap.objs.size], _, _, H1, rfl, I1.kept (t' := s1.toks) fun b o e => Heap.get?_push_of_some _ e, turn_tuple a _, ⟨_, Heap.get?_push_size _ rfl, rfl, rfl⟩, fun b hb => ?_, q⟩
    have e : b = s1.heap.objs.size := by simpa using hb
    subst e
    exact I1.fpOk (Nat.le_refl _) (I1.hok.fresh (Nat.le_refl _))
theorem di_seq (h : PDE g X e m) : PDI g X tg e (mIter m) := pi_mono (pi_seq h) fun σ H R h => by
  obtain ⟨F, δ, n, q, x, S, hm, kn, kx⟩ := h
  refine seqE S hm kx fun v d F1 H1 n1 f1 S1 kx1 r1 h1 => ?_
  obtain ⟨ds, hd, hq⟩ := h1
  cases d with
  | tup xs =>
    simp only [itemsD, Option.some.injEq] at hd
    subst hd
    simp only [Rp] at r1
    obtain ⟨a, vs, rfl, qa, z⟩ := r1
    exact ⟨a, rfl, .inr ⟨⟨vs, S1.ex.sqt qa⟩, kn _ _ F1 H1 n1 f1 S1.pen (walks_tup (T := tb X) qa z) hq⟩⟩
  | lst xs =>
    simp only [itemsD, Option.some.injEq] at hd
    subst hd
    simp only [Rp] at r1
    obtain ⟨a, vs, rfl, qa, z⟩ := r1
    exact ⟨a, rfl, .inl ⟨⟨vs, SqL.of (S1.ex _ _ qa)⟩, kn _ _ F1 H1 n1 f1 S1.pen (walks_list (T := tb X) (SqL.of qa) z) hq⟩⟩
  | _ => cases hd
def mRange1 (a : DA) : DI := fun δ n q x => a δ n (fun ds n1 => ∃ j : Int, ds = [.int j] ∧ -(2 ^ 62) ≤ j ∧ j < 2 ^ 62 ∧ q (upFrom 0 j.toNat) n1) x
def mRange2 (a : DA) : DI := fun δ n q x => a δ n (fun ds n1 => ∃ i j : Int, ds = [.int i, .int j] ∧ (-(2 ^ 62) ≤ i ∧ i < 2 ^ 62 ∧ -(2 ^ 62) ≤ j ∧ j < 2 ^ 62) ∧ q (upFrom i (j - i).toNat) n1) x
def mZip (a : DA) : DI := fun δ n q x => a δ n (fun ds n1 => ∃ xs ys, ((ds = [.tup xs, .tup ys]) ∨ ds = [.lst xs, .lst ys]) ∧ q (zipD xs ys) n1) x
theorem rps_int1 {T : Tb} {F : Fz} {vs : List V} {j : Int} (r : Rps T F [.int j] vs) : vs = [.int j] := by
  obtain ⟨v, q, rfl, r1, r2⟩ := r.inv_cons
  rw [r2.inv_nil]
  simp only [Rp] at r1
  rw [r1]
theorem rps_int2 {T : Tb} {F : Fz} {vs : List V} {i j : Int} (r : Rps T F [.int i, .int j] vs) : vs = [.int i, .int j] := by
  obtain ⟨v, q, rfl, r1, r2⟩ := r.inv_cons
  rw [rps_int1 r2]
  simp only [Rp] at r1
  rw [r1]
theorem di_range1 (hm : X.mg "range" = none) (ha : PDA g X [e] mr) (hg : Gl X "range" := by rfl) (hs : starEach [e] X.env = [(false, eval e X.env)] := by rfl) : PDI g X tg (.Call (.Name "range" p) [e] [] pos) (mRange1 mr) := pi_mono (pi_range1 hg hm ha hs) fun σ H R h => by
  obtain ⟨F, δ, n, q, x, S, hm, kn, kx⟩ := h
  refine seqA S hm kx fun v d F1 H1 n1 f1 S1 kx1 r1 h1 => ?_
  obtain ⟨j, rfl, h2, h3, hq⟩ := h1
  exact ⟨j, rps_int1 r1, h2, h3, kn _ _ F1 H1 n1 f1 S1.pen walks_range hq⟩
theorem di_range2 (hm : X.mg "range" = none) (ha : PDA g X [e, e2] mr) (hg : Gl X "range" := by rfl) (hs : starEach [e, e2] X.env = [(false, eval e X.env), (false, eval e2 X.env)] := by rfl) (hs2 : starEach [e2] X.env = [(false, eval e2 X.env)] := by rfl) : PDI g X tg (.Call (.Name "range" p) [e, e2] [] pos) (mRange2 mr) := pi_mono (pi_range2 hg hm ha hs hs2) fun σ H R h => by
  obtain ⟨F, δ, n, q, x, S, hm, kn, kx⟩ := h
  refine seqA S hm kx fun v d F1 H1 n1 f1 S1 kx1 r1 h1 => ?_
  obtain ⟨i, j, rfl, h2, hq⟩ := h1
  exact ⟨i, j, rps_int2 r1, h2, kn _ _ F1 H1 n1 f1 S1.pen walks_range hq⟩
theorem di_zip {elts : List Expr} {kk : Nat} {tpos : Pos} (hm : X.mg "zip" = none) (ha : PDA g X [e, e2] mr) (hg : Gl X "zip" := by rfl)
    (hs : starEach [e, e2] X.env = (false, eval e X.env) :: starEach [e2] X.env := by rfl) (hpl : (backTo pos (starEach [e2] X.env)).any (·.1) = false := by rfl) : PDI g X (.Tuple elts kk tpos) (.Call (.Name "zip" p) [e, e2] [] pos) (mZip mr) := pi_mono (RZ.pi_zipA hg hm ha hs hpl) fun σ H R h => by
  obtain ⟨F, δ, n, q, x, S, hm, kn, kx⟩ := h
  refine seqA S hm kx fun v d F1 H1 n1 f1 S1 kx1 r1 h1 => ?_
  obtain ⟨xs, ys, hd, hq⟩ := h1
  rcases hd with rfl | rfl
  · obtain ⟨v1, q1, rfl, r2, r3⟩ := r1.inv_cons
    obtain ⟨v2, q2, rfl, r4, r5⟩ := r3.inv_cons
    rw [r5.inv_nil]
    simp only [Rp] at r2 r4
    obtain ⟨a, vs, rfl, qa, za⟩ := r2
    obtain ⟨b, us, rfl, qb, zb⟩ := r4
    exact ⟨a, b, vs, us, rfl, .inr ⟨S1.ex.sqt qa, S1.ex.sqt qb, kn _ _ F1 H1 n1 f1 S1.pen (walks_zipT (T := tb X) qa za qb zb) hq⟩⟩
  · obtain ⟨v1, q1, rfl, r2, r3⟩ := r1.inv_cons
    obtain ⟨v2, q2, rfl, r4, r5⟩ := r3.inv_cons
    rw [r5.inv_nil]
    simp only [Rp] at r2 r4
    obtain ⟨a, vs, rfl, qa, za⟩ := r2
    obtain ⟨b, us, rfl, qb, zb⟩ := r4
    exact ⟨a, b, vs, us, rfl, .inl ⟨SqL.of (S1.ex _ _ qa), SqL.of (S1.ex _ _ qb), kn _ _ F1 H1 n1 f1 S1.pen (walks_zipL (T := tb X) (SqL.of qa) za (SqL.of qb) zb) hq⟩⟩
end

/-! ### for -/
def forL (G : DG) (b : DS) (E : DEn) : List D → Dn → Nat → Prop
  | [], δ, n => E.nx δ n
  | d :: ds, δ, n => G d δ fun δ' => b { nx := forL G b E ds, rt := E.rt, bk := E.nx, ct := forL G b E ds, rs := E.rs } δ' n
def mFor (mi : DI) (G : DG) (b : DS) : DS := fun E δ n => mi δ n (fun ds n1 => forL G b E ds δ n1) (xOf E.rs δ)
section
variable {g : Gx} {X : Cx} {tg iter : Expr} {body : List Stmt} {mi : DI} {G : DG} {M : DS} {pos : Pos} {gs : List Nat}
theorem ds_for (hp : PassesOwn (model X.prog X.w) X.A X.env X.xe) (hc : X.calm = true) (hi : PDI g X tg iter mi) (hg : PDG g X gs tg G) (hb : PDSs g X body M)
    (hs : ∀ x, foldedSetIterable iter X.env x = pure x := by intro _; rfl) : PDS g X (.For tg iter body [] pos) (mFor mi G M) := ps_mono (ps_for hp hc hi hg hb hs) fun D' σ H h => by
  obtain ⟨F, δ, n, E, S, hm, k⟩ := h
  refine ⟨F, δ, n, _, _, S, hm, fun J ds F1 H1 n1 f1 p1 wk hq => ?_, k.kx S⟩
  have S1 := S.go f1 p1
  refine ⟨fun i m σ H => m = ds.length - i ∧ i ≤ ds.length ∧ ∃ F2 δ2 n2, Le F1 F2 ∧ Stt (tb X) g.F0 g.H0 F2 H σ δ2 n2 ∧ forL G M E (ds.drop i) δ2 n2, ⟨ds.length, by omega, Nat.zero_le _, F1, δ, n1, Le.refl _, S1, hq⟩, ?_⟩
  rintro i m σ2 H2 ⟨rfl, hi, F2, δ2, n2, l2, S2, q2⟩
  obtain ⟨w1, w2⟩ := wk F2 H2 l2 S2.ex i
  by_cases hlt : i < ds.length
  · have hd : ds[i]? = some ds[i] := List.getElem?_eq_getElem hlt
    obtain ⟨hgo, hy⟩ := w1 _ hd
    refine .inr ⟨hgo, fun σ' H' => ∃ F3 δ3 n3, Le F1 F3 ∧ Stt (tb X) g.F0 g.H0 F3 H' σ' δ3 n3 ∧ forL G M E (ds.drop (i + 1)) δ3 n3, fun σ' H' ⟨F3, δ3, n3, l3, S3, q3⟩ => ⟨ds.length - (i + 1), by omega, rfl, hlt, F3, δ3, n3, l3, S3, q3⟩, fun v H3 yv => ?_⟩
    obtain ⟨F3, s3, r3⟩ := hy v H3 yv
    have S3 := S2.go s3.f (s3.pen S2.pen)
    rw [List.drop_eq_getElem_cons hlt] at q2
    have q2 : G ds[i] δ2 fun δ' => M { nx := forL G M E (ds.drop (i + 1)), rt := E.rt, bk := E.nx, ct := forL G M E (ds.drop (i + 1)), rs := E.rs } δ' n2 := q2
    refine ⟨F3, δ2, n2, ds[i], _, S3, r3, q2, fun σ4 δ4 S4 o4 q4 => ?_⟩
    have l3 : Le F1 F3 := l2.trans s3.f.le
    have k3 := k.go (f1.le.trans l3)
    exact ⟨F3, δ4, n2, _, S4, q4, fun σ5 δ5 F5 H5 n5 l5 S5 q5 => ⟨F5, δ5, n5, l3.trans l5, S5, q5⟩, k3.rt, k3.nx, fun σ5 δ5 F5 H5 n5 l5 S5 q5 => ⟨F5, δ5, n5, l3.trans l5, S5, q5⟩, k3.rs⟩
  · have e : i = ds.length := by omega
    refine .inl ⟨w2 (by omega), ?_⟩
    rw [e, List.drop_length] at q2
    exact k.nx _ _ F2 H2 n2 (f1.le.trans l2) S2 q2
end
end Dl

set_option Elab.async false
set_option linter.all false
set_option maxRecDepth 100000
set_option maxHeartbeats 2000000
namespace Dl
open PySem L2

/-! ### list comprehensions -/
abbrev Gx.blk (g : Gx) : Gx := { g with W := fun _ _ _ _ => False }
abbrev X0 : XD := fun _ _ _ _ => False
def lcL (G : DG) (mt : DT) (me : DE) (δ0 : Dn) (k : List D → Nat → Prop) : List D → List D → Nat → Prop
  | [], acc, n => k acc n
  | d :: ds, acc, n => G d δ0 fun δ' => mt δ' n (fun b n1 => if b = true then me δ' n1 (fun y n2 => acc.length < sizeLine ∧ lcL G mt me δ0 k ds (acc ++ [y]) n2) X0 else lcL G mt me δ0 k ds acc n1) X0
def mLc (mi : DI) (G : DG) (mt : DT) (me : DE) (vs : List Nat) : DE := fun δ n q x => mi δ n (fun ds n1 => lcL G mt me (wipeD δ vs) (fun acc n2 => q (.lst acc) n2) ds [] n1) x
def mYes : DT := fun _ n q _ => q true n
abbrev PDTs (g : Gx) (X : Cx) (ifs : List Expr) (m : DT) : Prop := PTs X ifs (upT (tb X) g m)
theorem pts_mono {X : Cx} {e : List Expr} {t t' : TT} (h : PTs X e t) (i : ∀ σ H Q, t' σ H Q → t σ H Q) : PTs X e t' := ⟨fun pins s σ H Q I q => h.run pins s σ H Q I (i σ H Q q)⟩
theorem dts_nil {g : Gx} {X : Cx} : PDTs g X [] mYes := pts_mono pts_nil fun σ H Q h => by
  obtain ⟨F, δ, n, q, x, S, hm, kn, kx⟩ := h
  exact kn true F H n (Fwd.refl S.ex) S.pen hm
theorem dts_one {g : Gx} {X : Cx} {c : Expr} {t : DT} (h : PDT g X c t) : PDTs g X [c] t := pts_one h
theorem Kx.none {T : Tb} {σ : St} {F : Fz} {H : Hp} {W : WX} : Kx T W σ F H X0 := fun _ _ _ _ _ _ _ _ _ _ _ q => q.elim
section
variable {g : Gx} {X : Cx} {elt tg iter : Expr} {ifs : List Expr} {scope : Scope} {own : List (Str × Nat)} {pos : Pos} {mi : DI} {G : DG} {mt : DT} {me : DE} {gs : List Nat}
theorem lc_of {T : Tb} {vs : List Nat} {σ : St} {H : Hp} {Q : VK} (sub : ∀ j ∈ gs, j ∈ vs) (h : upE T g (mLc mi G mt me vs) σ H Q) : tLc (upI T g mi) (upG T g.blk gs G) (upT T g.blk mt) (upE T g.blk me) vs σ H Q := by
  obtain ⟨F, δ, n, q, x, S, hm, kn, kx⟩ := h
  refine ⟨F, δ, n, _, _, S, hm, fun J ds F1 H1 n1 f1 p1 wk hq p hp => ?_, kx⟩
  have S1 := S.go f1 p1
  have hBp : F1.B p = none := by
    cases e : F1.B p with
    | none => rfl
    | some o => rw [S1.ex _ _ e] at hp; cases hp
  have hpp : F1.pn ≠ some p := fun e => by
    obtain ⟨_, c, k, g', xs, h2, _⟩ := p1 p e
    rw [h2] at hp; cases hp
  refine ⟨fun i m H => m = ds.length - i ∧ i ≤ ds.length ∧ ∃ F2 n2 acc us, Fwd F1 H1 F2 H ∧ PenOk T F2 H n2 ∧ H p = some (.lst us) ∧ F2.B p = none ∧ F2.pn ≠ some p ∧ Rps T F2 acc us ∧ lcL G mt me (wipeD δ vs) (fun acc n2 => q (.lst acc) n2) (ds.drop i) acc n2,
    ⟨ds.length, by omega, Nat.zero_le _, F1, n1, [], [], ⟨Le.refl _, fun a o e => ?_, fun a o e _ => ?_, fun a e => ?_, fun a e1 e2 => (e2 e1).elim, fun r e1 e2 => by rw [e1] at e2; cases e2⟩, fun r hr => ?_, upd_same, hBp, hpp, Rps.nil, hq⟩, ?_⟩
  · rw [upd_ne (ne_of_none (S1.ex _ _ e) hp)]
    exact S1.ex _ _ e
  · rw [upd_ne (ne_of_none e hp)]
    exact e
  · by_cases ha : a = p
    · subst ha; rw [upd_same] at e; cases e
    · rw [upd_ne ha] at e; exact e
  · obtain ⟨h1, c, k, g', xs, h2, h3⟩ := p1 r hr
    exact ⟨h1, c, k, g', xs, by rw [upd_ne (ne_of_none h2 hp)]; exact h2, h3⟩
  rintro i m H2 ⟨rfl, hi, F2, n2, acc, us, f2, p2, hp2, hB2, hn2, ra, q2⟩
  obtain ⟨w1, w2⟩ := wk F2 H2 f2.le f2.ex i
  by_cases hlt : i < ds.length
  · have hd : ds[i]? = some ds[i] := List.getElem?_eq_getElem hlt
    obtain ⟨hgo, hy⟩ := w1 _ hd
    refine .inr ⟨hgo, fun H' => ∃ F3 n3 acc us, Fwd F1 H1 F3 H' ∧ PenOk T F3 H' n3 ∧ H' p = some (.lst us) ∧ F3.B p = none ∧ F3.pn ≠ some p ∧ Rps T F3 acc us ∧ lcL G mt me (wipeD δ vs) (fun acc n2 => q (.lst acc) n2) (ds.drop (i + 1)) acc n3,
      fun H' z => ⟨ds.length - (i + 1), by omega, rfl, hlt, z⟩, fun v H3 yv => ?_⟩
    obtain ⟨F3, s3, r3⟩ := hy v H3 yv
    rw [List.drop_eq_getElem_cons hlt] at q2
    have q2 : G ds[i] (wipeD δ vs) fun δ' => mt δ' n2 (fun b n1 => if b = true then me δ' n1 (fun y n2 => acc.length < sizeLine ∧ lcL G mt me (wipeD δ vs) (fun acc n2 => q (.lst acc) n2) (ds.drop (i + 1)) (acc ++ [y]) n2) X0 else lcL G mt me (wipeD δ vs) (fun acc n2 => q (.lst acc) n2) (ds.drop (i + 1)) acc n1) X0 := q2
    have f3 := f2.trans s3.f
    have p3 := s3.pen p2
    have S3 := (S1.wipe vs).go f3 p3
    -- what stays of the new list
    have stay : ∀ {Fa Fb : Fz} {Ha Hb : Hp}, Fwd Fa Ha Fb Hb → Ha p = some (.lst us) → Fa.B p = none → Fa.pn ≠ some p → Hb p = some (.lst us) ∧ Fb.B p = none ∧ Fb.pn ≠ some p := fun {Fa Fb Ha Hb} f h1 h2 h3 => by
      refine ⟨f.keep _ _ h1 h3, ?_, fun z => ?_⟩
      · cases e : Fb.B p with
        | none => rfl
        | some o =>
          have := f.new p h2 (by rw [e]; exact fun z => nomatch z)
          rw [this] at h1; cases h1
      · cases e : Fa.pn with
        | none =>
          have := f.pnew p z e
          rw [this] at h1; cases h1
        | some r =>
          have := f.le.pn r e
          rw [z] at this
          cases this
          exact h3 e
    obtain ⟨hp3, hB3, hn3⟩ := stay s3.f hp2 hB2 hn2
    refine ⟨F3, wipeD δ vs, n2, ds[i], _, S3, r3, q2, fun σ4 δ4 S4 o4 q4 => ⟨o4.wipe sub |>.trans ?_, ?_⟩⟩
    · exact Off.wipe (gs := vs) ⟨L2.wipe_length _ _, fun j hj => by rw [wipe_get, if_neg (fun z => hj z.1)]⟩ fun _ h => h
    · refine seqT (x := X0) S4 q4 Kx.none fun b F5 H5 n5 f5 S5 kx5 h5 => ?_
      obtain ⟨hp5, hB5, hn5⟩ := stay f5 hp3 hB3 hn3
      cases b with
      | false =>
        rw [if_neg Bool.false_ne_true] at h5
        exact iteF ⟨F5, n5, acc, us, f3.trans f5, S5.pen, hp5, hB5, hn5, Rps.mono (s3.f.le.trans f5.le) _ _ ra, h5⟩
      | true =>
        rw [if_pos rfl] at h5
        refine iteT (seqE (x := X0) S5 h5 Kx.none fun y d6 F6 H6 n6 f6 S6 kx6 r6 h6 => ?_)
        obtain ⟨hp6, hB6, hn6⟩ := stay f6 hp5 hB5 hn5
        obtain ⟨hz, h6⟩ := h6
        have f16 : Fwd F1 H1 F6 H6 := (f3.trans f5).trans f6
        have ra6 : Rps T F6 acc us := Rps.mono ((s3.f.le.trans f5.le).trans f6.le) _ _ ra
        refine ⟨us, hp6, by rw [ra6.length]; exact hz, F6, n6, acc ++ [d6], us ++ [y], ⟨f16.le, fun a o e => ?_, fun a o e hn => ?_, fun a e => ?_, f16.new, f16.pnew⟩, fun r hr => ?_, upd_same, hB6, hn6, ra6.append (Rps.one r6), h6⟩
        · have ha : a ≠ p := fun z => by rw [z, hB6] at e; cases e
          rw [upd_ne ha]
          exact f16.ex _ _ e
        · rw [upd_ne (ne_of_none e hp)]
          exact f16.keep _ _ e hn
        · by_cases ha : a = p
          · subst ha; exact hp
          · rw [upd_ne ha] at e; exact f16.dom _ e
        · obtain ⟨h1, c, k, g', xs, h2, h3⟩ := S6.pen r hr
          have hrp : r ≠ p := fun z => hn6 (by rw [← z]; exact hr)
          exact ⟨h1, c, k, g', xs, by rw [upd_ne hrp]; exact h2, h3⟩
  · have e : i = ds.length := by omega
    refine .inl ⟨w2 (by omega), ?_⟩
    rw [e, List.drop_length] at q2
    have le : Le F2 ⟨upd F2.B p (.lst us), F2.pn⟩ := ⟨fun a o e => by
      have ha : a ≠ p := fun z => by rw [z, hB2] at e; cases e
      show upd F2.B p _ a = _
      rw [upd_ne ha]; exact e, fun _ e => e⟩
    refine kn _ (.lst acc) ⟨upd F2.B p (.lst us), F2.pn⟩ H2 n2 (f1.trans ⟨f2.le.trans le, fun a o e => ?_, f2.keep, f2.dom, fun a h1 h2 => ?_, f2.pnew⟩) (fun r hr => ?_) ?_ q2
    · have e : upd F2.B p (.lst us) a = some o := e
      by_cases ha : a = p
      · subst ha; rw [upd_same] at e; cases e; exact hp2
      · rw [upd_ne ha] at e; exact f2.ex _ _ e
    · have h2 : upd F2.B p (.lst us) a ≠ none := h2
      by_cases ha : a = p
      · subst ha; exact hp
      · rw [upd_ne ha] at h2; exact f2.new a h1 h2
    · obtain ⟨h1, c, k, g', xs, h2, h3, h4⟩ := p2 r hr
      have hrp : r ≠ p := fun z => hn2 (by rw [← z]; exact hr)
      exact ⟨by show upd F2.B p _ r = _; rw [upd_ne hrp]; exact h1, c, k, g', xs, h2, le.B.seq h3, h4⟩
    · simp only [Rp]
      exact ⟨p, us, rfl, upd_same, Rps.mono le _ _ ra⟩
theorem de_lc (hc : X.calm = true) (hN : X.N.Nodup) (ok : BlkOk X.N X.env.scope scope own) (sub : ∀ j ∈ gs, j ∈ own.map (·.2)) (hi : PDI g X tg iter mi)
    (hg : ∀ (s : Shared) (H : Hp) (C : Addr) (cl : List (Str × Addr)) (fp : List Addr), PDG g.blk (X.blk s H scope (compEnvC scope cl C X.env) fp) gs tg G) (ht : ∀ (s : Shared) (H : Hp) (C : Addr) (cl : List (Str × Addr)) (fp : List Addr), PDTs g.blk (X.blk s H scope (compEnvC scope cl C X.env) fp) ifs mt)
    (he : ∀ (s : Shared) (H : Hp) (C : Addr) (cl : List (Str × Addr)) (fp : List Addr), PDE g.blk (X.blk s H scope (compEnvC scope cl C X.env) fp) elt me) (hs : ∀ x, foldedSetIterable iter X.env x = pure x := by intro _; rfl) :
    PDE g X (.ListComp elt [⟨tg, iter, ifs, 0⟩] scope pos) (mLc mi G mt me (own.map (·.2))) :=
  pe_mono (pe_lc hc hN hi ok hg ht he hs) fun σ H Q h => lc_of sub h
/-- name = [..] on one line, the name a local -/
theorem ds_setLc {i : Nat} {y : Str} {py spos : Pos} (hc : X.calm = true) (hN : X.N.Nodup) (hy : X.N[i]? = some y) (hyl : X.env.scope.names.lookup y = some .local)
    (hsw : swapsWith (.ListComp elt [⟨tg, iter, ifs, 0⟩] scope pos) (some (.Name y py)) spos.line X.env = pure true) (ok : BlkOk X.N X.env.scope scope own) (sub : ∀ j ∈ gs, j ∈ own.map (·.2)) (hi : PDI g X tg iter mi)
    (hg : ∀ (s : Shared) (H : Hp) (C : Addr) (cl : List (Str × Addr)) (fp : List Addr), PDG g.blk (X.blk s H scope (compEnvC scope cl C X.env) fp) gs tg G) (ht : ∀ (s : Shared) (H : Hp) (C : Addr) (cl : List (Str × Addr)) (fp : List Addr), PDTs g.blk (X.blk s H scope (compEnvC scope cl C X.env) fp) ifs mt)
    (he : ∀ (s : Shared) (H : Hp) (C : Addr) (cl : List (Str × Addr)) (fp : List Addr), PDE g.blk (X.blk s H scope (compEnvC scope cl C X.env) fp) elt me) (hs : ∀ x, foldedSetIterable iter X.env x = pure x := by intro _; rfl) :
    PDS g X (.Assign [.Name y py] (.ListComp elt [⟨tg, iter, ifs, 0⟩] scope pos) spos) (mAsg (mLc mi G mt me (own.map (·.2))) (gN i)) :=
  ps_mono (ps_setLc hc hN hy hyl hsw hi ok hg ht he hs) fun D' σ H h => by
    obtain ⟨F, δ, n, E, S, hm, k⟩ := h
    exact lc_of sub (seqE S hm (k.kx S) fun v d F1 H1 n1 f1 S1 kx1 r1 h1 => k.nx _ _ F1 H1 n1 f1.le (S1.set r1) h1)
end

/-! ### while -/
def whN (t : DT) (b : DS) (E : DEn) : Nat → Dn → Nat → Prop
  | 0, _, _ => False
  | k + 1, δ, n => t δ n (fun c n1 => if c = true then b { nx := whN t b E k, rt := E.rt, bk := E.nx, ct := whN t b E k, rs := E.rs } δ n1 else E.nx δ n1) (xOf E.rs δ)
def mWhile (t : DT) (b : DS) : DS := fun E δ n => ∃ k, whN t b E k δ n
theorem ds_while {g : Gx} {X : Cx} {c : Expr} {body : List Stmt} {t : DT} {M : DS} {pos : Pos} (hp : PassesOwn (model X.prog X.w) X.A X.env X.xe) (hc : PDT g X c t) (hb : PDSs g X body M) : PDS g X (.While c body [] pos) (mWhile t M) := ps_mono (ps_while hp hc hb) fun D' σ H h => by
  obtain ⟨F, δ, n, E, S, ⟨k0, hm⟩, k⟩ := h
  refine ⟨fun m σ H => ∃ F2 δ2 n2, Le F F2 ∧ Stt (tb X) g.F0 g.H0 F2 H σ δ2 n2 ∧ whN t M E m δ2 n2, ⟨k0, F, δ, n, Le.refl _, S, hm⟩, ?_⟩
  rintro m σ2 H2 ⟨F2, δ2, n2, l2, S2, q2⟩
  cases m with
  | zero => exact q2.elim
  | succ m =>
    refine seqT S2 q2 ((k.go l2).kx S2) fun b F3 H3 n3 f3 S3 kx3 h3 => ?_
    have k3 := k.go (l2.trans f3.le)
    cases b with
    | false =>
      rw [if_neg Bool.false_ne_true] at h3
      exact iteF (k3.nx _ _ F3 H3 n3 (Le.refl _) S3 h3)
    | true =>
      rw [if_pos rfl] at h3
      refine iteT ⟨fun σ' H' => ∃ F2 δ2 n2, Le F F2 ∧ Stt (tb X) g.F0 g.H0 F2 H' σ' δ2 n2 ∧ whN t M E m δ2 n2, fun σ' H' z => ⟨m, Nat.lt_succ_self _, z⟩, F3, δ2, n3, _, S3, h3, ?_⟩
      exact ⟨fun σ5 δ5 F5 H5 n5 l5 S5 q5 => ⟨F5, δ5, n5, (l2.trans f3.le).trans l5, S5, q5⟩, k3.rt, k3.nx, fun σ5 δ5 F5 H5 n5 l5 S5 q5 => ⟨F5, δ5, n5, (l2.trans f3.le).trans l5, S5, q5⟩, k3.rs⟩

/-! ### defs -/
abbrev SpD := List D → Nat → (D → Nat → Prop) → XD → Prop
def upF (T : Tb) (sp : SpD) : Sp := fun vs H Q E => ∃ F ds n q x, Ex F.B H ∧ PenOk T F H n ∧ Rps T F ds vs ∧ sp ds n q x ∧ (∀ v d F' H' n', Fwd F H F' H' → PenOk T F' H' n' → Rp T F' d v → q d n' → Q v H') ∧
  (∀ c ns ds cls dd F' H' n', Fwd F H F' H' → PenOk T F' H' n' → XOk T F' H' c ns ds cls dd → x c ns ds n' → E cls dd H')
abbrev FnD (P : Program) (w : World) (K : PySem.W.Frag) (mg : Str → Option Value) (base : Heap) (k : Nat) (f : Addr) (fd : FuncData) (ps : List Str) (sp : SpD) : Prop := FnOk P w K mg base (L2.CX P w) k f fd ps (upF ⟨K, mg⟩ sp)
theorem FnD.imp {P : Program} {w : World} {K : PySem.W.Frag} {mg : Str → Option Value} {base : Heap} {k : Nat} {f : Addr} {fd : FuncData} {ps : List Str} {sp sp' : SpD} (h : FnD P w K mg base k f fd ps sp) (i : ∀ ds n q x, sp' ds n q x → sp ds n q x) : FnD P w K mg base k f fd ps sp' :=
  FnOk.imp h fun vs H Q E ⟨F, ds, n, q, x, a, b, c, d, e⟩ => ⟨F, ds, n, q, x, a, b, c, i _ _ _ _ d, e⟩
def startD (k : Nat) (ds : List D) : Dn := ds.map (fun d => some (Sl.d d)) ++ List.replicate (k - ds.length) none
theorem stt_start {T : Tb} {F : Fz} {H : Hp} {N : List Str} {ds : List D} {vs : List V} {n : Nat} (e : Ex F.B H) (p : PenOk T F H n) (r : Rps T F ds vs) : Stt T F H F H (L2.start N vs) (startD N.length ds) n where
  fwd := Fwd.refl e
  pen := p
  len := by simp [L2.start, startD, r.length]
  sl := fun i s h => by
    unfold startD at h
    unfold L2.start
    by_cases hi : i < ds.length
    · rw [List.getElem?_append_left (by simpa using hi), List.getElem?_map, List.getElem?_eq_getElem hi] at h
      cases h
      obtain ⟨v, hv, rv⟩ := r.get (List.getElem?_eq_getElem hi)
      refine ⟨v, ?_, rv⟩
      rw [List.getElem?_append_left (by rw [List.length_map, r.length]; exact hi), List.getElem?_map, hv]
      rfl
    · rw [List.getElem?_append_right (by simpa using Nat.le_of_not_lt hi)] at h
      have := List.getElem?_replicate (n := N.length - ds.length) (a := (none : Option Sl)) (i := i - (ds.map (fun d => some (Sl.d d))).length)
      rw [this] at h
      split at h <;> cases h
  sep := fun i j q x y h1 => by
    unfold startD at h1
    by_cases hi : i < ds.length
    · rw [List.getElem?_append_left (by simpa using hi), List.getElem?_map, List.getElem?_eq_getElem hi] at h1
      cases h1
    · rw [List.getElem?_append_right (by simpa using Nat.le_of_not_lt hi)] at h1
      have := List.getElem?_replicate (n := N.length - ds.length) (a := (none : Option Sl)) (i := i - (ds.map (fun d => some (Sl.d d))).length)
      rw [this] at h1
      split at h1 <;> cases h1
def enD (q : D → Nat → Prop) (x : XD) : DEn := { nx := fun _ n => q .non n, rt := q, bk := fun _ _ => False, ct := fun _ _ => False, rs := fun c ns ds _ n => x c ns ds n }
abbrev cxD (P : Program) (w : World) (K : PySem.W.Frag) (mg : Str → Option Value) (base : Heap) (N : List Str) (qual : Str) (st : Stmt) (f : Addr) (cdv : Value) (A : Around) (outer : List Env) (s : Shared) (H : Hp) (E : XK) : Cx :=
  cxOf (L2.CX P w) P w K mg base N qual (defScope st) f cdv A outer s H E
/-- THE RULE for a def over data -/
theorem fnD {P : Program} {w : World} {K : PySem.W.Frag} {mg : Str → Option Value} {base : Heap} {x qual : Str} {st : Stmt} {f : Addr} {fd : FuncData} {N ps : List Str} {k : Nat} {sp : SpD} (F : Fun K x qual st f fd) (S : FnScope N ps (defScope st))
    (len : ∀ ds n q x, sp ds n q x → ds.length = ps.length)
    (hbody : ∀ (cdv : Value) (A : Around) (outer : List Env) (s : Shared) (H : Hp) (E : XK) (g : Gx), Room k (A.deeper (PyProof.Rows.envOfC qual (defScope st) s.heap.objs.size f cdv)) → Takes (cxD P w K mg base N qual st f cdv A outer s H E) g.W →
      PassesOwn (model P w) (cxD P w K mg base N qual st f cdv A outer s H E).A (cxD P w K mg base N qual st f cdv A outer s H E).env (cxD P w K mg base N qual st f cdv A outer s H E).xe →
      ∃ M, PDSs g (cxD P w K mg base N qual st f cdv A outer s H E) (defBody st) M ∧ ∀ ds n q x, sp ds n q x → M (enD q x) (startD N.length ds) n) : FnD P w K mg base (k + 1) f fd ps sp := by
  refine F.okX S (fun vs H Q E h => ?_) (fun cdv A outer s H vs Q E hr h => ?_)
  · obtain ⟨F, ds, n, q, x, _, _, r, hs, _⟩ := h
    rw [r.length]
    exact len _ _ _ _ hs
  · obtain ⟨F, ds, n, q, x, ex, p, r, hs, kn, kx⟩ := h
    obtain ⟨M, hM, hm⟩ := hbody cdv A outer s H E ⟨F, H, fun cls d _ H' => E cls d H'⟩ hr (takes_of rfl rfl rfl rfl) (passes_of rfl)
    refine ⟨_, hM, F, _, n, _, stt_start ex p r, hm _ _ _ _ hs, ?_⟩
    exact ⟨fun σ' δ' F' H' n' l S' e => kn _ .non F' H' n' S'.fwd S'.pen (by simp only [Rp]) e, fun v d F' H' n' l f' p' r' e => kn v d F' H' n' f' p' r' e, fun _ _ _ _ _ _ _ e => e.elim, fun _ _ _ _ _ _ _ e => e.elim,
      fun σ' δ' c ns ds cls dd F' H' n' l S' o e => kx c ns ds cls dd F' H' n' S'.fwd S'.pen o e⟩

/-! ### calls of defs -/
def mFn (sp : SpD) (a : DA) : DE := fun δ n q x => a δ n (fun ds n1 => sp ds n1 q x) x
section
variable {g : Gx} {X : Cx} {k : Nat} {f : Addr} {fd : FuncData} {ps ks : List Str} {sp : SpD} {x : Str} {p pos : Pos} {e : Expr} {es : List Expr} {kws : List Keyword} {ma mk : DA}
theorem fn_of_data {T : Tb} {σ : St} {H : Hp} {F : Fz} {δ : Dn} {n : Nat} {q : D → Nat → Prop} {x' : XD} {Q : VK} {ds : List D} {vs : List V} {E : St → XK} (hE : E = fun σ cls d H' => g.W cls d σ H') (S : Stt T g.F0 g.H0 F H σ δ n) (kx : Kx T g.W σ F H x') (r : Rps T F ds vs) (h : sp ds n q x')
    (kn : ∀ v d F' H' n', Fwd F H F' H' → PenOk T F' H' n' → Rp T F' d v → q d n' → Q v H') : upF T sp vs H Q (E σ) := by
  subst hE
  exact ⟨F, ds, n, q, x', S.ex, S.pen, r, h, kn, fun c ns ds cls dd F' H' n' f p o e => kx c ns ds cls dd F' H' n' f p o e⟩
theorem de_call (Fn : FnD X.prog X.w X.K X.mg X.base k f fd ps sp) (tk : Takes X g.W) (hr : Room k X.A) (hm : X.mg x = some (.ref f)) (hk : PySem.W.keepIn X.K (.ref f) = true) (hb : Binds X.K fd ps []) (ha : PDA g X (e :: es) ma) (hg : Gl X x := by rfl)
    (hdb : (x == ("__debug__" : Str)) = false := by decide) (he : starEach (e :: es) X.env = (false, eval e X.env) :: starEach es X.env := by rfl) (hpl : (backTo pos (starEach es X.env)).any (·.1) = false := by rfl) :
    PDE g X (.Call (.Name x p) (e :: es) [] pos) (mFn sp ma) :=
  pe_mono (pe_callSD (E := fun σ cls d H' => g.W cls d σ H') Fn hr hg hm hk hb .nil (fun σ => passAt tk σ) ha hdb he hpl) fun σ H Q h => by
    obtain ⟨F, δ, n, q, x, S, hm, kn, kx⟩ := h
    refine seqA S hm kx fun vs ds F1 H1 n1 f1 S1 kx1 r1 h1 => ?_
    rw [List.append_nil]
    exact fn_of_data (E := fun σ cls d H' => g.W cls d σ H') rfl S1 kx1 r1 h1 fun v d F' H' n' f' p' r' e => kn v d F' H' n' (f1.trans f') p' r' e
end
end Dl

set_option Elab.async false
set_option linter.all false
set_option maxRecDepth 100000
set_option maxHeartbeats 2000000
/-! A def that is called where no repr runs around it: its promise where that is known (the law's own defs, which write things by repr). -/
namespace Dl
open PySem L2

structure FnG (P : Program) (w : World) (K : PySem.W.Frag) (mg : Str → Option Value) (base : Heap) (CX : CXT) (k : Nat) (f : Addr) (fd : FuncData) (ps : List Str) (sp : Sp) : Prop where
  len : ∀ vs H Q E, sp vs H Q E → vs.length = ps.length
  run : ∀ (A : Around) (outer : List Env) (s : Shared) (H : Hp) (args : Args) (us : List Value) (vs : List V) (Q : VK) (E : XK), Room k A → A.guards = some [] → Env0 P w K mg base A outer s H → BindsTo s fd args (ps.zip us) → Vals vs us → sp vs H Q E →
    codeAny (model P w) A (.call (.ref f) args) (CR CX outer P w H s Q E) s
theorem FnG.of {P : Program} {w : World} {K : PySem.W.Frag} {mg : Str → Option Value} {base : Heap} {CX : CXT} {k : Nat} {f : Addr} {fd : FuncData} {ps : List Str} {sp : Sp} (h : FnOk P w K mg base CX k f fd ps sp) : FnG P w K mg base CX k f fd ps sp :=
  ⟨h.len, fun A outer s H args us vs Q E hr _ e b v p => h.run A outer s H args us vs Q E hr e b v p⟩
theorem FnG.mono {P : Program} {w : World} {K : PySem.W.Frag} {mg : Str → Option Value} {base : Heap} {CX : CXT} {j k : Nat} {f : Addr} {fd : FuncData} {ps : List Str} {sp : Sp} (h : FnG P w K mg base CX j f fd ps sp) (l : j ≤ k) : FnG P w K mg base CX k f fd ps sp :=
  ⟨h.len, fun A outer s H args us vs Q E hr gd e b v p => h.run A outer s H args us vs Q E (hr.mono l) gd e b v p⟩
/-- one call of a def, where it stands -/
theorem fn_at {CX : CXT} {P : Program} {w : World} {K : PySem.W.Frag} {mg : Str → Option Value} {base : Heap} {k : Nat} {f : Addr} {name qual : Str} {params : Arguments} {body : List Stmt} {scope : Scope} {dV kV doc pm cdv ct oc : Value} {an od : Option Addr}
    {osl : Array (Option Value)} {N ps : List Str} {A : Around} {outer : List Env} {s : Shared} {H : Hp} {args : Args} {us : List Value} {vs : List V} {Q : VK} {E : XK} {t : TS}
    (lk : K.lookup f = some ⟨oc, od, .func (PySem.W.fnOf name qual params body scope dV kV doc pm an cdv ct), osl⟩) (hcd : PySem.W.codeIn K cdv qual = true) (S : FnScope N ps scope)
    (hl : vs.length = ps.length) (hr : Room (k + 1) A) (e0 : Env0 P w K mg base A outer s H) (hb : BindsTo s (PySem.W.fnOf name qual params body scope dV kV doc pm an cdv ct) args (ps.zip us)) (r : Vals vs us)
    (ht : PSs (cxOf CX P w K mg base N qual scope f cdv A outer s H E) body t) (hq : t { nx := fun _ H' => Q .non H', rt := Q } (L2.start N vs) H) :
    codeAny (model P w) A (.call (.ref f) args) (CR CX outer P w H s Q E) s := by
  have up : ∀ b o, base.get? b = some o → s.heap.get? b = some o := fun b o e => (e0.bs b o e).1
  have KX : K.In s.heap := e0.mod.kin.keeps up
  have kinds : ∀ y ∈ ps.zip us, scope.names.lookup y.1 = some .local ∨ (scope.names.lookup y.1 = some .cell ∧ ((PySem.cellsFrom (s.heap.objs.size + 1) scope.names []).lookup y.1).isSome = true) := by
    rintro ⟨n, v⟩ hy
    refine (S.par n (List.of_mem_zip hy).1).imp id fun q => ⟨q, ?_⟩
    exact PySem.W.cellsFrom_some _ _ _ (.inl q)
  refine PySem.codeAny_call_function hr.depth (KX _ _ lk) rfl S.co S.gen rfl (PySem.W.codeRec_of KX hcd) (hb _ _ _ _ ?_)
  refine PySem.wpAny_newFunctionEnv_cells S.kind kinds fun env he s1 x => ?_
  subst he
  refine ⟨(e0.mod.nolimit.keeps up).keeps x.toInCall.keep, PySem.codeAny_func ?_⟩
  refine wpAny_mono (ht.run [] s1 (L2.start N vs) H _ (inv_start S hr.hd e0 hl r x) hq) (fun fl s' hs => ?_) fun e s' hs => hs
  cases fl with
  | ret u => obtain ⟨v, σ', H', J, rv, q⟩ := hs; exact ⟨v, H', J.os, J.bare, J.base, J.hok, rv, q⟩
  | next => obtain ⟨σ', H', J, q⟩ := hs; exact ⟨.non, H', J.os, J.bare, J.base, J.hok, rfl, q⟩
  | brk => obtain ⟨_, _, _, q⟩ := hs; exact q.elim
  | cont => obtain ⟨_, _, _, q⟩ := hs; exact q.elim
abbrev FnDG (P : Program) (w : World) (K : PySem.W.Frag) (mg : Str → Option Value) (base : Heap) (k : Nat) (f : Addr) (fd : FuncData) (ps : List Str) (sp : SpD) : Prop := FnG P w K mg base (L2.CX P w) k f fd ps (upF ⟨K, mg⟩ sp)
/-- THE RULE for a law's def over data -/
theorem fnDG {P : Program} {w : World} {K : PySem.W.Frag} {mg : Str → Option Value} {base : Heap} {x qual : Str} {st : Stmt} {f : Addr} {fd : FuncData} {N ps : List Str} {k : Nat} {sp : SpD} (F : Fun K x qual st f fd) (S : FnScope N ps (defScope st))
    (len : ∀ ds n q x, sp ds n q x → ds.length = ps.length)
    (hbody : ∀ (cdv : Value) (A : Around) (outer : List Env) (s : Shared) (H : Hp) (E : XK) (g : Gx), Room k (cxD P w K mg base N qual st f cdv A outer s H E).A → (cxD P w K mg base N qual st f cdv A outer s H E).A.guards = some [] → Takes (cxD P w K mg base N qual st f cdv A outer s H E) g.W →
      PassesOwn (model P w) (cxD P w K mg base N qual st f cdv A outer s H E).A (cxD P w K mg base N qual st f cdv A outer s H E).env (cxD P w K mg base N qual st f cdv A outer s H E).xe →
      ∃ M, PDSs g (cxD P w K mg base N qual st f cdv A outer s H E) (defBody st) M ∧ ∀ ds n q x, sp ds n q x → M (enD q x) (startD N.length ds) n) : FnDG P w K mg base (k + 1) f fd ps sp := by
  obtain ⟨oc, od, kV, doc, pm, an, cdv, ct, osl, rfl, lk, hcd⟩ := F.ex
  have len' : ∀ vs H Q E, upF ⟨K, mg⟩ sp vs H Q E → vs.length = ps.length := fun vs H Q E h => by
    obtain ⟨F, ds, n, q, x, _, _, r, hs, _⟩ := h
    rw [r.length]
    exact len _ _ _ _ hs
  refine ⟨len', fun A outer s H args us vs Q E hr gd e0 hb r h => ?_⟩
  have hl := len' _ _ _ _ h
  obtain ⟨F, ds, n, q, x, ex, p, rd, hs, kn, kx⟩ := h
  obtain ⟨M, hM, hm⟩ := hbody cdv A outer s H E ⟨F, H, fun cls d _ H' => E cls d H'⟩ (hr.deeper _) gd (takes_of rfl rfl rfl rfl) (passes_of rfl)
  refine fn_at lk hcd S hl hr e0 hb r hM ⟨F, _, n, _, stt_start ex p rd, hm _ _ _ _ hs, ?_⟩
  exact ⟨fun σ' δ' F' H' n' l S' e => kn _ .non F' H' n' S'.fwd S'.pen (by simp only [Rp]) e, fun v d F' H' n' l f' p' r' e => kn v d F' H' n' f' p' r' e, fun _ _ _ _ _ _ _ e => e.elim, fun _ _ _ _ _ _ _ e => e.elim,
    fun σ' δ' c ns ds cls dd F' H' n' l S' o e => kx c ns ds cls dd F' H' n' S'.fwd S'.pen o e⟩
section
variable {g : Gx} {X : Cx} {k : Nat} {f : Addr} {fd : FuncData} {ps : List Str} {sp : SpD} {x : Str} {p pos : Pos} {e : Expr} {es : List Expr} {ma : DA}
theorem de_callG (Fn : FnDG X.prog X.w X.K X.mg X.base k f fd ps sp) (gd : X.A.guards = some []) (tk : Takes X g.W) (hr : Room k X.A) (hm : X.mg x = some (.ref f)) (hk : PySem.W.keepIn X.K (.ref f) = true) (hb : Binds X.K fd ps []) (ha : PDA g X (e :: es) ma) (hg : Gl X x := by rfl)
    (hdb : (x == ("__debug__" : Str)) = false := by decide) (he : starEach (e :: es) X.env = (false, eval e X.env) :: starEach es X.env := by rfl) (hpl : (backTo pos (starEach es X.env)).any (·.1) = false := by rfl) :
    PDE g X (.Call (.Name x p) (e :: es) [] pos) (mFn sp ma) := by
  refine ⟨fun pins s σ H Q I h => ?_⟩
  refine PySem.wpAny_Call_Name_kw (ld_glob I hg hm ?_ hdb)
  have h2 : upA (tb X) g ma σ H (fun vs H1 => upF (tb X) sp vs H1 Q (fun cls d H' => g.W cls d σ H')) := by
    obtain ⟨F, δ, n, q, x, S, hm, kn, kx⟩ := h
    refine seqA S hm kx fun vs ds F1 H1 n1 f1 S1 kx1 r1 h1 => ?_
    exact fn_of_data (E := fun σ cls d H' => g.W cls d σ H') rfl S1 kx1 r1 h1 fun v d F' H' n' f' p' r' e => kn v d F' H' n' (f1.trans f') p' r' e
  refine PySem.W.callWith_K (h₀ := X.base) I.ok.mod.kin hk (thn (ha.run pos pins s σ H _ I h2) fun us s1 ⟨vs, H1, I1, r, q⟩ => ⟨I1.kIn, ?_⟩) he hpl
  have hl : (us ++ []).length = ps.length := by rw [List.append_nil, ← r.length]; exact Fn.len _ _ _ _ q
  have hb' := hb s1 us I1.kIn hl
  rw [List.append_nil] at hb'
  refine PySem.wpAny_call (codeAny_mono (Fn.run X.A X.stack s1 H1 ⟨us, []⟩ us vs Q _ hr gd I1.env0 hb' r q) fun r s' hq => ?_)
  cases r with
  | error e => exact passAt tk σ pins H1 s1 e s' I1 hq
  | ok fl =>
    cases fl with
    | ret u => exact I1.after hq
    | next => exact hq.elim
    | brk => exact hq.elim
    | cont => exact hq.elim
end
end Dl

set_option Elab.async false
set_option linter.all false
set_option maxRecDepth 100000
set_option maxHeartbeats 2000000
namespace Dl
open PySem L2
/-- the script, if it is no object of the module's own -/
def scriptH (K : PySem.W.Frag) (a : Addr) (vs : List Value) (ns : List Int) : Hp := fun b => if b = a ∧ (K.lookup a).isNone = true then some (.frz { cls := .type "list", data := .seq vs.toArray } (.lst (ns.map V.int))) else none
theorem scriptH_some {K : PySem.W.Frag} {a b : Addr} {vs : List Value} {ns : List Int} {u : HO} (h : scriptH K a vs ns b = some u) : b = a ∧ K.lookup a = none ∧ u = .frz { cls := .type "list", data := .seq vs.toArray } (.lst (ns.map V.int)) := by
  unfold scriptH at h
  split at h
  · rename_i c
    cases h
    exact ⟨c.1, by simpa using c.2, rfl⟩
  · cases h
theorem law_callG {P : Program} {w : World} {K : PySem.W.Frag} {mg mb : Str → Option Value} {CX : CXT} {k : Nat} {fa a : Addr} {fd : FuncData} {x : Str} {sp : Sp} {s₁ : Shared} {vs : List Value} {ns : List Int}
    (KX : K.In s₁.heap) (hns : s₁.heap.Ns mainGlobals mg) (hb : s₁.heap.Ns builtinsNs mb) (hbb : ∀ x : Str, x ≠ "__name__" → mb x = bootBuiltins x) (hlim : s₁.heap.NoLimit) (hg : s₁.gens = #[])
    (ha : s₁.heap.get? a = some { cls := .type "list", data := .seq vs.toArray }) (hi : PyProof.Rows.IntsAre vs ns) (hl : ns.length ≤ sizeLine) (hr : Room k callerA)
    (F : ∀ base : Heap, K.In base → base.Ns mainGlobals mg → FnG P w K mg base CX k fa fd [x] sp) (hbind : ∀ (s : Shared) (u : Value), BindsTo s fd ⟨[u], []⟩ [(x, u)])
    (hsp : ∀ H : Hp, SqL K H a (ns.map V.int) → sp [.ref a] H (fun v _ => v = .bl true) fun _ _ _ => False)
    (hCX : ∀ H e s', CX [] H s₁ (fun _ _ _ => False) e s' → False) :
    codeAny (model P w) callerA (.call (.ref fa) ⟨[.ref a], []⟩) (fun r s' => r = .ok (.ret (.bool true)) ∧ OldK s₁.heap s'.heap ∧ s'.os = s₁.os ∧ PyProof.Rows.AllBare s'.gens) s₁ := by
  have rv := vals_ints hi
  have lenV := hi.length
  let H : Hp := scriptH K a vs ns
  have hok : HOk P w H s₁.heap := fun b u e => by
    obtain ⟨rfl, _, rfl⟩ := scriptH_some e
    exact ⟨ha, by rw [List.length_map]; exact hl, vs, _, rv, ha⟩
  have hS : SqL K H a (ns.map V.int) := by
    cases hk : K.lookup a with
    | some o =>
      have e := KX a o hk
      rw [ha] at e
      cases e
      exact .inr ⟨_, vs.toArray, _, hk, rfl, rfl, rfl, by rw [List.size_toArray, lenV]; exact hl, by simpa using rv⟩
    | none => exact .inl (.inr ⟨_, if_pos ⟨rfl, by rw [hk]; rfl⟩⟩)
  have free : ∀ {b : Addr} {o : Obj} {es : Array DictEntry} {ep : Nat}, s₁.heap.get? b = some o → o.data = .dict es ep → H b = none := fun {b o es ep} e d => by
    cases q : H b with
    | none => rfl
    | some u =>
      obtain ⟨rfl, _, _⟩ := scriptH_some q
      rw [ha] at e
      cases e
      cases d
  have nsK : ∀ {b : Addr} {m : Str → Option Value}, s₁.heap.Ns b m → (hidT s₁.heap H).Ns b m := fun {b m} ⟨o, es, ep, e, d, r⟩ => ⟨o, es, ep, hidT_get e (free e d), d, r⟩
  have hKb : K.In (hidT s₁.heap H) := fun b o e => hidT_get (KX b o e) (by
    cases q : H b with
    | none => rfl
    | some u =>
      obtain ⟨rfl, z, _⟩ := scriptH_some q
      rw [z] at e
      cases e)
  obtain ⟨mc, l1, l2⟩ := hlim
  have hM : Mod K mg (hidT s₁.heap H) := ⟨hKb, nsK hns, ⟨mb, nsK hb, hbb⟩, ⟨mc, nsK l1, l2⟩⟩
  have e0 : Env0 P w K mg (hidT s₁.heap H) callerA [] s₁ H := by
    refine ⟨rfl, hM, fun b o e => of_hidT e, Nat.le_of_eq (hidT_size _ _), trivial, fun b hb => ?_, hok, .of_eq hg⟩
    cases (show b ∈ ([] : List Addr) from hb)
  refine codeAny_mono ((F _ hKb (nsK hns)).run callerA [] s₁ H ⟨[.ref a], []⟩ [.ref a] [.ref a] _ _ hr rfl e0 (hbind s₁ (.ref a)) (.cons rfl .nil) (hsp H hS)) fun r s' h => ?_
  cases r with
  | error e => exact (hCX H e s' h).elim
  | ok fl =>
    cases fl with
    | next => exact h.elim
    | brk => exact h.elim
    | cont => exact h.elim
    | ret u =>
      obtain ⟨v, H', os, bare, un, hok', r', q⟩ := h
      have q : v = .bl true := q
      subst q
      cases (show u = Value.bool true from r')
      refine ⟨rfl, OldK.of_keep fun b o e => ?_, os, bare⟩
      cases q : H b with
      | none => exact un.keep b o e q (by intro z; cases (show b ∈ ([] : List Addr) from z)) (by simp)
      | some u =>
        obtain ⟨rfl, _, rfl⟩ := scriptH_some q
        have z2 := un.frzs b _ _ q
        obtain ⟨e2, _⟩ := hok' b _ z2
        rw [ha] at e
        cases e
        exact e2
/-- what k_head leaves, from the law's promise over data -/
theorem walk_ofG {l : PySem.W.OpenLaw} {n k : Nat} {q : Program} {loose : List Str} {XP : (Str → Option Value) → Heap → Prop} {YP : World → Heap → Prop} {d : DefRec} {K : Params → PySem.W.Frag} {sp : World → (Str → Option Value) → Sp} {x : Str}
    (hn : l.most = some n) (hn2 : n ≤ sizeLine) (hdf : d.params.defaults = []) (hr : Room k callerA)
    (hY : ∀ (w : World) (h : Heap), YP w h → (K w.params).In h)
    (F : ∀ (w : World) (mg : Str → Option Value) (fa : Addr) (h : Heap), (K w.params).In h → h.Ns mainGlobals mg → mg d.name = some (.ref fa) →
      ∃ fd : FuncData, (∀ (s : Shared) (u : Value), BindsTo s fd ⟨[u], []⟩ [(x, u)]) ∧
        ∀ base : Heap, (K w.params).In base → base.Ns mainGlobals mg → FnG l.prog w (K w.params) mg base (L2.CX l.prog w) k fa fd [x] (sp w mg))
    (hsp : ∀ (w : World) (mg : Str → Option Value) (H : Hp) (a : Addr) (ns : List Int), ns.length ≤ n → SqL (K w.params) H a (ns.map V.int) → sp w mg [.ref a] H (fun v _ => v = .bl true) fun _ _ _ => False) :
    PySem.W.WalkO q loose XP YP l.row.toRowW d [] (fun f vs => PySem.call f vs) := by
  refine Att.attach_call hn hdf fun w s₀ s₁ mg mb fa o pm cd doc a vs ns G Y ho hd hcd hmg hobj hints hlen hg => ?_
  obtain ⟨fd, hb, hF⟩ := F w mg fa _ (hY w _ Y) G.T.g hmg
  refine law_callG (hY w _ Y) G.T.g G.T.b G.T.builtins G.T.nolimit hg hobj hints (Nat.le_trans hlen hn2) hr hF hb (fun H hS => hsp w mg H a ns hlen hS) fun H e s' h => ?_
  obtain ⟨_, _, _, _, _, _, _, _, _, _, _, _, z⟩ := h
  exact z.elim
/-- the law's promise: a script of at most 63 whole numbers, no pen yet; True comes back -/
def SpLaw (sp : SpD) : Prop := ∀ (ns : List Int) (q : D → Nat → Prop), ns.length ≤ 63 → (∀ n, q (.bl true) n) → sp [.scr ns] 0 q X0
theorem law_sp {T : Tb} {sp : SpD} (hs : SpLaw sp) {H : Hp} {a : Addr} {ns : List Int} (hl : ns.length ≤ 63) (hS : SqL T.K H a (ns.map V.int)) : upF T sp [.ref a] H (fun v _ => v = .bl true) fun _ _ _ => False := by
  have hp : PenOk T ⟨H, none⟩ H 0 := fun p hp => by cases hp
  refine ⟨⟨H, none⟩, [.scr ns], 0, fun d _ => d = .bl true, X0, Ex.refl _, hp, ?_, hs ns (fun d _ => d = .bl true) hl (fun _ => rfl), fun v d F' H' n' _ _ r e => ?_, fun _ _ _ _ _ _ _ _ _ _ _ e => e⟩
  · refine Rps.one ?_
    simp only [Rp]
    exact ⟨a, rfl, hS⟩
  · subst e
    exact rp_bl r
theorem walkD {l : PySem.W.OpenLaw} {k : Nat} {q : Program} {loose : List Str} {XP : (Str → Option Value) → Heap → Prop} {YP : World → Heap → Prop} {d : DefRec} {K : Params → PySem.W.Frag} {sp : SpD} {x : Str} (hs : SpLaw sp)
    (hn : l.most = some 63) (hdf : d.params.defaults = []) (hr : Room k callerA)
    (hY : ∀ (w : World) (h : Heap), YP w h → (K w.params).In h)
    (F : ∀ (w : World) (mg : Str → Option Value) (fa : Addr) (h : Heap), (K w.params).In h → h.Ns mainGlobals mg → mg d.name = some (.ref fa) →
      ∃ fd : FuncData, (∀ (s : Shared) (u : Value), BindsTo s fd ⟨[u], []⟩ [(x, u)]) ∧
        ∀ base : Heap, (K w.params).In base → base.Ns mainGlobals mg → FnDG l.prog w (K w.params) mg base k fa fd [x] sp) :
    PySem.W.WalkO q loose XP YP l.row.toRowW d [] (fun f vs => PySem.call f vs) :=
  walk_ofG (sp := fun w mg => upF ⟨K w.params, mg⟩ sp) hn (by decide) hdf hr hY F fun w mg H a ns hl hS => law_sp (T := ⟨K w.params, mg⟩) hs hl hS
end Dl

set_option Elab.async false
set_option linter.all false
set_option maxRecDepth 100000
set_option maxHeartbeats 2000000
namespace Dl
open PySem L2

/-! ### plain data -/
mutual
def D.py : D → Option PyData
  | .non => some .none
  | .bl b => some (.bool b)
  | .int i => some (.int i)
  | .str x => some (.str x)
  | .tup xs => (D.pys xs).map .tuple
  | .lst xs => (D.pys xs).map .list
  | _ => none
def D.pys : List D → Option (List PyData)
  | [] => some []
  | d :: ds => match D.py d, D.pys ds with
    | some p, some ps => some (p :: ps)
    | _, _ => none
end
mutual
theorem dp_of {T : Tb} {F : Fz} {H : Hp} (e : Ex F.B H) : ∀ (d : D) (v : V) (p : PyData), Rp T F d v → d.py = some p → Dp T.K H v p
  | .non, v, p, r, h => by
    simp only [Rp] at r; subst r
    simp only [D.py, Option.some.injEq] at h; subst h
    exact .non
  | .bl b, v, p, r, h => by
    simp only [Rp] at r; subst r
    simp only [D.py, Option.some.injEq] at h; subst h
    exact .bl b
  | .int b, v, p, r, h => by
    simp only [Rp] at r; subst r
    simp only [D.py, Option.some.injEq] at h; subst h
    exact .int b
  | .str b, v, p, r, h => by
    simp only [Rp] at r; subst r
    simp only [D.py, Option.some.injEq] at h; subst h
    exact .str b
  | .tup xs, v, p, r, h => by
    simp only [Rp] at r
    obtain ⟨a, vs, rfl, q, z⟩ := r
    simp only [D.py, Option.map_eq_some_iff] at h
    obtain ⟨ps, hp, rfl⟩ := h
    exact .tup (e.sqt q) (dpAll_of e xs vs ps z hp)
  | .lst xs, v, p, r, h => by
    simp only [Rp] at r
    obtain ⟨a, vs, rfl, q, z⟩ := r
    simp only [D.py, Option.map_eq_some_iff] at h
    obtain ⟨ps, hp, rfl⟩ := h
    exact .lst (SqL.of (e _ _ q)) (dpAll_of e xs vs ps z hp)
  | .dct _ _, _, _, _, h => by simp only [D.py] at h; cases h
  | .obj _ _ _, _, _, _, h => by simp only [D.py] at h; cases h
  | .scr _, _, _, _, h => by simp only [D.py] at h; cases h
  | .exc _ _ _, _, _, _, h => by simp only [D.py] at h; cases h
  | .pen, _, _, _, h => by simp only [D.py] at h; cases h
theorem dpAll_of {T : Tb} {F : Fz} {H : Hp} (e : Ex F.B H) : ∀ (ds : List D) (vs : List V) (ps : List PyData), Rps T F ds vs → D.pys ds = some ps → DpAll T.K H vs ps
  | [], vs, ps, r, h => by
    rw [r.inv_nil]
    simp only [D.pys, Option.some.injEq] at h; subst h
    exact .nil
  | d :: ds, vs, ps, r, h => by
    obtain ⟨v, q, rfl, r1, r2⟩ := r.inv_cons
    simp only [D.pys] at h
    split at h
    · rename_i p ps' h1 h2
      cases h
      exact .cons (dp_of e d v _ r1 h1) (dpAll_of e ds q _ r2 h2)
    · cases h
end

/-! ### == of plain data -/
def eqP (a b : D) : Option D := match a.py, b.py with
  | some p, some q => if SeqAt.shaped p && SeqAt.shaped q then some (.bl (PyData.eqv p q)) else none
  | _, _ => none
def neP (a b : D) : Option D := match a.py, b.py with
  | some p, some q => if SeqAt.shaped p && SeqAt.shaped q then some (.bl (!PyData.eqv p q)) else none
  | _, _ => none
section
variable {X : Cx}
theorem od_eq {k : Nat} (hr : Room k X.A) : OpD X (compareOp .Eq) eqP := opr_mono (op_eqD hr.units) fun x y H Q ⟨F, a, b, z, e, r1, r2, hz, kn⟩ => by
  unfold eqP at hz
  split at hz
  · rename_i p q h1 h2
    split at hz
    · rename_i hs
      cases hz
      rw [Bool.and_eq_true] at hs
      exact ⟨p, q, dp_of (T := tb X) e a x p r1 h1, dp_of (T := tb X) e b y q r2 h2, hs.1, hs.2, kn _ F H (Stp.refl e) (by simp only [Rp])⟩
    · cases hz
  · cases hz
theorem od_ne {k : Nat} (hr : Room k X.A) : OpD X (compareOp .NotEq) neP := opr_mono (op_neD hr.units) fun x y H Q ⟨F, a, b, z, e, r1, r2, hz, kn⟩ => by
  unfold neP at hz
  split at hz
  · rename_i p q h1 h2
    split at hz
    · rename_i hs
      cases hz
      rw [Bool.and_eq_true] at hs
      exact ⟨p, q, dp_of (T := tb X) e a x p r1 h1, dp_of (T := tb X) e b y q r2 h2, hs.1, hs.2, kn _ F H (Stp.refl e) (by simp only [Rp])⟩
    · cases hz
  · cases hz
/-! ### whole numbers -/
def iiP (C : Int → Int → Bool) (f : Int → Int → D) : D → D → Option D
  | .int i, .int j => if C i j then some (f i j) else none
  | _, _ => none
theorem rp_int {T : Tb} {F : Fz} {i : Int} {v : V} : Rp T F (.int i) v ↔ v = .int i := by simp only [Rp]
theorem od_ii {f : Value → Value → Sem Value} {C : Int → Int → Prop} {Cb : Int → Int → Bool} {gV : Int → Int → V} {gD : Int → Int → D} (h : OpR X f (rI C gV)) (hC : ∀ i j, Cb i j = true → C i j) (hg : ∀ T F i j, Rp T F (gD i j) (gV i j)) : OpD X f (iiP Cb gD) := opr_mono h fun x y H Q ⟨F, a, b, z, e, r1, r2, hz, kn⟩ => by
  unfold iiP at hz
  split at hz
  · rename_i i j
    split at hz
    · rename_i hc
      cases hz
      exact ⟨i, j, rp_int.mp r1, rp_int.mp r2, hC i j hc, kn _ F H (Stp.refl e) (hg _ _ _ _)⟩
    · cases hz
  · cases hz
theorem rI_of {f : Value → Value → Sem Value} {gV : Int → Int → V} (h : OpR X f (rI0 gV)) : OpR X f (rI (fun _ _ => True) gV) := opr_mono h fun x y H Q ⟨i, j, a, b, _, q⟩ => ⟨i, j, a, b, q⟩
def tt2 : Int → Int → Bool := fun _ _ => true
def addI := iiP tt2 fun i j => .int (i + j)
def subI := iiP tt2 fun i j => .int (i - j)
def mulC (i j : Int) : Bool := decide ((-(2 ^ 64) < i ∧ i < 2 ^ 64) ∨ (-(2 ^ 64) < j ∧ j < 2 ^ 64))
def mulI := iiP mulC fun i j => .int (i * j)
def divI := iiP (fun _ j => decide (0 < j ∧ j < 1073741824)) fun i j => .int (i / j)
def modI := iiP (fun _ j => decide (0 < j)) fun i j => .int (i % j)
def powI := iiP (fun i j => decide (0 ≤ j ∧ j ≤ 1000000 ∧ i.natAbs < 2 ^ 64)) fun i j => .int (i ^ j.toNat)
def ltI := iiP tt2 fun i j => .bl (decide (i < j))
def leI := iiP tt2 fun i j => .bl (decide (i ≤ j))
def gtI := iiP tt2 fun i j => .bl (decide (j < i))
def geI := iiP tt2 fun i j => .bl (decide (j ≤ i))
theorem od_add : OpD X (binaryOp .Add) addI := od_ii (rI_of op_add) (fun _ _ _ => trivial) fun _ _ _ _ => by simp only [Rp]
theorem od_sub : OpD X (binaryOp .Sub) subI := od_ii (rI_of op_sub) (fun _ _ _ => trivial) fun _ _ _ _ => by simp only [Rp]
theorem od_mul : OpD X (binaryOp .Mult) mulI := od_ii op_mul (fun i j h => of_decide_eq_true (p := (-(2 ^ 64) < i ∧ i < 2 ^ 64) ∨ (-(2 ^ 64) < j ∧ j < 2 ^ 64)) h) fun _ _ _ _ => by simp only [Rp]
theorem od_div : OpD X (binaryOp .FloorDiv) divI := od_ii op_fdiv (fun i j h => of_decide_eq_true (p := 0 < j ∧ j < 1073741824) h) fun _ _ _ _ => by simp only [Rp]
theorem od_mod : OpD X (binaryOp .Mod) modI := od_ii op_mod (fun _ _ h => of_decide_eq_true h) fun _ _ _ _ => by simp only [Rp]
theorem od_pow : OpD X (binaryOp .Pow) powI := od_ii op_pow (fun i j h => of_decide_eq_true (p := 0 ≤ j ∧ j ≤ 1000000 ∧ i.natAbs < 2 ^ 64) h) fun _ _ _ _ => by simp only [Rp]
theorem od_lt : OpD X (compareOp .Lt) ltI := od_ii (rI_of op_lt) (fun _ _ _ => trivial) fun _ _ _ _ => by simp only [Rp]
theorem od_le : OpD X (compareOp .LtE) leI := od_ii (rI_of op_le) (fun _ _ _ => trivial) fun _ _ _ _ => by simp only [Rp]
theorem od_gt : OpD X (compareOp .Gt) gtI := od_ii (rI_of op_gt) (fun _ _ _ => trivial) fun _ _ _ _ => by simp only [Rp]
theorem od_ge : OpD X (compareOp .GtE) geI := od_ii (rI_of op_ge) (fun _ _ _ => trivial) fun _ _ _ _ => by simp only [Rp]
def negI : D → Option D
  | .int i => some (.int (-i))
  | _ => none
theorem ud_neg : UnD X (unaryOp .USub) negI := unr_mono un_neg fun x H Q ⟨F, a, z, e, r1, hz, kn⟩ => by
  unfold negI at hz
  split at hz
  · rename_i i
    cases hz
    exact ⟨i, rp_int.mp r1, kn _ F H (Stp.refl e) (by simp only [Rp])⟩
  · cases hz
/-! ### is None -/
def D.isNon : D → Bool
  | .non => true
  | _ => false
def isN (a b : D) : Option D := match b with
  | .non => some (.bl a.isNon)
  | _ => none
def isnN (a b : D) : Option D := match b with
  | .non => some (.bl (!a.isNon))
  | _ => none
theorem rp_non {T : Tb} {F : Fz} {d : D} {v : V} (r : Rp T F d v) : decide (v = V.non) = d.isNon := by
  cases d with
  | non => simp only [Rp] at r; subst r; rfl
  | bl b => simp only [Rp] at r; subst r; rfl
  | int b => simp only [Rp] at r; subst r; rfl
  | str b => simp only [Rp] at r; subst r; rfl
  | tup xs => simp only [Rp] at r; obtain ⟨a, vs, rfl, _⟩ := r; rfl
  | lst xs => simp only [Rp] at r; obtain ⟨a, vs, rfl, _⟩ := r; rfl
  | dct xs ys => simp only [Rp] at r; obtain ⟨a, vs, rfl, _⟩ := r; rfl
  | obj c ns xs => simp only [Rp] at r; obtain ⟨a, dx, C, fs, rfl, _⟩ := r; rfl
  | exc c ns xs => simp only [Rp] at r; obtain ⟨a, C, rfl, _⟩ := r; rfl
  | scr ns => simp only [Rp] at r; obtain ⟨a, rfl, _⟩ := r; rfl
  | pen => simp only [Rp] at r; obtain ⟨a, _, rfl⟩ := r; rfl
theorem od_is : OpD X (compareOp .Is) isN := opr_mono op_isN fun x y H Q ⟨F, a, b, z, e, r1, r2, hz, kn⟩ => by
  unfold isN at hz
  split at hz
  · cases hz
    simp only [Rp] at r2
    exact ⟨r2, by rw [rp_non r1]; exact kn _ F H (Stp.refl e) (by simp only [Rp])⟩
  · cases hz
theorem od_isnot : OpD X (compareOp .IsNot) isnN := opr_mono op_notN fun x y H Q ⟨F, a, b, z, e, r1, r2, hz, kn⟩ => by
  unfold isnN at hz
  split at hz
  · cases hz
    simp only [Rp] at r2
    refine ⟨r2, ?_⟩
    rw [rp_non r1]
    exact kn _ F H (Stp.refl e) (by simp only [Rp])
  · cases hz
end
end Dl

set_option Elab.async false
set_option linter.all false
set_option maxRecDepth 100000
set_option maxHeartbeats 2000000
namespace Dl
open PySem L2

/-! ### equality by data -/
mutual
/-- plain, and a text in it is one that can be laid -/
def D.eok : D → Bool
  | .non => true
  | .bl _ => true
  | .int _ => true
  | .str x => PyData.strOk x
  | .tup xs => D.eoks xs
  | .lst xs => D.eoks xs
  | _ => false
def D.eoks : List D → Bool
  | [] => true
  | d :: ds => D.eok d && D.eoks ds
end
mutual
def D.dep : D → Nat
  | .tup xs => D.deps xs + 1
  | .lst xs => D.deps xs + 1
  | _ => 0
def D.deps : List D → Nat
  | [] => 0
  | d :: ds => max (D.dep d) (D.deps ds)
end
mutual
def eqB : D → D → Bool
  | .non, .non => true
  | .bl a, .bl b => a == b
  | .bl a, .int j => (if a then 1 else 0) == j
  | .int i, .bl b => i == (if b then 1 else 0)
  | .int i, .int j => i == j
  | .str x, .str y => x == y
  | .lst xs, .lst ys => eqBs xs ys
  | .tup xs, .tup ys => eqBs xs ys
  | _, _ => false
def eqBs : List D → List D → Bool
  | [], [] => true
  | x :: xs, y :: ys => eqB x y && eqBs xs ys
  | _, _ => false
end
mutual
theorem py_of_eok : ∀ (d : D), d.eok = true → ∃ p, d.py = some p ∧ p.canLay0 = true ∧ p.depth = d.dep
  | .non, _ => ⟨_, rfl, rfl, rfl⟩
  | .bl b, _ => ⟨_, rfl, rfl, rfl⟩
  | .int b, _ => ⟨_, rfl, rfl, rfl⟩
  | .str b, h => ⟨_, rfl, by simpa only [D.eok, PyData.canLay0] using h, rfl⟩
  | .tup xs, h => by
    simp only [D.eok] at h
    obtain ⟨ps, h1, h2, h3⟩ := pys_of_eok xs h
    exact ⟨.tuple ps, by simp only [D.py, h1, Option.map_some], by simpa only [PyData.canLay0] using h2, by simp only [PyData.depth, D.dep, h3]⟩
  | .lst xs, h => by
    simp only [D.eok] at h
    obtain ⟨ps, h1, h2, h3⟩ := pys_of_eok xs h
    exact ⟨.list ps, by simp only [D.py, h1, Option.map_some], by simpa only [PyData.canLay0] using h2, by simp only [PyData.depth, D.dep, h3]⟩
  | .dct _ _, h => by simp only [D.eok] at h; cases h
  | .obj _ _ _, h => by simp only [D.eok] at h; cases h
  | .scr _, h => by simp only [D.eok] at h; cases h
  | .exc _ _ _, h => by simp only [D.eok] at h; cases h
  | .pen, h => by simp only [D.eok] at h; cases h
theorem pys_of_eok : ∀ (ds : List D), D.eoks ds = true → ∃ ps, D.pys ds = some ps ∧ PyData.canLayAll0 ps = true ∧ PyData.depthAll ps = D.deps ds
  | [], _ => ⟨[], rfl, rfl, rfl⟩
  | d :: ds, h => by
    simp only [D.eoks, Bool.and_eq_true] at h
    obtain ⟨p, a1, a2, a3⟩ := py_of_eok d h.1
    obtain ⟨ps, b1, b2, b3⟩ := pys_of_eok ds h.2
    exact ⟨p :: ps, by simp only [D.pys, a1, b1], by simp only [PyData.canLayAll0, a2, b2, Bool.and_self], by simp only [PyData.depthAll, D.deps, a3, b3]⟩
end
mutual
theorem eqv_of : ∀ (a b : D) (p q : PyData), a.py = some p → b.py = some q → PyData.eqv p q = eqB a b := by
  intro a b p q h1 h2
  cases a <;> cases b <;> simp only [D.py, Option.some.injEq, Option.map_eq_some_iff, reduceCtorEq] at h1 h2 <;>
    (try (obtain ⟨ps, h1, rfl⟩ := h1)) <;> (try (obtain ⟨qs, h2, rfl⟩ := h2)) <;> (try subst h1) <;> (try subst h2) <;> simp only [PyData.eqv, eqB]
  · exact eqvs_of _ _ _ _ h1 h2
  · exact eqvs_of _ _ _ _ h1 h2
theorem eqvs_of : ∀ (a b : List D) (p q : List PyData), D.pys a = some p → D.pys b = some q → PyData.eqvAll p q = eqBs a b
  | [], [], p, q, h1, h2 => by
    simp only [D.pys, Option.some.injEq] at h1 h2
    subst h1 h2
    simp only [PyData.eqvAll, eqBs]
  | [], d :: ds, p, q, h1, h2 => by
    simp only [D.pys] at h1 h2
    split at h2
    · cases h1; cases h2; simp only [PyData.eqvAll, eqBs]
    · cases h2
  | d :: ds, [], p, q, h1, h2 => by
    simp only [D.pys] at h1 h2
    split at h1
    · cases h1; cases h2; simp only [PyData.eqvAll, eqBs]
    · cases h1
  | d :: ds, e :: es, p, q, h1, h2 => by
    simp only [D.pys] at h1 h2
    split at h1
    · rename_i x1 y1 p1 p2
      cases h1
      split at h2
      · rename_i x2 y2 q1 q2
        cases h2
        simp only [PyData.eqvAll, eqBs, eqv_of d e _ _ p1 q1, eqvs_of ds es _ _ p2 q2]
      · cases h2
    · cases h1
end
def eokD (d : D) : Bool := d.eok && decide (d.dep ≤ 60)
def eqD (a b : D) : Option D := if eokD a && eokD b then some (.bl (eqB a b)) else none
def neD (a b : D) : Option D := if eokD a && eokD b then some (.bl (!eqB a b)) else none
theorem shaped_of {d : D} (h : eokD d = true) : ∃ p, d.py = some p ∧ SeqAt.shaped p = true := by
  simp only [eokD, Bool.and_eq_true, decide_eq_true_eq] at h
  obtain ⟨p, h1, h2, h3⟩ := py_of_eok d h.1
  refine ⟨p, h1, ?_⟩
  simp only [SeqAt.shaped, h2, h3, Bool.true_and, decide_eq_true_eq]
  omega
section
variable {X : Cx}
theorem od_eqD {k : Nat} (hr : Room k X.A) : OpD X (compareOp .Eq) eqD := opr_mono (od_eq hr) fun x y H Q ⟨F, a, b, z, e, r1, r2, hz, kn⟩ => by
  unfold eqD at hz
  split at hz
  · rename_i c
    cases hz
    rw [Bool.and_eq_true] at c
    obtain ⟨p, p1, p2⟩ := shaped_of c.1
    obtain ⟨q, q1, q2⟩ := shaped_of c.2
    refine ⟨F, a, b, _, e, r1, r2, ?_, kn⟩
    simp only [eqP, p1, q1, p2, q2, Bool.and_self, if_true, eqv_of a b p q p1 q1]
  · cases hz
theorem od_neD {k : Nat} (hr : Room k X.A) : OpD X (compareOp .NotEq) neD := opr_mono (od_ne hr) fun x y H Q ⟨F, a, b, z, e, r1, r2, hz, kn⟩ => by
  unfold neD at hz
  split at hz
  · rename_i c
    cases hz
    rw [Bool.and_eq_true] at c
    obtain ⟨p, p1, p2⟩ := shaped_of c.1
    obtain ⟨q, q1, q2⟩ := shaped_of c.2
    refine ⟨F, a, b, _, e, r1, r2, ?_, kn⟩
    simp only [neP, p1, q1, p2, q2, Bool.and_self, if_true, eqv_of a b p q p1 q1]
  · cases hz
end

/-! ### repr by data -/
mutual
def D.rok : D → Bool
  | .non => true
  | .bl _ => true
  | .int i => decide (i.natAbs < 2 ^ 1900)
  | .str x => x.cps.toList.all fun c => decide (c < 16 ^ 8)
  | .tup xs => D.roks xs
  | .lst xs => D.roks xs
  | _ => false
def D.roks : List D → Bool
  | [] => true
  | d :: ds => D.rok d && D.roks ds
end
mutual
def D.blk : D → Nat
  | .str x => x.cps.size
  | .tup xs => D.blks xs
  | .lst xs => D.blks xs
  | _ => 0
def D.blks : List D → Nat
  | [] => 0
  | d :: ds => D.blk d + 1 + D.blks ds
end
def shD (d : D) : Str := match d.py with
  | some p => p.shown
  | none => ⟨#[]⟩
def reprD (d : D) : Option D := if d.rok && decide (d.blk ≤ 8000) && decide (d.dep ≤ 60) then some (.str (shD d)) else none
mutual
theorem py_of_rok : ∀ (d : D), d.rok = true → ∃ p, d.py = some p ∧ p.showable = true ∧ p.leavesShort 1921 = true ∧ p.hasDict = false ∧ p.bulk = d.blk ∧ p.depth = d.dep
  | .non, _ => ⟨_, rfl, rfl, rfl, rfl, rfl, rfl⟩
  | .bl b, _ => ⟨_, rfl, rfl, rfl, rfl, rfl, rfl⟩
  | .int b, h => by
    simp only [D.rok, decide_eq_true_eq] at h
    have hl : b.natAbs.log2 < 1920 := by
      by_cases h0 : b.natAbs = 0
      · rw [h0]; decide
      · have := (Nat.log2_lt h0).mpr h
        omega
    refine ⟨_, rfl, by simpa only [PyData.showable, decide_eq_true_eq] using hl, ?_, rfl, rfl, rfl⟩
    simp only [PyData.leavesShort, PyData.shown]
    refine decide_eq_true ?_
    exact PyProof.Rows.int_text_len_1921 hl
  | .str b, h => ⟨_, rfl, rfl, by simpa only [D.rok, PyData.leavesShort] using h, rfl, rfl, rfl⟩
  | .tup xs, h => by
    simp only [D.rok] at h
    obtain ⟨ps, h1, h2, h3, h4, h5, h6⟩ := pys_of_rok xs h
    exact ⟨.tuple ps, by simp only [D.py, h1, Option.map_some], by simpa only [PyData.showable] using h2, by simpa only [PyData.leavesShort] using h3, by simpa only [PyData.hasDict] using h4, by simp only [PyData.bulk, D.blk, h5], by simp only [PyData.depth, D.dep, h6]⟩
  | .lst xs, h => by
    simp only [D.rok] at h
    obtain ⟨ps, h1, h2, h3, h4, h5, h6⟩ := pys_of_rok xs h
    exact ⟨.list ps, by simp only [D.py, h1, Option.map_some], by simpa only [PyData.showable] using h2, by simpa only [PyData.leavesShort] using h3, by simpa only [PyData.hasDict] using h4, by simp only [PyData.bulk, D.blk, h5], by simp only [PyData.depth, D.dep, h6]⟩
  | .dct _ _, h => by simp only [D.rok] at h; cases h
  | .obj _ _ _, h => by simp only [D.rok] at h; cases h
  | .scr _, h => by simp only [D.rok] at h; cases h
  | .exc _ _ _, h => by simp only [D.rok] at h; cases h
  | .pen, h => by simp only [D.rok] at h; cases h
theorem pys_of_rok : ∀ (ds : List D), D.roks ds = true → ∃ ps, D.pys ds = some ps ∧ PyData.showableAll ps = true ∧ PyData.leavesShortAll 1921 ps = true ∧ PyData.hasDictAll ps = false ∧ PyData.bulkAll ps = D.blks ds ∧ PyData.depthAll ps = D.deps ds
  | [], _ => ⟨[], rfl, rfl, rfl, rfl, rfl, rfl⟩
  | d :: ds, h => by
    simp only [D.roks, Bool.and_eq_true] at h
    obtain ⟨p, a1, a2, a3, a4, a5, a6⟩ := py_of_rok d h.1
    obtain ⟨ps, b1, b2, b3, b4, b5, b6⟩ := pys_of_rok ds h.2
    exact ⟨p :: ps, by simp only [D.pys, a1, b1], by simp only [PyData.showableAll, a2, b2, Bool.and_self], by simp only [PyData.leavesShortAll, a3, b3, Bool.and_self], by simp only [PyData.hasDictAll, a4, b4, Bool.or_self],
      by simp only [PyData.bulkAll, D.blks, a5, b5], by simp only [PyData.depthAll, D.deps, a6, b6]⟩
end
def reprN : List D → Option D
  | [d] => reprD d
  | _ => none
theorem dp_ref {K : PySem.W.Frag} {H : Hp} {v : V} {p : PyData} (h : Dp K H v p) : (∃ a, v = .ref a) ∨ v = .non ∧ p = .none ∨ (∃ b, v = .bl b ∧ p = .bool b) ∨ (∃ i, v = .int i ∧ p = .int i) ∨ (∃ x, v = .str x ∧ p = .str x) := by
  cases h with
  | non => exact .inr (.inl ⟨rfl, rfl⟩)
  | bl b => exact .inr (.inr (.inl ⟨b, rfl, rfl⟩))
  | int i => exact .inr (.inr (.inr (.inl ⟨i, rfl, rfl⟩)))
  | str x => exact .inr (.inr (.inr (.inr ⟨x, rfl, rfl⟩)))
  | lst _ _ => exact .inl ⟨_, rfl⟩
  | tup _ _ => exact .inl ⟨_, rfl⟩
section
variable {X : Cx}
theorem cd_repr {k : Nat} (hr : Room k X.A) (gd : X.A.guards = some []) : CallD X (.builtin "repr") reprN := by
  intro pins s σ H xs us Q I r ⟨F, ds, z, e, rd, hz, kn⟩
  unfold reprN at hz
  split at hz
  · rename_i d
    unfold reprD at hz
    split at hz
    · rename_i c
      cases hz
      simp only [Bool.and_eq_true, decide_eq_true_eq] at c
      obtain ⟨p, h1, h2, h3, h4, h5, h6⟩ := py_of_rok d c.1.1
      have hs : shD d = p.shown := by simp only [shD, h1]
      obtain ⟨v, q, rfl, r1, r2⟩ := rd.inv_cons
      rw [r2.inv_nil] at r
      obtain ⟨u, us', rfl, rv, rn⟩ : ∃ u us', us = u :: us' ∧ RelV v u ∧ Vals [] us' := by
        cases r with
        | cons a b => exact ⟨_, _, rfl, a, b⟩
      cases rn
      have hd := dp_of (T := tb X) e d v p r1 h1
      have hz : p.shown.length ≤ sizeLine := by
        have := PyData.shown_le_bulk 1921 (by decide) p h3
        rw [h5] at this
        rw [sizeLine_eq]
        have h8 := c.1.2
        have : (1921 + 2) * d.blk ≤ 1923 * 8000 := Nat.mul_le_mul (by decide) h8
        omega
      have key : ∀ (h' : Heap) (t : Tok) (tk : Nat), (∀ b o, s.heap.get? b = some o → h'.get? b = some o) → EP X pins σ Q (.str p.shown t) { s with heap := h', toks := tk } := fun h' t tk hk =>
        ⟨.str (shD d), H, I.kept hk, ⟨t, by rw [hs]⟩, kn _ F H (Stp.refl e) (by simp only [Rp])⟩
      have same : ∀ (t : Tok) (tk : Nat), EP X pins σ Q (.str p.shown t) { s with toks := tk } := fun t tk => key s.heap t tk fun _ _ h => h
      rcases dp_ref hd with ⟨a, rfl⟩ | ⟨rfl, rfl⟩ | ⟨b, rfl, rfl⟩ | ⟨i, rfl, rfl⟩ | ⟨x, rfl, rfl⟩
      · cases (show u = Value.ref a from rv)
        obtain ⟨as, rr⟩ := Dp.reads I p _ _ hd rfl
        refine PySem.repr_of_reads' rr h2 (PyData.noDict_hsm h4) gd ?_ (fun _ _ h => h) (fun h' t tk hk => key h' t tk hk) hz
        rw [h6]
        have := hr.units
        omega
      · cases (show u = Value.none from rv)
        exact PySem.P.repr_of_none (same _ _)
      · cases (show u = Value.bool b from rv)
        exact PySem.P.repr_of_bool (same _ _)
      · obtain ⟨t, rfl⟩ := rv
        exact PySem.P.repr_of_int (by simpa only [PyData.showable, decide_eq_true_eq] using h2) (same _ _)
      · obtain ⟨t, rfl⟩ := rv
        exact PySem.P.repr_of_str (same _ _) hz
    · cases hz
  · cases hz
end
end Dl

set_option Elab.async false
set_option linter.all false
set_option maxRecDepth 100000
set_option maxHeartbeats 2000000
namespace Dl
open PySem L2

section
variable {X : Cx}
/-! ### == and != -/
def eqS : D → D → Option D
  | .str x, .str y => some (.bl (decide (x = y)))
  | _, _ => none
def neS : D → D → Option D
  | .str x, .str y => some (.bl (!decide (x = y)))
  | _, _ => none
theorem rp_str {T : Tb} {F : Fz} {i : Str} {v : V} : Rp T F (.str i) v ↔ v = .str i := by simp only [Rp]
theorem od_eqS : OpD X (compareOp .Eq) eqS := opr_mono op_eq fun x y H Q ⟨F, a, b, z, e, r1, r2, hz, kn⟩ => by
  unfold eqS at hz
  split at hz
  · rename_i i j
    cases hz
    cases rp_str.mp r1
    cases rp_str.mp r2
    refine ⟨rfl, kn _ F H (Stp.refl e) ?_⟩
    simp only [Rp, V.str.injEq]
  · cases hz
theorem od_neS : OpD X (compareOp .NotEq) neS := opr_mono op_ne fun x y H Q ⟨F, a, b, z, e, r1, r2, hz, kn⟩ => by
  unfold neS at hz
  split at hz
  · rename_i i j
    cases hz
    cases rp_str.mp r1
    cases rp_str.mp r2
    refine ⟨rfl, kn _ F H (Stp.refl e) ?_⟩
    simp only [Rp, V.str.injEq]
  · cases hz
def eqF := orD eqS eqD
def neF := orD neS neD
theorem od_eqF {k : Nat} (hr : Room k X.A) : OpD X (compareOp .Eq) eqF := OpD.or od_eqS (od_eqD hr)
theorem od_neF {k : Nat} (hr : Room k X.A) : OpD X (compareOp .NotEq) neF := OpD.or od_neS (od_neD hr)

/-! ### + and * of sequences -/
def addS : D → D → Option D
  | .str x, .str y => if x.length + y.length ≤ sizeLine then some (.str (x ++ y)) else none
  | _, _ => none
def addT : D → D → Option D
  | .tup x, .tup y => if x.length + y.length ≤ sizeLine then some (.tup (x ++ y)) else none
  | _, _ => none
def addL : D → D → Option D
  | .lst x, .lst y => if x.length + y.length ≤ sizeLine then some (.lst (x ++ y)) else none
  | _, _ => none
theorem od_addS : OpD X (binaryOp .Add) addS := opr_mono op_add_str fun x y H Q ⟨F, a, b, z, e, r1, r2, hz, kn⟩ => by
  unfold addS at hz
  split at hz
  · rename_i i j
    split at hz
    · cases hz
      exact ⟨i, j, rp_str.mp r1, rp_str.mp r2, by assumption, kn _ F H (Stp.refl e) (by simp only [Rp])⟩
    · cases hz
  · cases hz
/-- a new tuple, list of known items -/
theorem new_tup {T : Tb} {F : Fz} {H : Hp} {z : List D} {vs : List V} {Q : VK} (e : Ex F.B H) (r : Rps T F z vs) (kn : ∀ u F' H', Stp F H F' H' → Rp T F' (.tup z) u → Q u H') {p : Addr} (hp : H p = none) : Q (.ref p) (upd H p (.tup vs)) := by
  have s := Stp.new (o := .tup vs) e hp
  refine kn _ _ _ s ?_
  simp only [Rp]
  exact ⟨p, vs, rfl, SqT.of upd_same, Rps.mono s.f.le _ _ r⟩
theorem new_lst {T : Tb} {F : Fz} {H : Hp} {z : List D} {vs : List V} {Q : VK} (e : Ex F.B H) (r : Rps T F z vs) (kn : ∀ u F' H', Stp F H F' H' → Rp T F' (.lst z) u → Q u H') {p : Addr} (hp : H p = none) : Q (.ref p) (upd H p (.lst vs)) := by
  have s := Stp.new (o := .lst vs) e hp
  refine kn _ _ _ s ?_
  simp only [Rp]
  exact ⟨p, vs, rfl, upd_same, Rps.mono s.f.le _ _ r⟩
theorem od_addT : OpD X (binaryOp .Add) addT := opr_mono op_catA fun x y H Q ⟨F, a, b, z, e, r1, r2, hz, kn⟩ => by
  unfold addT at hz
  split at hz
  · rename_i i j
    split at hz
    · rename_i hl
      cases hz
      have q1 := r1
      have q2 := r2
      simp only [Rp] at r1 r2
      obtain ⟨p, vs, rfl, h1, z1⟩ := r1
      obtain ⟨q, us, rfl, h2, z2⟩ := r2
      refine ⟨p, q, vs, us, rfl, rfl, e.sqt h1, e.sqt h2, by rw [z1.length, z2.length]; exact hl, fun hx => ?_, fun hx hy => ?_, fun hx hy r hr => ?_⟩
      · subst hx
        have : i = [] := List.eq_nil_of_length_eq_zero (by rw [← z1.length]; rfl)
        subst this
        exact kn _ F H (Stp.refl e) (by rw [List.nil_append]; exact q2)
      · subst hy
        have : j = [] := List.eq_nil_of_length_eq_zero (by rw [← z2.length]; rfl)
        subst this
        exact kn _ F H (Stp.refl e) (by rw [List.append_nil]; exact q1)
      · exact new_tup e (z1.append z2) kn hr
    · cases hz
  · cases hz
theorem od_addL : OpD X (binaryOp .Add) addL := opr_mono op_cat fun x y H Q ⟨F, a, b, z, e, r1, r2, hz, kn⟩ => by
  unfold addL at hz
  split at hz
  · rename_i i j
    split at hz
    · rename_i hl
      cases hz
      simp only [Rp] at r1 r2
      obtain ⟨p, vs, rfl, h1, z1⟩ := r1
      obtain ⟨q, us, rfl, h2, z2⟩ := r2
      exact ⟨p, q, vs, us, rfl, rfl, e _ _ h1, e _ _ h2, by rw [z1.length, z2.length]; exact hl, fun r hr => new_lst e (z1.append z2) kn hr⟩
    · cases hz
  · cases hz
def addF := orD addI (orD addS (orD addT addL))
theorem od_addF : OpD X (binaryOp .Add) addF := OpD.or od_add (OpD.or od_addS (OpD.or od_addT od_addL))
theorem Rps.rep {T : Tb} {F : Fz} {ds : List D} {vs : List V} (r : Rps T F ds vs) : ∀ n : Nat, Rps T F (List.replicate n ds).flatten (List.replicate n vs).flatten
  | 0 => Rps.nil
  | n + 1 => by
    simp only [List.replicate_succ, List.flatten_cons]
    exact r.append (Rps.rep r n)
def mulL : D → D → Option D
  | .lst x, .int k => if -(2 ^ 63) ≤ k ∧ k < 2 ^ 63 ∧ x.length * k.toNat ≤ sizeLine then some (.lst (List.replicate k.toNat x).flatten) else none
  | _, _ => none
theorem od_mulL : OpD X (binaryOp .Mult) mulL := opr_mono op_rep fun x y H Q ⟨F, a, b, z, e, r1, r2, hz, kn⟩ => by
  unfold mulL at hz
  split at hz
  · rename_i i k
    split at hz
    · rename_i hl
      cases hz
      simp only [Rp] at r1
      obtain ⟨p, vs, rfl, h1, z1⟩ := r1
      exact ⟨p, k, vs, rfl, rp_int.mp r2, e _ _ h1, hl.1, hl.2.1, by rw [z1.length]; exact hl.2.2, fun r hr => new_lst e (z1.rep _) kn hr⟩
    · cases hz
  · cases hz
/-- t * k for k at least 2 -/
def mulT2 : D → D → Option D
  | .tup x, .int k => if x ≠ [] ∧ 2 ≤ k ∧ k ≤ 1000 ∧ x.length ≤ 1000 then some (.tup (List.replicate k.toNat x).flatten) else none
  | _, _ => none
theorem od_mulT2 : OpD X (binaryOp .Mult) mulT2 := opr_mono op_repT fun x y H Q ⟨F, a, b, z, e, r1, r2, hz, kn⟩ => by
  unfold mulT2 at hz
  split at hz
  · rename_i i k
    split at hz
    · rename_i hl
      cases hz
      simp only [Rp] at r1
      obtain ⟨p, vs, rfl, h1, z1⟩ := r1
      refine ⟨p, k, vs, rfl, rp_int.mp r2, e.sqt h1, ?_, hl.2.1, hl.2.2.1, by rw [z1.length]; exact hl.2.2.2, fun r hr => new_tup e (z1.rep _) kn hr⟩
      rintro rfl
      exact hl.1 (List.eq_nil_of_length_eq_zero (by rw [← z1.length]; rfl))
    · cases hz
  · cases hz
end
end Dl

set_option Elab.async false
set_option linter.all false
set_option maxRecDepth 100000
set_option maxHeartbeats 2000000
namespace Dl
open PySem PySem.Spec PyProof.Rows
open L2 hiding St

theorem tuple_mul_same (l : Addr) (items : Array Value) (n : Nat) (dd : Option Addr) (sl : Array (Option Value)) (x : Int) (u : Tok) (c0 : (decide (x < -(2 ^ 63)) || decide (x ≥ 2 ^ 63)) = false) (c1 : (items.isEmpty || x == 1) = true) :
    Meets (Builtin.«tuple.__mul__» ⟨[.ref l, .int x u], []⟩) (fun _ R s => s.heap.get? l = some { cls := .type "tuple", dict := dd, data := .seq items n, slots := sl } ∧ R (.ok (.ret (Value.ref l))) s) :=
  .of_wp fun prog w A R s h => by
    obtain ⟨hp, g, d, tk, os⟩ := s
    obtain ⟨hl, h⟩ := h
    have f1 := AutoSeq1.idx_int
    wp_walk using wpAny_loadPart' hl
    repeat (first
      | (refine wpAny_ite_false (decide_eq_false (by rw [c0]; exact Bool.false_ne_true)) ?_; wp_walk using wpAny_loadPart' hl)
      | (refine wpAny_ite_true (decide_eq_true (by rw [c1])) ?_; wp_walk using wpAny_loadPart' hl))
    exact ⟨_, rfl, h⟩
theorem tuple_mul_none (l : Addr) (items : Array Value) (n : Nat) (dd : Option Addr) (sl : Array (Option Value)) (x : Int) (u : Tok) (c0 : (decide (x < -(2 ^ 63)) || decide (x ≥ 2 ^ 63)) = false) (c1 : (items.isEmpty || x == 1) = false) (c2 : (decide (x ≤ 0) || items.isEmpty) = true) :
    Meets (Builtin.«tuple.__mul__» ⟨[.ref l, .int x u], []⟩) (fun _ R s => s.heap.get? l = some { cls := .type "tuple", dict := dd, data := .seq items n, slots := sl } ∧
      R (.ok (.ret (Value.ref s.heap.objs.size))) { s with heap := s.heap.push { cls := Value.type "tuple", data := Data.seq #[] }, toks := s.toks }) :=
  .of_wp fun prog w A R s h => by
    obtain ⟨hp, g, d, tk, os⟩ := s
    obtain ⟨hl, h⟩ := h
    have f1 := AutoSeq1.idx_int
    wp_walk using wpAny_loadPart' hl
    repeat (first
      | (refine wpAny_ite_false (decide_eq_false (by rw [c0]; exact Bool.false_ne_true)) ?_; wp_walk using wpAny_loadPart' hl)
      | (refine wpAny_ite_false (decide_eq_false (by rw [c1]; exact Bool.false_ne_true)) ?_; wp_walk using wpAny_loadPart' hl)
      | (refine wpAny_ite_true (decide_eq_true (by rw [c2])) ?_; wp_walk using wpAny_loadPart' hl))
    exact ⟨_, rfl, h⟩
section
variable {X : Cx}
/-- t * k, k at most 1, or t empty -/
def rRepT1 (K : PySem.W.Frag) : R2 := fun x y H Q => ∃ l k xs, x = .ref l ∧ y = .int k ∧ SqT K H l xs ∧ -(2 ^ 63) ≤ k ∧ k < 2 ^ 63 ∧ ((xs = [] ∨ k = 1) ∧ Q (.ref l) H ∨ (xs ≠ [] ∧ k ≤ 0) ∧ ∀ p, H p = none → Q (.ref p) (upd H p (.tup [])))
theorem op_repT1 : OpR X (binaryOp .Mult) (rRepT1 X.K) := by
  intro pins s σ H x y v u Q I rx ry h
  obtain ⟨l, k, xs, rfl, rfl, hT, h1, h2, h⟩ := h
  cases rx
  obtain ⟨t, rfl⟩ := ry
  obtain ⟨its, r, ⟨⟨cls, dd, data, sl⟩, ho, hc, n, hd⟩, hs⟩ := I.tuple hT
  simp only at hc hd
  subst hc hd
  have hle : its.length = xs.length := r.length.symm
  have hi : its.toArray.isEmpty = xs.isEmpty := by
    cases its with
    | nil => cases xs with
      | nil => rfl
      | cons a b => cases hle
    | cons a b => cases xs with
      | nil => cases hle
      | cons c d => rfl
  have c0 : (decide (k < -(2 ^ 63)) || decide (k ≥ 2 ^ 63)) = false := by
    rw [decide_eq_false (by omega), decide_eq_false (by omega)]
    rfl
  refine wpAny_binaryOp_repeat_ref (T := "tuple") (U := "int") (by decide) ⟨_, ho, rfl⟩ (fun s' => typeIs_int s' k t) noFill_tuple_mul F.fills_int_mul F.slot_int_rmul repeat_tuple F.slot_int_index.lookup
    (call_meets F.slot_int_rmul (typeIs_int s k t) F.entry_int_rmul (F.args_int_rmul_2 _ _) (int_rmul_tuple k t l its.toArray n dd sl) ⟨ho, rfl, ⟨_, ho, rfl⟩, ?_⟩)
  rcases h with ⟨h, q⟩ | ⟨⟨hne, hk⟩, q⟩
  · refine call_meets F.slot_tuple_mul ⟨_, ho, rfl⟩ F.entry_tuple_mul (F.args_tuple_mul_2 _ _) (tuple_mul_same l its.toArray n dd sl k t c0 ?_) ⟨ho, ⟨.ref l, H, I, rfl, q⟩⟩
    rw [hi]
    rcases h with rfl | rfl
    · rfl
    · simp
  · refine call_meets F.slot_tuple_mul ⟨_, ho, rfl⟩ F.entry_tuple_mul (F.args_tuple_mul_2 _ _) (tuple_mul_none l its.toArray n dd sl k t c0 ?_ ?_) ⟨ho, ?_⟩
    · rw [hi]
      cases xs with
      | nil => exact (hne rfl).elim
      | cons a b =>
        simp only [List.isEmpty_cons, Bool.false_or, beq_eq_false_iff_ne]
        omega
    · rw [decide_eq_true hk]
      rfl
    · refine ⟨.ref s.heap.objs.size, _, I.laid (t' := s.toks) (o := .tup []) (fun b ob q => Heap.get?_push_of_some _ q) (Nat.le_refl _) ?_, rfl, q _ (I.hok.fresh (Nat.le_refl _))⟩
      exact ⟨Nat.zero_le _, [], .nil, IsTup.new _ _⟩
def mulT1 : D → D → Option D
  | .tup x, .int k => if -(2 ^ 63) ≤ k ∧ k < 2 ^ 63 ∧ (x = [] ∨ k ≤ 1) then some (.tup (List.replicate k.toNat x).flatten) else none
  | _, _ => none
theorem flat_nil {α : Type} : ∀ n : Nat, (List.replicate n ([] : List α)).flatten = []
  | 0 => rfl
  | n + 1 => by rw [List.replicate_succ, List.flatten_cons, flat_nil n]; rfl
theorem flat_one {α : Type} (xs : List α) : (List.replicate 1 xs).flatten = xs := by simp [List.replicate]
instance (x : List D) : Decidable (x = []) := match x with
  | [] => isTrue rfl
  | _ :: _ => isFalse (fun h => nomatch h)
theorem od_mulT1 : OpD X (binaryOp .Mult) mulT1 := opr_mono op_repT1 fun x y H Q ⟨F, a, b, z, e, r1, r2, hz, kn⟩ => by
  unfold mulT1 at hz
  split at hz
  · rename_i i k
    split at hz
    · rename_i hl
      cases hz
      obtain ⟨l1, l2, l3⟩ := hl
      have q1 := r1
      simp only [Rp] at r1
      obtain ⟨p, vs, rfl, h1, z1⟩ := r1
      refine ⟨p, k, vs, rfl, rp_int.mp r2, e.sqt h1, l1, l2, ?_⟩
      by_cases hx : i = []
      · subst hx
        have := z1.inv_nil
        subst this
        refine .inl ⟨.inl rfl, kn _ F H (Stp.refl e) ?_⟩
        rw [flat_nil]
        exact q1
      · have hv : vs ≠ [] := fun h => by
          subst h
          exact hx (List.eq_nil_of_length_eq_zero (by rw [← z1.length]; rfl))
        have hk : k ≤ 1 := l3.resolve_left hx
        by_cases h1 : k = 1
        · subst h1
          refine .inl ⟨.inr rfl, kn _ F H (Stp.refl e) ?_⟩
          rw [show (1 : Int).toNat = 1 from rfl, flat_one]
          exact q1
        · have h0 : k ≤ 0 := by omega
          refine .inr ⟨⟨hv, h0⟩, fun p hp => ?_⟩
          have : k.toNat = 0 := by omega
          rw [this] at kn
          exact new_tup e Rps.nil kn hp
    · cases hz
  · cases hz
def mulF := orD mulI (orD mulT1 (orD mulT2 mulL))
theorem od_mulF : OpD X (binaryOp .Mult) mulF := OpD.or od_mul (OpD.or od_mulT1 (OpD.or od_mulT2 od_mulL))
end

/-! ### isinstance -/
inductive Ty where
  | int | bool | str | tuple | list | dict
def Ty.name : Ty → String
  | .int => "int" | .bool => "bool" | .str => "str" | .tuple => "tuple" | .list => "list" | .dict => "dict"
def isK : Ty → D → Bool
  | .int, .int _ => true
  | .int, .bl _ => true
  | .bool, .bl _ => true
  | .str, .str _ => true
  | .tuple, .tup _ => true
  | .list, .lst _ => true
  | .dict, .dct _ _ => true
  | _, _ => false
/-- what is neither an object nor the pen -/
def D.flat : D → Bool
  | .obj _ _ _ => false
  | .scr _ => false
  | .exc _ _ _ => false
  | .pen => false
  | _ => true
def tyN : D → String
  | .non => "NoneType" | .bl _ => "bool" | .int _ => "int" | .str _ => "str" | .tup _ => "tuple" | .lst _ => "list" | .dct _ _ => "dict" | _ => "object"
theorem kit_D (t : Ty) (d : D) (h : d.flat = true) : kitB (tyN d) t.name = some (isK t d) := by
  cases d with
  | obj c ns xs => cases h
  | exc c ns xs => cases h
  | scr ns => cases h
  | pen => cases h
  | _ => cases t <;> (simp only [tyN, Ty.name, isK]; decide +kernel)
theorem tyx_of {T : Tb} {F : Fz} {H : Hp} {d : D} {v : V} (e : Ex F.B H) (r : Rp T F d v) (h : d.flat = true) : TyX T.K H v (.type (tyN d)) := by
  cases d with
  | non => simp only [Rp] at r; subst r; exact .base .non
  | bl b => simp only [Rp] at r; subst r; exact .base (.bl b)
  | int b => simp only [Rp] at r; subst r; exact .base (.int b)
  | str b => simp only [Rp] at r; subst r; exact .base (.str b)
  | tup xs =>
    simp only [Rp] at r
    obtain ⟨a, vs, rfl, q, _⟩ := r
    rcases e.sqt q with (q | ⟨o, q⟩) | ⟨o, its, n, q, c, _⟩
    · exact .base (.tup q)
    · exact .fTuple q
    · exact .kTuple q c
  | lst xs =>
    simp only [Rp] at r
    obtain ⟨a, vs, rfl, q, _⟩ := r
    exact .base (.lst (e _ _ q))
  | dct ks xs =>
    simp only [Rp] at r
    obtain ⟨a, kvs, rfl, q, _⟩ := r
    exact .base (.dK (e _ _ q))
  | obj c ns xs => cases h
  | exc c ns xs => cases h
  | scr ns => cases h
  | pen => cases h
def isiD (t : Ty) (d : D) : Option D := if d.flat then some (.bl (isK t d)) else none
section
variable {g : Gx} {X : Cx} {e : Expr} {m : DE} {pos p pc : Pos}
theorem rp_of_bl {T : Tb} {F : Fz} {b : Bool} : Rp T F (.bl b) (.bl b) := by simp only [Rp]
/-- isinstance(e, T), T a built-in class -/
theorem de_isi (t : Ty) {x : Str} (hm : X.mg "isinstance" = none) (hx : X.mg x = none) (hb : bootBuiltins x = some (.type t.name)) (he : PDE g X e m) (hgx : Gl X x := by rfl) (hg : Gl X "isinstance" := by rfl) (hn : x ≠ "__name__" := by decide) (hdb : (x == ("__debug__" : Str)) = false := by decide)
    (s1 : starEach (e :: [.Name x pc]) X.env = (false, eval e X.env) :: starEach [.Name x pc] X.env := by rfl) (s2 : starEach [.Name x pc] X.env = (false, eval (.Name x pc) X.env) :: starEach [] X.env := by rfl)
    (hpl : (backTo pos (starEach [.Name x pc] X.env)).any (·.1) = false := by rfl) : PDE g X (.Call (.Name "isinstance" p) [e, .Name x pc] [] pos) (mUn (isiD t) m) :=
  pe_mono (pe_callB call_isi hg hm PyProof.Rows.boot_isinstance (pa_cons he (pa_cons (pe_bltn (v := .ty t.name) hgx hx hb rfl hn hdb) pa_nil s2) s1) (by decide) (by decide) s1 hpl) fun σ H Q h => by
    obtain ⟨F, δ, n, q, x, S, hm, kn, kx⟩ := h
    refine seqE S hm kx fun v d F1 H1 n1 f1 S1 kx1 r1 h1 => ?_
    obtain ⟨z, hz, hq⟩ := h1
    unfold isiD at hz
    split at hz
    · rename_i hf
      cases hz
      exact ⟨v, _, _, _, _, rfl, .ty _, tyx_of S1.ex r1 hf, kit_ty (kit_D t d hf), kn _ _ F1 H1 n1 f1 S1.pen rp_of_bl hq⟩
    · cases hz
end
end Dl

set_option Elab.async false
set_option linter.all false
set_option maxRecDepth 100000
set_option maxHeartbeats 2000000
namespace Dl
open PySem L2

/-! ### subscripts -/
def ixD : D → D → Option D
  | .lst xs, .int i => atI xs i
  | .tup xs, .int i => atI xs i
  | .str z, .int i => if z.length ≤ sizeLine then (atI z.cps.toList i).map fun c => .str ⟨#[c]⟩ else none
  | _, _ => none
theorem Rps.at {T : Tb} {F : Fz} {ds : List D} {vs : List V} {i : Int} {d : D} (r : Rps T F ds vs) (h : atI ds i = some d) : ∃ v, atI vs i = some v ∧ Rp T F d v := by
  unfold atI at h ⊢
  rw [r.length]
  cases e : ixN ds.length i with
  | none => rw [e] at h; cases h
  | some j =>
    rw [e] at h
    exact r.get h
section
variable {g : Gx} {X : Cx} {a b e : Expr} {ma mb m : DE} {pos : Pos}
theorem ixr_mono {r r' : R2} (h : IxR X r) (i : ∀ x y H Q, r' x y H Q → r x y H Q) : IxR X r' := fun value slice pins s σ H x y v u Q I rx ry q hs => h value slice pins s σ H x y v u Q I rx ry (i x y H Q q) hs
theorem ir_D : IxR X (lift2 (tb X) ixD) := ixr_mono ix_seq fun x y H Q ⟨F, a, b, z, e, r1, r2, hz, kn⟩ => by
  unfold ixD at hz
  split at hz
  · rename_i xs i
    simp only [Rp] at r1
    obtain ⟨p, vs, rfl, h1, z1⟩ := r1
    obtain ⟨v, hv, rv⟩ := z1.at hz
    exact .inl ⟨p, vs, i, v, rfl, rp_int.mp r2, SqL.of (e _ _ h1), hv, kn _ F H (Stp.refl e) rv⟩
  · rename_i xs i
    simp only [Rp] at r1
    obtain ⟨p, vs, rfl, h1, z1⟩ := r1
    obtain ⟨v, hv, rv⟩ := z1.at hz
    exact .inr (.inl ⟨p, vs, i, v, rfl, rp_int.mp r2, e.sqt h1, hv, kn _ F H (Stp.refl e) rv⟩)
  · rename_i w i
    split at hz
    · rename_i hl
      simp only [Option.map_eq_some_iff] at hz
      obtain ⟨c, hc, rfl⟩ := hz
      exact .inr (.inr ⟨w, i, c, rp_str.mp r1, rp_int.mp r2, hl, hc, kn _ F H (Stp.refl e) (by simp only [Rp])⟩)
    · cases hz
  · cases hz
theorem de_ix (ha : PDE g X a ma) (hb : PDE g X b mb) (hs : PlainIx b := by exact fun _ _ => rfl) : PDE g X (.Subscript a b pos) (mOp ixD ma mb) := pe_mono (pe_ix ir_D ha hb hs) fun σ H Q h => seq2 h
/-! ### slices -/
abbrev DO := Dn → Nat → (Option Int → Nat → Prop) → XD → Prop
def mNoP : DO := fun _ n q _ => q none n
def mP (m : DE) : DO := fun δ n q x => m δ n (fun d n1 => ∃ i, d = .int i ∧ q (some i) n1) x
def upO (T : Tb) (g : Gx) (m : DO) : TO := fun σ H Q => ∃ F δ n q x, Stt T g.F0 g.H0 F H σ δ n ∧ m δ n q x ∧ (∀ o F' H' n', Fwd F H F' H' → PenOk T F' H' n' → q o n' → Q o H') ∧ Kx T g.W σ F H x
abbrev PDO (g : Gx) (X : Cx) (o : Option Expr) (m : DO) : Prop := PO X o (upO (tb X) g m)
theorem po_mono {o : Option Expr} {t t' : TO} (h : PO X o t) (i : ∀ σ H Q, t' σ H Q → t σ H Q) : PO X o t' := ⟨fun pins s σ H Q I q => h.run pins s σ H Q I (i σ H Q q)⟩
theorem do_none : PDO g X none mNoP := po_mono po_none fun σ H Q h => by
  obtain ⟨F, δ, n, q, x, S, hm, kn, kx⟩ := h
  exact kn none F H n (Fwd.refl S.ex) S.pen hm
theorem do_some (h : PDE g X e m) : PDO g X (some e) (mP m) := po_mono (po_some h) fun σ H Q h => by
  obtain ⟨F, δ, n, q, x, S, hm, kn, kx⟩ := h
  refine seqE S hm kx fun v d F1 H1 n1 f1 S1 kx1 r1 h1 => ?_
  obtain ⟨i, rfl, hq⟩ := h1
  exact ⟨i, rp_int.mp r1, kn _ F1 H1 n1 f1 S1.pen hq⟩
def cutD {α : Type} (xs : List α) (lo hi : Option Int) : List α := (xs.drop (HT.sIx xs.length 0 lo)).take (HT.sIx xs.length xs.length hi - HT.sIx xs.length 0 lo)
def slD (d : D) (lo hi : Option Int) : Option D := match d with
  | .lst xs => some (.lst (cutD xs lo hi))
  | .tup xs => some (.tup (cutD xs lo hi))
  | .str z => if z.length ≤ sizeLine then some (.str (cutS z lo hi)) else none
  | _ => none
def mSl (a : DE) (l u : DO) : DE := fun δ n q x => a δ n (fun d n1 => l δ n1 (fun lo n2 => u δ n2 (fun hi n3 => ∃ z, slD d lo hi = some z ∧ q z n3) x) x) x
theorem Rps.cut {T : Tb} {F : Fz} {ds : List D} {vs : List V} {lo hi : Option Int} (r : Rps T F ds vs) : Rps T F (cutD ds lo hi) (cutV vs lo hi) := by
  unfold cutD cutV
  rw [r.length]
  exact (r.drop _).take _
theorem cutD_whole {ds : List D} {lo hi : Option Int} (h : HT.sIx ds.length 0 lo = 0 ∧ HT.sIx ds.length ds.length hi = ds.length) : cutD ds lo hi = ds := by
  unfold cutD
  rw [h.1, h.2]
  simp
theorem seqO {T : Tb} {σ : St} {H : Hp} {F : Fz} {δ : Dn} {n : Nat} {x : XD} {m : DO} {q : Option Int → Nat → Prop} {Q : Option Int → Hp → Prop} (S : Stt T g.F0 g.H0 F H σ δ n) (h : m δ n q x) (kx : Kx T g.W σ F H x)
    (k : ∀ b F' H' n', Fwd F H F' H' → Stt T g.F0 g.H0 F' H' σ δ n' → Kx T g.W σ F' H' x → q b n' → Q b H') : upO T g m σ H Q :=
  ⟨F, δ, n, q, x, S, h, fun b F' H' n' f p hq => k b F' H' n' f (S.go f p) (kx.go f) hq, kx⟩
theorem de_slice {lo hi : Option Expr} {ml mu : DO} {p2 : Pos} (he : PDE g X e m) (hl : PDO g X lo ml) (hu : PDO g X hi mu) : PDE g X (.Subscript e (.Slice lo hi none p2) pos) (mSl m ml mu) :=
  pe_mono (pe_slice (sl_list.or (sl_tupA.or sl_str)) he hl hu) fun σ H Q h => by
    obtain ⟨F, δ, n, q, x, S, hm, kn, kx⟩ := h
    refine seqE S hm kx fun v d F1 H1 n1 f1 S1 kx1 r1 h1 => ?_
    refine seqO S1 h1 kx1 fun lo F2 H2 n2 f2 S2 kx2 h2 => ?_
    refine seqO S2 h2 kx2 fun hi F3 H3 n3 f3 S3 kx3 h3 => ?_
    obtain ⟨z, hz, hq⟩ := h3
    have r3 := Rp.mono (f2.le.trans f3.le) _ _ r1
    have kn' : ∀ u F' H', Stp F3 H3 F' H' → Rp (tb X) F' z u → Q u H' := fun u F' H' s r => kn u z F' H' n3 (((f1.trans f2).trans f3).trans s.f) (s.pen S3.pen) r hq
    cases d with
    | lst xs =>
      simp only [slD, Option.some.injEq] at hz
      subst hz
      simp only [Rp] at r3
      obtain ⟨p, vs, rfl, h1, z1⟩ := r3
      exact .inl ⟨p, vs, rfl, SqL.of (S3.ex _ _ h1), fun r hr => new_lst S3.ex z1.cut kn' hr⟩
    | tup xs =>
      simp only [slD, Option.some.injEq] at hz
      subst hz
      have q3 := r3
      simp only [Rp] at r3
      obtain ⟨p, vs, rfl, h1, z1⟩ := r3
      refine .inr (.inl ⟨p, vs, rfl, S3.ex.sqt h1, fun hw => ?_, fun hw r hr => new_tup S3.ex z1.cut kn' hr⟩)
      rw [z1.length] at hw
      refine kn' _ F3 H3 (Stp.refl S3.ex) ?_
      rw [cutD_whole hw]
      exact q3
    | str w =>
      simp only [slD] at hz
      split at hz
      · rename_i hl
        cases hz
        exact .inr (.inr ⟨w, rp_str.mp r3, hl, kn' _ F3 H3 (Stp.refl S3.ex) (by simp only [Rp])⟩)
      · cases hz
    | _ => cases hz
end
section
variable {X : Cx}
/-! ### len, tuple, list, int, abs -/
def lenN : List D → Option D
  | [.str x] => if x.length ≤ sizeLine then some (.int x.length) else none
  | [.tup xs] => some (.int xs.length)
  | [.lst xs] => some (.int xs.length)
  | _ => none
theorem rps1 {T : Tb} {F : Fz} {d : D} {vs : List V} (r : Rps T F [d] vs) : ∃ v, vs = [v] ∧ Rp T F d v := by
  obtain ⟨v, q, rfl, r1, r2⟩ := r.inv_cons
  rw [r2.inv_nil]
  exact ⟨v, rfl, r1⟩
theorem cd_len : CallD X (.builtin "len") lenN := callr_mono call_len fun xs H Q ⟨F, ds, z, e, rd, hz, kn⟩ => by
  unfold lenN at hz
  split at hz
  · rename_i x
    obtain ⟨v, rfl, r1⟩ := rps1 rd
    split at hz
    · rename_i hl
      cases hz
      cases rp_str.mp r1
      exact ⟨_, x.length, rfl, ⟨hl, rfl⟩, kn _ F H (Stp.refl e) (by simp only [Rp])⟩
    · cases hz
  · rename_i ys
    obtain ⟨v, rfl, r1⟩ := rps1 rd
    cases hz
    simp only [Rp] at r1
    obtain ⟨p, vs, rfl, h1, z1⟩ := r1
    exact ⟨_, ys.length, rfl, .inr ⟨vs, e.sqt h1, z1.length.symm⟩, kn _ F H (Stp.refl e) (by simp only [Rp])⟩
  · rename_i ys
    obtain ⟨v, rfl, r1⟩ := rps1 rd
    cases hz
    simp only [Rp] at r1
    obtain ⟨p, vs, rfl, h1, z1⟩ := r1
    exact ⟨_, ys.length, rfl, .inl ⟨vs, SqL.of (e _ _ h1), z1.length.symm⟩, kn _ F H (Stp.refl e) (by simp only [Rp])⟩
  · cases hz
def tupleN : List D → Option D
  | [.lst xs] => some (.tup xs)
  | [.tup xs] => some (.tup xs)
  | _ => none
def listN : List D → Option D
  | [.lst xs] => some (.lst xs)
  | [.tup xs] => some (.lst xs)
  | _ => none
theorem cd_tuple : CallD X (.type "tuple") tupleN := callr_mono call_tuple_of fun xs H Q ⟨F, ds, z, e, rd, hz, kn⟩ => by
  unfold tupleN at hz
  split at hz
  · rename_i ys
    obtain ⟨v, rfl, r1⟩ := rps1 rd
    cases hz
    simp only [Rp] at r1
    obtain ⟨p, vs, rfl, h1, z1⟩ := r1
    exact ⟨p, vs, rfl, .inl ⟨SqL.of (e _ _ h1), fun l hl => new_tup e z1 kn hl⟩⟩
  · rename_i ys
    obtain ⟨v, rfl, r1⟩ := rps1 rd
    cases hz
    have q1 := r1
    simp only [Rp] at r1
    obtain ⟨p, vs, rfl, h1, z1⟩ := r1
    exact ⟨p, vs, rfl, .inr ⟨e.sqt h1, kn _ F H (Stp.refl e) q1⟩⟩
  · cases hz
theorem cd_list : CallD X (.type "list") listN := callr_mono call_list_of fun xs H Q ⟨F, ds, z, e, rd, hz, kn⟩ => by
  unfold listN at hz
  split at hz
  · rename_i ys
    obtain ⟨v, rfl, r1⟩ := rps1 rd
    cases hz
    simp only [Rp] at r1
    obtain ⟨p, vs, rfl, h1, z1⟩ := r1
    exact ⟨p, vs, rfl, .inl (SqL.of (e _ _ h1)), fun l hl => new_lst e z1 kn hl⟩
  · rename_i ys
    obtain ⟨v, rfl, r1⟩ := rps1 rd
    cases hz
    simp only [Rp] at r1
    obtain ⟨p, vs, rfl, h1, z1⟩ := r1
    exact ⟨p, vs, rfl, .inr (e.sqt h1), fun l hl => new_lst e z1 kn hl⟩
  · cases hz
def intN : List D → Option D
  | [.int i] => some (.int i)
  | [.bl b] => some (.int (if b then 1 else 0))
  | _ => none
theorem cd_int : CallD X (.type "int") intN := callr_mono call_int1 fun xs H Q ⟨F, ds, z, e, rd, hz, kn⟩ => by
  unfold intN at hz
  split at hz
  · rename_i i
    obtain ⟨v, rfl, r1⟩ := rps1 rd
    cases hz
    cases rp_int.mp r1
    exact .inl ⟨i, rfl, kn _ F H (Stp.refl e) r1⟩
  · rename_i b
    obtain ⟨v, rfl, r1⟩ := rps1 rd
    cases hz
    cases rp_bl r1
    exact .inr ⟨b, rfl, kn _ F H (Stp.refl e) (by simp only [Rp])⟩
  · cases hz
def absN : List D → Option D
  | [.int i] => some (.int (if i < 0 then -i else i))
  | _ => none
theorem cd_abs : CallD X (.builtin "abs") absN := callr_mono call_abs fun xs H Q ⟨F, ds, z, e, rd, hz, kn⟩ => by
  unfold absN at hz
  split at hz
  · rename_i i
    obtain ⟨v, rfl, r1⟩ := rps1 rd
    cases hz
    cases rp_int.mp r1
    exact ⟨i, rfl, kn _ F H (Stp.refl e) (by simp only [Rp])⟩
  · cases hz
end
end Dl

set_option Elab.async false
set_option linter.all false
set_option maxRecDepth 100000
set_option maxHeartbeats 2000000
namespace Dl
open PySem L2

/-! ### calls with keywords -/
def arr {α : Type} (pm : List Nat) (l : List α) : List α := pm.filterMap fun i => l[i]?
structure KB (K : PySem.W.Frag) (fd : FuncData) (ps : List Str) (m : Nat) (ks : List Str) (pm : List Nat) : Prop where
  to : ∀ (s : Shared) (us ws : List Value), K.In s.heap → us.length = m → ws.length = ks.length → BindsTo s fd ⟨us, ks.zip ws⟩ (ps.zip (arr pm (us ++ ws)))
theorem kb_of {K : PySem.W.Frag} {x qual : Str} {st : Stmt} {f : Addr} {fd : FuncData} {ps ks : List Str} {m : Nat} {pm : List Nat} (F : Fun K x qual st f fd)
    (h : ∀ (kV doc pmv : Value) (an : Option Addr) (cdv ct : Value) (us ws : List Value), us.length = m → ws.length = ks.length → bindArgs (PySem.W.fnOf x qual (defArgs st) (defBody st) (defScope st) .none kV doc pmv an cdv ct) ⟨us, ks.zip ws⟩ = pure (ps.zip (arr pm (us ++ ws)))) : KB K fd ps m ks pm := by
  obtain ⟨oc, od, kV, doc, pmv, an, cdv, ct, osl, rfl, lk, hcd⟩ := F.ex
  exact ⟨fun s us ws _ h1 h2 => .of_eq (h kV doc pmv an cdv ct us ws h1 h2)⟩
theorem vals_arr {vs : List V} {us : List Value} (r : Vals vs us) : ∀ pm : List Nat, Vals (arr pm vs) (arr pm us)
  | [] => .nil
  | i :: pm => by
    unfold arr
    rw [List.filterMap_cons, List.filterMap_cons]
    cases e : vs[i]? with
    | none =>
      rw [r.none_of e]
      exact vals_arr r pm
    | some v =>
      obtain ⟨u, hu, rv⟩ := r.get e
      rw [hu]
      exact .cons rv (vals_arr r pm)
theorem rps_arr {T : Tb} {F : Fz} {ds : List D} {vs : List V} (r : Rps T F ds vs) : ∀ pm : List Nat, Rps T F (arr pm ds) (arr pm vs)
  | [] => Rps.nil
  | i :: pm => by
    unfold arr
    rw [List.filterMap_cons, List.filterMap_cons]
    cases e : ds[i]? with
    | none =>
      have : vs[i]? = none := by
        rw [List.getElem?_eq_none_iff] at e ⊢
        rw [r.length]
        exact e
      rw [this]
      exact rps_arr r pm
    | some d =>
      obtain ⟨u, hu, rv⟩ := r.get e
      rw [hu]
      exact Rps.cons rv (rps_arr r pm)
abbrev PDK (g : Gx) (X : Cx) (kws : List Keyword) (m : DA) : Prop := PK X kws (upA (tb X) g m)
theorem pk_mono {X : Cx} {kws : List Keyword} {t t' : TA} (h : PK X kws t) (i : ∀ σ H Q, t' σ H Q → t σ H Q) : PK X kws t' := ⟨fun pos pins s σ H Q I q => h.run pos pins s σ H Q I (i σ H Q q)⟩
section
variable {g : Gx} {X : Cx} {k : Nat} {f : Addr} {fd : FuncData} {ps ks : List Str} {sp : SpD} {x : Str} {p pos kpos : Pos} {e : Expr} {es : List Expr} {kws : List Keyword} {m : DE} {mr ma mk : DA} {nm : Option Str}
theorem dk_nil : PDK g X [] mNil := pk_mono pk_nil fun σ H Q h => by
  obtain ⟨F, δ, n, q, x, S, hm, kn, kx⟩ := h
  exact kn [] [] F H n (Fwd.refl S.ex) S.pen Rps.nil hm
theorem dk_cons (ha : PDE g X e m) (hr : PDK g X kws mr) : PDK g X (⟨nm, e, kpos⟩ :: kws) (mCons m mr) := pk_mono (pk_cons ha hr) fun σ H Q h => by
  obtain ⟨F, δ, n, q, x, S, hm, kn, kx⟩ := h
  refine seqE S hm kx fun v d F1 H1 n1 f1 S1 kx1 r1 h1 => ?_
  refine seqA S1 h1 kx1 fun w d2 F2 H2 n2 f2 S2 kx2 r2 h2 => ?_
  exact kn _ _ F2 H2 n2 (f1.trans f2) S2.pen (Rps.cons (Rp.mono f2.le _ _ r1) r2) h2
/-- f(a, .., k = v, ..): the parameters' values, by their places among the arguments and the keywords' values -/
def mFnK (sp : SpD) (pm : List Nat) (m nk : Nat) (a b : DA) : DE := fun δ n q x => a δ n (fun ds n1 => b δ n1 (fun es n2 => ds.length = m ∧ es.length = nk ∧ sp (arr pm (ds ++ es)) n2 q x) x) x
theorem run_kw {pm : List Nat} {mm : Nat} {pins : List (Addr × Obj)} {σ : St} {H : Hp} {s : Shared} {Q : VK} {us ws : List Value} {vs zs : List V} (Fn : FnD X.prog X.w X.K X.mg X.base k f fd ps sp) (tk : Takes X g.W) (hr : Room k X.A) (hb : KB X.K fd ps mm ks pm) (I : Inv X pins σ H s) (r : Vals vs us) (rz : Vals zs ws)
    (l1 : us.length = mm) (l2 : ws.length = ks.length) (h : upF (tb X) sp (arr pm (vs ++ zs)) H Q fun cls d H' => g.W cls d σ H') : wpAny (model X.prog X.w) X.A (call (.ref f) us (ks.zip ws)) (EP X pins σ Q) X.xe s := by
  refine PySem.wpAny_call (codeAny_mono (Fn.run X.A X.stack s H ⟨us, ks.zip ws⟩ (arr pm (us ++ ws)) (arr pm (vs ++ zs)) Q _ hr I.env0 (hb.to s us ws I.kIn l1 l2) (vals_arr (r.append rz) pm) h) fun r s' hq => ?_)
  cases r with
  | error e => exact passAt tk σ pins H s e s' I hq
  | ok fl =>
    cases fl with
    | ret u => exact I.after hq
    | next => exact hq.elim
    | brk => exact hq.elim
    | cont => exact hq.elim
theorem de_callK {pm : List Nat} {mm : Nat} (Fn : FnD X.prog X.w X.K X.mg X.base k f fd ps sp) (tk : Takes X g.W) (hr : Room k X.A) (hm : X.mg x = some (.ref f)) (hk : PySem.W.keepIn X.K (.ref f) = true) (hb : KB X.K fd ps mm ks pm) (ha : PDA g X (e :: es) ma) (hkw : PDK g X kws mk) (hg : Gl X x := by rfl)
    (hall : (backToKw pos (keywordEach kws X.env)).all (·.1.isSome) = true := by rfl) (hks : (backToKw pos (keywordEach kws X.env)).filterMap (·.1) = ks := by rfl)
    (hdb : (x == ("__debug__" : Str)) = false := by decide) (he : starEach (e :: es) X.env = (false, eval e X.env) :: starEach es X.env := by rfl)
    (hpl : ((backTo pos (starEach (e :: es) X.env)).any (·.1) || (backToKw pos (keywordEach kws X.env)).any (·.1.isNone)) = false := by rfl) :
    PDE g X (.Call (.Name x p) (e :: es) kws pos) (mFnK sp pm mm ks.length ma mk) := by
  refine ⟨fun pins s σ H Q I h => ?_⟩
  refine PySem.wpAny_Call_Name_kw (ld_glob I hg hm ?_ hdb)
  have h2 : upA (tb X) g ma σ H (fun vs H1 => upA (tb X) g mk σ H1 fun zs H2 => vs.length = mm ∧ zs.length = ks.length ∧ upF (tb X) sp (arr pm (vs ++ zs)) H2 Q (fun cls d H' => g.W cls d σ H')) := by
    obtain ⟨F, δ, n, q, x, S, hm, kn, kx⟩ := h
    refine seqA S hm kx fun vs ds F1 H1 n1 f1 S1 kx1 r1 h1 => ?_
    refine seqA S1 h1 kx1 fun zs es F2 H2 n2 f2 S2 kx2 r2 h2 => ?_
    obtain ⟨l1, l2, h2⟩ := h2
    refine ⟨by rw [r1.length]; exact l1, by rw [r2.length]; exact l2, ?_⟩
    exact fn_of_data (E := fun σ cls d H' => g.W cls d σ H') rfl S2 kx2 (rps_arr ((Rps.mono f2.le _ _ r1).append r2) pm) h2 fun v d F' H' n' f' p' r' e => kn v d F' H' n' ((f1.trans f2).trans f') p' r' e
  refine PySem.W.callWith_KW (h₀ := X.base) I.ok.mod.kin hk hall (thn (ha.run pos pins s σ H _ I h2) fun us s1 ⟨vs, H1, I1, r, q⟩ => ?_) hpl he
  refine thn (hkw.run pos pins s1 σ H1 _ I1 q) fun ws s2 ⟨zs, H2, I2, rz, l1, l2, q2⟩ => ⟨I2.kIn, ?_⟩
  rw [hks]
  exact run_kw (us := us) Fn tk hr hb I2 r rz (by rw [← r.length]; exact l1) (by rw [← rz.length]; exact l2) q2
theorem de_callK0 {pm : List Nat} {kw : Keyword} (Fn : FnD X.prog X.w X.K X.mg X.base k f fd ps sp) (tk : Takes X g.W) (hr : Room k X.A) (hm : X.mg x = some (.ref f)) (hk : PySem.W.keepIn X.K (.ref f) = true) (hb : KB X.K fd ps 0 ks pm) (hkw : PDK g X (kw :: kws) mk) (hg : Gl X x := by rfl)
    (hall : (backToKw pos (keywordEach (kw :: kws) X.env)).all (·.1.isSome) = true := by rfl) (hks : (backToKw pos (keywordEach (kw :: kws) X.env)).filterMap (·.1) = ks := by rfl)
    (hdb : (x == ("__debug__" : Str)) = false := by decide)
    (hpl : ((backTo pos (starEach [] X.env)).any (·.1) || (backToKw pos (keywordEach (kw :: kws) X.env)).any (·.1.isNone)) = false := by rfl) :
    PDE g X (.Call (.Name x p) [] (kw :: kws) pos) (mFnK sp pm 0 ks.length mNil mk) := by
  refine ⟨fun pins s σ H Q I h => ?_⟩
  refine PySem.wpAny_Call_Name_kw (ld_glob I hg hm ?_ hdb)
  have h2 : upA (tb X) g mk σ H fun zs H2 => zs.length = ks.length ∧ upF (tb X) sp (arr pm ([] ++ zs)) H2 Q (fun cls d H' => g.W cls d σ H') := by
    obtain ⟨F, δ, n, q, x, S, hm, kn, kx⟩ := h
    refine seqA S hm kx fun zs es F2 H2 n2 f2 S2 kx2 r2 h2 => ?_
    obtain ⟨_, l2, h2⟩ := h2
    refine ⟨by rw [r2.length]; exact l2, ?_⟩
    exact fn_of_data (E := fun σ cls d H' => g.W cls d σ H') rfl S2 kx2 (rps_arr (Rps.nil.append r2) pm) h2 fun v d F' H' n' f' p' r' e => kn v d F' H' n' (f2.trans f') p' r' e
  refine PySem.W.callWith_KW0 (h₀ := X.base) I.ok.mod.kin hk hall (thn (hkw.run pos pins s σ H _ I h2) fun ws s2 ⟨zs, H2, I2, rz, l2, q2⟩ => ⟨I2.kIn, ?_⟩) hpl
  rw [hks]
  exact run_kw (vs := []) (us := []) Fn tk hr hb I2 .nil rz rfl (by rw [← rz.length]; exact l2) q2
end
end Dl

set_option Elab.async false
set_option linter.all false
set_option maxRecDepth 100000
set_option maxHeartbeats 2000000
namespace Dl
open PySem L2

/-! ### built-ins by name -/
theorem bb_int : bootBuiltins "int" = some (.type Ty.int.name) := by decide +kernel
theorem bb_bool : bootBuiltins "bool" = some (.type Ty.bool.name) := by decide +kernel
theorem bb_str : bootBuiltins "str" = some (.type Ty.str.name) := by decide +kernel
theorem bb_tuple : bootBuiltins "tuple" = some (.type Ty.tuple.name) := by decide +kernel
theorem bb_list : bootBuiltins "list" = some (.type Ty.list.name) := by decide +kernel
theorem bb_dict : bootBuiltins "dict" = some (.type Ty.dict.name) := by decide +kernel
theorem bb_len : bootBuiltins "len" = some (.builtin "len") := by decide +kernel
theorem bb_abs : bootBuiltins "abs" = some (.builtin "abs") := by decide +kernel
theorem bb_repr : bootBuiltins "repr" = some (.builtin "repr") := by decide +kernel
/-! ### a def of the text, called -/
structure Cal (P : Program) (w : World) (K : PySem.W.Frag) (mg : Str → Option Value) (base : Heap) (x : Str) (st : Stmt) (ps : List Str) (k : Nat) (sp : SpD) : Prop where
  ex : ∃ f fd, Fun K x x st f fd ∧ FnD P w K mg base k f fd ps sp ∧ mg x = some (.ref f) ∧ Binds K fd ps []
structure CalG (P : Program) (w : World) (K : PySem.W.Frag) (mg : Str → Option Value) (base : Heap) (x : Str) (st : Stmt) (ps : List Str) (k : Nat) (sp : SpD) : Prop where
  ex : ∃ f fd, Fun K x x st f fd ∧ FnDG P w K mg base k f fd ps sp ∧ mg x = some (.ref f) ∧ Binds K fd ps []
theorem Cal.g {P : Program} {w : World} {K : PySem.W.Frag} {mg : Str → Option Value} {base : Heap} {x : Str} {st : Stmt} {ps : List Str} {k : Nat} {sp : SpD} (c : Cal P w K mg base x st ps k sp) : CalG P w K mg base x st ps k sp := by
  obtain ⟨f, fd, a, b, d, e⟩ := c.ex
  exact ⟨f, fd, a, FnG.of b, d, e⟩
section
variable {g : Gx} {X : Cx} {k j : Nat} {ps ks : List Str} {sp : SpD} {x : Str} {st : Stmt} {p pos : Pos} {e : Expr} {es : List Expr} {kws : List Keyword} {ma mk : DA}
theorem de_cal (C : Cal X.prog X.w X.K X.mg X.base x st ps k sp) (tk : Takes X g.W) (hr : Room j X.A) (ha : PDA g X (e :: es) ma) (hj : k ≤ j := by decide) (hg : Gl X x := by rfl)
    (hdb : (x == ("__debug__" : Str)) = false := by decide) (he : starEach (e :: es) X.env = (false, eval e X.env) :: starEach es X.env := by rfl) (hpl : (backTo pos (starEach es X.env)).any (·.1) = false := by rfl) :
    PDE g X (.Call (.Name x p) (e :: es) [] pos) (mFn sp ma) := by
  obtain ⟨f, fd, F, Fn, hm, hb⟩ := C.ex
  exact de_call Fn tk (hr.mono hj) hm F.kp hb ha hg hdb he hpl
theorem de_calG (C : CalG X.prog X.w X.K X.mg X.base x st ps k sp) (gd : X.A.guards = some []) (tk : Takes X g.W) (hr : Room j X.A) (ha : PDA g X (e :: es) ma) (hj : k ≤ j := by decide) (hg : Gl X x := by rfl)
    (hdb : (x == ("__debug__" : Str)) = false := by decide) (he : starEach (e :: es) X.env = (false, eval e X.env) :: starEach es X.env := by rfl) (hpl : (backTo pos (starEach es X.env)).any (·.1) = false := by rfl) :
    PDE g X (.Call (.Name x p) (e :: es) [] pos) (mFn sp ma) := by
  obtain ⟨f, fd, F, Fn, hm, hb⟩ := C.ex
  exact de_callG Fn gd tk (hr.mono hj) hm F.kp hb ha hg hdb he hpl
theorem de_calK0 {pm : List Nat} {kw : Keyword} (C : Cal X.prog X.w X.K X.mg X.base x st ps k sp) (tk : Takes X g.W) (hr : Room j X.A)
    (hb : ∀ (kV doc pmv : Value) (an : Option Addr) (cdv ct : Value) (us ws : List Value), us.length = 0 → ws.length = ks.length → bindArgs (PySem.W.fnOf x x (defArgs st) (defBody st) (defScope st) .none kV doc pmv an cdv ct) ⟨us, ks.zip ws⟩ = pure (ps.zip (arr pm (us ++ ws))))
    (hkw : PDK g X (kw :: kws) mk) (hj : k ≤ j := by decide) (hg : Gl X x := by rfl)
    (hall : (backToKw pos (keywordEach (kw :: kws) X.env)).all (·.1.isSome) = true := by rfl) (hks : (backToKw pos (keywordEach (kw :: kws) X.env)).filterMap (·.1) = ks := by rfl)
    (hdb : (x == ("__debug__" : Str)) = false := by decide)
    (hpl : ((backTo pos (starEach [] X.env)).any (·.1) || (backToKw pos (keywordEach (kw :: kws) X.env)).any (·.1.isNone)) = false := by rfl) :
    PDE g X (.Call (.Name x p) [] (kw :: kws) pos) (mFnK sp pm 0 ks.length mNil mk) := by
  obtain ⟨f, fd, F, Fn, hm, _⟩ := C.ex
  exact de_callK0 Fn tk (hr.mono hj) hm F.kp (kb_of F hb) hkw hg hall hks hdb hpl
theorem de_calK {pm : List Nat} {mm : Nat} (C : Cal X.prog X.w X.K X.mg X.base x st ps k sp) (tk : Takes X g.W) (hr : Room j X.A)
    (hb : ∀ (kV doc pmv : Value) (an : Option Addr) (cdv ct : Value) (us ws : List Value), us.length = mm → ws.length = ks.length → bindArgs (PySem.W.fnOf x x (defArgs st) (defBody st) (defScope st) .none kV doc pmv an cdv ct) ⟨us, ks.zip ws⟩ = pure (ps.zip (arr pm (us ++ ws))))
    (ha : PDA g X (e :: es) ma) (hkw : PDK g X kws mk) (hj : k ≤ j := by decide) (hg : Gl X x := by rfl)
    (hall : (backToKw pos (keywordEach kws X.env)).all (·.1.isSome) = true := by rfl) (hks : (backToKw pos (keywordEach kws X.env)).filterMap (·.1) = ks := by rfl)
    (hdb : (x == ("__debug__" : Str)) = false := by decide) (he : starEach (e :: es) X.env = (false, eval e X.env) :: starEach es X.env := by rfl)
    (hpl : ((backTo pos (starEach (e :: es) X.env)).any (·.1) || (backToKw pos (keywordEach kws X.env)).any (·.1.isNone)) = false := by rfl) :
    PDE g X (.Call (.Name x p) (e :: es) kws pos) (mFnK sp pm mm ks.length ma mk) := by
  obtain ⟨f, fd, F, Fn, hm, _⟩ := C.ex
  exact de_callK Fn tk (hr.mono hj) hm F.kp (kb_of F hb) ha hkw hg hall hks hdb he hpl
/-- a module's number, text -/
theorem de_gint {i : Int} (h : ∃ t, X.mg x = some (.int i t)) (hg : Gl X x := by rfl) (hdb : (x == ("__debug__" : Str)) = false := by decide) : PDE g X (.Name x pos) (mC (.int i)) := by
  obtain ⟨t, h⟩ := h
  exact de_glob (v := .int i) h ⟨t, rfl⟩ (fun _ _ => by simp only [Rp]) hg hdb
theorem de_gstr {i : Str} (h : ∃ t, X.mg x = some (.str i t)) (hg : Gl X x := by rfl) (hdb : (x == ("__debug__" : Str)) = false := by decide) : PDE g X (.Name x pos) (mC (.str i)) := by
  obtain ⟨t, h⟩ := h
  exact de_glob (v := .str i) h ⟨t, rfl⟩ (fun _ _ => by simp only [Rp]) hg hdb
end
/-- {} -/
theorem de_dnew {g : Gx} {X : Cx} {pos : Pos} : PDE g X (.Dict [] [] pos) (mC (.dct [] [])) := pe_mono pe_dnewK fun σ H Q h => by
  obtain ⟨F, δ, n, q, x, S, hq, kn, kx⟩ := h
  intro p hp
  have s := Stp.new (o := .dK []) S.ex hp
  refine kn _ _ _ _ n s.f (s.pen S.pen) ?_ hq
  simp only [Rp]
  exact ⟨p, [], rfl, upd_same, Rps.nil, Rps.nil⟩
/-! ### a, b = x, y -/
def mPar2 (i j : Nat) (a : DA) : DS := fun E δ n => a δ n (fun ds n1 => ∃ u v, ds = [u, v] ∧ E.nx ((δ.set i (some (.d u))).set j (some (.d v))) n1) (xOf E.rs δ)
def mPar3 (i j l : Nat) (a : DA) : DS := fun E δ n => a δ n (fun ds n1 => ∃ u v w, ds = [u, v, w] ∧ E.nx (((δ.set i (some (.d u))).set j (some (.d v))).set l (some (.d w))) n1) (xOf E.rs δ)
section
variable {g : Gx} {X : Cx} {a b c : Expr} {ma : DA} {pos : Pos}
theorem ds_par2 {i j : Nat} {x y : Str} {px py pt : Pos} {kt k2 pt2} (hc : X.calm = true) (hN : X.N.Nodup) (ha : PDA g X [a, b] ma) (hi : X.N[i]? = some x := by rfl) (hj : X.N[j]? = some y := by rfl) (hij : i ≠ j := by decide)
    (hx : X.env.scope.names.lookup x = some .local := by rfl) (hy : X.env.scope.names.lookup y = some .local := by rfl)
    (hw : swappedStores [.Tuple [.Name x px, .Name y py] kt pt] (.Tuple [a, b] k2 pt2) X.env = pure (some [x, y]) := by rfl)
    (hs : swapsWithSole [.Tuple [.Name x px, .Name y py] kt pt] (.Tuple [a, b] k2 pt2) pos.line X.env = pure false := by rfl) :
    PDS g X (.Assign [.Tuple [.Name x px, .Name y py] kt pt] (.Tuple [a, b] k2 pt2) pos) (mPar2 i j ma) := ps_mono (ps_par hc hN hi hj hij hx hy ha hw hs) fun D' σ H h => by
  obtain ⟨F, δ, n, E, S, hm, k⟩ := h
  refine seqA S hm (k.kx S) fun vs ds F1 H1 n1 f1 S1 kx1 r1 h1 => ?_
  obtain ⟨u, v, rfl, hq⟩ := h1
  obtain ⟨v1, q1, rfl, r2, r3⟩ := r1.inv_cons
  obtain ⟨v2, rfl, r4⟩ := rps1 r3
  exact ⟨v1, v2, rfl, k.nx _ _ F1 H1 n1 f1.le ((S1.set r2).set r4) hq⟩
theorem ds_par3 {i j l : Nat} {x y z : Str} {px py pz pt : Pos} {kt k2 pt2} (hc : X.calm = true) (hN : X.N.Nodup) (ha : PDA g X [a, b, c] ma) (hi : X.N[i]? = some x := by rfl) (hj : X.N[j]? = some y := by rfl) (hl : X.N[l]? = some z := by rfl) (hij : i ≠ j := by decide) (hil : i ≠ l := by decide) (hjl : j ≠ l := by decide)
    (hx : X.env.scope.names.lookup x = some .local := by rfl) (hy : X.env.scope.names.lookup y = some .local := by rfl) (hz : X.env.scope.names.lookup z = some .local := by rfl)
    (hw : swappedStores [.Tuple [.Name x px, .Name y py, .Name z pz] kt pt] (.Tuple [a, b, c] k2 pt2) X.env = pure (some [x, y, z]) := by rfl)
    (hs : swapsWithSole [.Tuple [.Name x px, .Name y py, .Name z pz] kt pt] (.Tuple [a, b, c] k2 pt2) pos.line X.env = pure false := by rfl) :
    PDS g X (.Assign [.Tuple [.Name x px, .Name y py, .Name z pz] kt pt] (.Tuple [a, b, c] k2 pt2) pos) (mPar3 i j l ma) := ps_mono (ps_par3 hc hN hi hj hl hij hil hjl hx hy hz ha hw hs) fun D' σ H h => by
  obtain ⟨F, δ, n, E, S, hm, k⟩ := h
  refine seqA S hm (k.kx S) fun vs ds F1 H1 n1 f1 S1 kx1 r1 h1 => ?_
  obtain ⟨u, v, w, rfl, hq⟩ := h1
  obtain ⟨v1, q1, rfl, r2, r3⟩ := r1.inv_cons
  obtain ⟨v2, q2, rfl, r4, r5⟩ := r3.inv_cons
  obtain ⟨v3, rfl, r6⟩ := rps1 r5
  exact ⟨v1, v2, v3, rfl, k.nx _ _ F1 H1 n1 f1.le (((S1.set r2).set r4).set r6) hq⟩
end
end Dl

set_option Elab.async false
set_option linter.all false
set_option maxRecDepth 100000
set_option maxHeartbeats 2000000
namespace Dl
open PySem L2
/-! ### loops and comprehensions by what a turn does -/
/-- a comprehension whose turns are plain: each item gives a datum, or none -/
theorem lcL_pure {G : DG} {mt : DT} {me : DE} {δ0 : Dn} {k : List D → Nat → Prop} {n : Nat} (f : D → Option D) : ∀ (ds acc : List D),
    (∀ d ∈ ds, ∀ (kont : Option D → Nat → Prop), kont (f d) n → G d δ0 fun δ' => mt δ' n (fun b n1 => if b = true then me δ' n1 (fun y n2 => kont (some y) n2) X0 else kont none n1) X0) →
    acc.length + ds.length ≤ sizeLine → k (acc ++ ds.filterMap f) n → lcL G mt me δ0 k ds acc n
  | [], acc, _, _, hk => by
    rw [List.filterMap_nil, List.append_nil] at hk
    exact hk
  | d :: ds, acc, h, hl, hk => by
    rw [List.length_cons] at hl
    have ih := fun acc' => lcL_pure (k := k) f ds acc' fun d' hd' => h d' (List.mem_cons_of_mem _ hd')
    refine h d List.mem_cons_self (fun o n' => match o with | some y => acc.length < sizeLine ∧ lcL G mt me δ0 k ds (acc ++ [y]) n' | none => lcL G mt me δ0 k ds acc n') ?_
    rw [List.filterMap_cons] at hk
    cases e : f d with
    | none =>
      rw [e] at hk
      exact ih acc (by omega) hk
    | some y =>
      rw [e] at hk
      exact ⟨by omega, ih (acc ++ [y]) (by rw [List.length_append, List.length_singleton]; omega) (by rw [List.append_assoc]; exact hk)⟩
/-- a loop that searches: it hands back r at the first item with p; I: what holds of the names -/
theorem forL_search {G : DG} {M : DS} {E : DEn} {n : Nat} (p : D → Bool) (I : Dn → Prop) (r : D) : ∀ (ds : List D) (δ : Dn), I δ →
    (∀ d ∈ ds, ∀ δ, I δ → ∀ E' : DEn, (p d = true → E'.rt r n) → (p d = false → ∀ δ', I δ' → E'.nx δ' n) → G d δ fun δ' => M E' δ' n) →
    (ds.any p = true → E.rt r n) → (ds.any p = false → ∀ δ', I δ' → E.nx δ' n) → forL G M E ds δ n
  | [], δ, hI, _, _, h2 => h2 rfl δ hI
  | d :: ds, δ, hI, h, h1, h2 => by
    refine h d List.mem_cons_self δ hI _ (fun hp => h1 (by rw [List.any_cons, hp]; rfl)) (fun hp δ' hI' => ?_)
    exact forL_search p I r ds δ' hI' (fun d' hd' => h d' (List.mem_cons_of_mem _ hd')) (fun e => h1 (by rw [List.any_cons, hp]; exact e)) (fun e => h2 (by rw [List.any_cons, hp]; exact e))
/-- a loop by an invariant over the items that are left, the names, the pen -/
theorem forL_inv {G : DG} {M : DS} {E : DEn} (I : List D → Dn → Nat → Prop) : ∀ (ds : List D) (δ : Dn) (n : Nat), I ds δ n →
    (∀ d ds δ n, I (d :: ds) δ n → ∀ E' : DEn, E'.rt = E.rt → E'.bk = E.nx → E'.rs = E.rs → (∀ δ' n', I ds δ' n' → E'.nx δ' n') → (∀ δ' n', I ds δ' n' → E'.ct δ' n') → G d δ fun δ' => M E' δ' n) →
    (∀ δ n, I [] δ n → E.nx δ n) → forL G M E ds δ n
  | [], δ, n, hI, _, h2 => h2 δ n hI
  | d :: ds, δ, n, hI, h, h2 => h d ds δ n hI _ rfl rfl rfl (fun δ' n' hI' => forL_inv I ds δ' n' hI' h h2) (fun δ' n' hI' => forL_inv I ds δ' n' hI' h h2)
/-- a comprehension whose turns may draw: what is made so far, by an invariant -/
theorem lcL_inv {G : DG} {mt : DT} {me : DE} {δ0 : Dn} {k : List D → Nat → Prop} (I : List D → List D → Nat → Prop) : ∀ (ds acc : List D) (n : Nat), I ds acc n →
    (∀ d ds acc n, I (d :: ds) acc n → ∀ (kont : Option D → Nat → Prop), (∀ y n', I ds (acc ++ [y]) n' → kont (some y) n') → (∀ n', I ds acc n' → kont none n') → G d δ0 fun δ' => mt δ' n (fun b n1 => if b = true then me δ' n1 (fun y n2 => kont (some y) n2) X0 else kont none n1) X0) →
    (∀ ds acc n, I ds acc n → acc.length + ds.length ≤ sizeLine) → (∀ acc n, I [] acc n → k acc n) → lcL G mt me δ0 k ds acc n
  | [], acc, n, hI, _, _, hk => hk acc n hI
  | d :: ds, acc, n, hI, h, hl, hk => by
    refine h d ds acc n hI (fun o n' => match o with | some y => acc.length < sizeLine ∧ lcL G mt me δ0 k ds (acc ++ [y]) n' | none => lcL G mt me δ0 k ds acc n') (fun y n' hI' => ?_) (fun n' hI' => lcL_inv I ds acc n' hI' h hl hk)
    have := hl _ _ _ hI
    rw [List.length_cons] at this
    exact ⟨by omega, lcL_inv I ds _ n' hI' h hl hk⟩
end Dl

set_option Elab.async false
set_option linter.all false
set_option maxRecDepth 100000
set_option maxHeartbeats 2000000
namespace Dl
open PySem L2
/-! ### facts of data -/
theorem eoks_iff : ∀ l : List D, D.eoks l = true ↔ ∀ x ∈ l, x.eok = true
  | [] => by simp [D.eoks]
  | d :: ds => by simp [D.eoks, eoks_iff ds]
theorem deps_le {m : Nat} : ∀ l : List D, (∀ x ∈ l, x.dep ≤ m) → D.deps l ≤ m
  | [], _ => Nat.zero_le _
  | d :: ds, h => by
    simp only [D.deps]
    have h1 := h d List.mem_cons_self
    have h2 := deps_le ds fun x hx => h x (List.mem_cons_of_mem _ hx)
    omega
/-- plain data, not deep -/
def Pl (x : D) : Prop := x.eok = true ∧ x.dep ≤ 50
theorem eokD_lst {l : List D} (h : ∀ x ∈ l, Pl x) : eokD (.lst l) = true := by
  have h1 : D.eoks l = true := (eoks_iff l).mpr fun x hx => (h x hx).1
  have h2 := deps_le l fun x hx => (h x hx).2
  simp only [eokD, D.eok, h1, D.dep, Bool.true_and]
  exact decide_eq_true (by omega)
theorem eokD_tup {l : List D} (h : ∀ x ∈ l, Pl x) : eokD (.tup l) = true := by
  have h1 : D.eoks l = true := (eoks_iff l).mpr fun x hx => (h x hx).1
  have h2 := deps_le l fun x hx => (h x hx).2
  simp only [eokD, D.eok, h1, D.dep, Bool.true_and]
  exact decide_eq_true (by omega)
theorem pl_int (i : Int) : Pl (.int i) := ⟨rfl, Nat.zero_le _⟩
theorem pl_bl (i : Bool) : Pl (.bl i) := ⟨rfl, Nat.zero_le _⟩
theorem pl_non : Pl .non := ⟨rfl, Nat.zero_le _⟩
theorem Pl.flat {x : D} (h : Pl x) : x.flat = true := by
  cases x with
  | obj c ns xs => exact absurd h.1 (by simp [D.eok])
  | exc c ns xs => exact absurd h.1 (by simp [D.eok])
  | scr ns => exact absurd h.1 (by simp [D.eok])
  | pen => exact absurd h.1 (by simp [D.eok])
  | _ => rfl
theorem eqF_lst {l r : List D} (h : ∀ x ∈ l, Pl x) (h' : ∀ x ∈ r, Pl x) : eqF (.lst l) (.lst r) = some (.bl (eqBs l r)) := by
  simp only [eqF, orD, eqS, Option.orElse_none, eqD, eokD_lst h, eokD_lst h', Bool.and_self, if_true, eqB]
theorem neF_lst {l r : List D} (h : ∀ x ∈ l, Pl x) (h' : ∀ x ∈ r, Pl x) : neF (.lst l) (.lst r) = some (.bl (!eqBs l r)) := by
  simp only [neF, orD, neS, Option.orElse_none, neD, eokD_lst h, eokD_lst h', Bool.and_self, if_true, eqB]
theorem eqF_tup {l r : List D} (h : ∀ x ∈ l, Pl x) (h' : ∀ x ∈ r, Pl x) : eqF (.tup l) (.tup r) = some (.bl (eqBs l r)) := by
  simp only [eqF, orD, eqS, Option.orElse_none, eqD, eokD_tup h, eokD_tup h', Bool.and_self, if_true, eqB]
theorem neF_tup {l r : List D} (h : ∀ x ∈ l, Pl x) (h' : ∀ x ∈ r, Pl x) : neF (.tup l) (.tup r) = some (.bl (!eqBs l r)) := by
  simp only [neF, orD, neS, Option.orElse_none, neD, eokD_tup h, eokD_tup h', Bool.and_self, if_true, eqB]
theorem eqBs_nil (l : List D) : eqBs l [] = l.isEmpty := by
  cases l <;> simp [eqBs]
theorem eqF_lst_nil {l : List D} (h : ∀ x ∈ l, Pl x) : eqF (.lst l) (.lst []) = some (.bl l.isEmpty) := by
  rw [eqF_lst h (by simp), eqBs_nil]
theorem neF_lst_nil {l : List D} (h : ∀ x ∈ l, Pl x) : neF (.lst l) (.lst []) = some (.bl (!l.isEmpty)) := by
  rw [neF_lst h (by simp), eqBs_nil]
theorem eqF_int (i j : Int) : eqF (.int i) (.int j) = some (.bl (i == j)) := rfl
theorem neF_int (i j : Int) : neF (.int i) (.int j) = some (.bl (!(i == j))) := rfl
theorem eqF_bl (i j : Bool) : eqF (.bl i) (.bl j) = some (.bl (i == j)) := rfl
theorem neF_bl (i j : Bool) : neF (.bl i) (.bl j) = some (.bl (!(i == j))) := rfl
theorem eqF_str (i j : Str) : eqF (.str i) (.str j) = some (.bl (decide (i = j))) := rfl
theorem neF_str (i j : Str) : neF (.str i) (.str j) = some (.bl (!decide (i = j))) := rfl
theorem eqBs_ints : ∀ xs ys : List Int, eqBs (xs.map D.int) (ys.map D.int) = decide (xs = ys)
  | [], [] => rfl
  | [], y :: ys => by simp [eqBs]
  | x :: xs, [] => by simp [eqBs]
  | x :: xs, y :: ys => by
    simp only [List.map_cons, eqBs, eqB, eqBs_ints xs ys, List.cons.injEq]
    by_cases h : x = y <;> simp [h]
theorem pl_ints {xs : List Int} : ∀ x ∈ xs.map D.int, Pl x := fun x hx => by
  obtain ⟨i, _, rfl⟩ := List.mem_map.mp hx
  exact pl_int i
theorem eqF_ints (xs ys : List Int) : eqF (.tup (xs.map D.int)) (.tup (ys.map D.int)) = some (.bl (decide (xs = ys))) := by
  rw [eqF_tup pl_ints pl_ints, eqBs_ints]
theorem neF_ints (xs ys : List Int) : neF (.tup (xs.map D.int)) (.tup (ys.map D.int)) = some (.bl (!decide (xs = ys))) := by
  rw [neF_tup pl_ints pl_ints, eqBs_ints]
theorem addF_int (i j : Int) : addF (.int i) (.int j) = some (.int (i + j)) := rfl
theorem subI_int (i j : Int) : subI (.int i) (.int j) = some (.int (i - j)) := rfl
theorem ltI_int (i j : Int) : ltI (.int i) (.int j) = some (.bl (decide (i < j))) := rfl
theorem leI_int (i j : Int) : leI (.int i) (.int j) = some (.bl (decide (i ≤ j))) := rfl
theorem gtI_int (i j : Int) : gtI (.int i) (.int j) = some (.bl (decide (j < i))) := rfl
theorem geI_int (i j : Int) : geI (.int i) (.int j) = some (.bl (decide (j ≤ i))) := rfl
theorem mulF_int {i j : Int} (h : (-(2 ^ 64) < i ∧ i < 2 ^ 64) ∨ (-(2 ^ 64) < j ∧ j < 2 ^ 64)) : mulF (.int i) (.int j) = some (.int (i * j)) := by
  have : mulC i j = true := decide_eq_true h
  simp only [mulF, orD, mulI, iiP, this, if_true, Option.orElse_some]
theorem negI_int (i : Int) : negI (.int i) = some (.int (-i)) := rfl
theorem trD_bl (b : Bool) : trD (.bl b) = some b := rfl
theorem trD_int (b : Int) : trD (.int b) = some (b != 0) := rfl
/-- repr of what may be written -/
theorem reprD_bl (b : Bool) : reprD (.bl b) = some (.str (shD (.bl b))) := rfl
theorem isiD_pl {t : Ty} {d : D} (h : d.flat = true) : isiD t d = some (.bl (isK t d)) := by
  simp only [isiD, h, if_true]
theorem flat_single {α : Type} (x : α) : ∀ n : Nat, (List.replicate n [x]).flatten = List.replicate n x
  | 0 => rfl
  | n + 1 => by rw [List.replicate_succ, List.flatten_cons, flat_single x n]; rfl
/-- (d,) * k -/
theorem mulF_rep {d : D} {m : Int} (h0 : 0 ≤ m) (h1 : m ≤ 1000) : mulF (.tup [d]) (.int m) = some (.tup (List.replicate m.toNat d)) := by
  have e : mulI (.tup [d]) (.int m) = none := rfl
  by_cases h : m ≤ 1
  · have : mulT1 (.tup [d]) (.int m) = some (.tup (List.replicate m.toNat d)) := by
      simp only [mulT1]
      rw [if_pos ⟨by omega, by omega, .inr h⟩, flat_single]
    simp only [mulF, orD, e, this, Option.orElse_none, Option.orElse_some]
  · have e1 : mulT1 (.tup [d]) (.int m) = none := by
      simp only [mulT1]
      rw [if_neg]
      rintro ⟨_, _, z | z⟩
      · cases z
      · exact h z
    have : mulT2 (.tup [d]) (.int m) = some (.tup (List.replicate m.toNat d)) := by
      unfold mulT2
      show (if [d] ≠ [] ∧ 2 ≤ m ∧ m ≤ 1000 ∧ [d].length ≤ 1000 then _ else _) = _
      rw [if_pos ⟨List.cons_ne_nil _ _, by omega, h1, by show 1 ≤ 1000; decide⟩, flat_single]
    simp only [mulF, orD, e, e1, this, Option.orElse_none, Option.orElse_some]
theorem ixD_ints {xs : List Int} {i : Int} (h0 : 0 ≤ i) (h1 : i < xs.length) : ixD (.tup (xs.map D.int)) (.int i) = some (.int (xs.getD i.toNat 0)) := by
  have hi : i.toNat < xs.length := by omega
  have : atI (xs.map D.int) ((i.toNat : Nat) : Int) = some (.int (xs.getD i.toNat 0)) := atI_nat (by rw [List.getElem?_map, List.getElem?_eq_getElem hi, List.getD_eq_getElem?_getD, List.getElem?_eq_getElem hi]; rfl)
  rw [Int.toNat_of_nonneg h0] at this
  exact this
theorem mem_upFrom {k : Nat} {d : D} (h : d ∈ upFrom 0 k) : ∃ i : Nat, i < k ∧ d = .int (i : Int) := by
  obtain ⟨i, hi, rfl⟩ := List.mem_map.mp h
  exact ⟨i, List.mem_range.mp hi, by rw [Int.zero_add]⟩
/-- the items whose number is picked -/
def pickI (p : Nat → Bool) : D → Option D
  | .int i => if p i.toNat then some (.int i) else none
  | _ => none
theorem upFrom_filter (k : Nat) (p : Nat → Bool) : (upFrom 0 k).filterMap (pickI p) = ((List.range k).filter p).map fun (i : Nat) => D.int (i : Int) := by
  unfold upFrom
  induction List.range k with
  | nil => rfl
  | cons i l ih =>
    rw [List.map_cons, List.filterMap_cons, List.filter_cons]
    simp only [pickI, Int.zero_add, Int.toNat_natCast]
    simp only [Int.zero_add] at ih
    cases p i with
    | true => simp only [if_true, List.map_cons, ih]
    | false => simp only [Bool.false_eq_true, if_false, ih]
theorem pl_nats {l : List Nat} : ∀ x ∈ l.map (fun (i : Nat) => D.int (i : Int)), Pl x := fun x hx => by
  obtain ⟨i, _, rfl⟩ := List.mem_map.mp hx
  exact pl_int _
theorem getD_mem {xs : List Int} {i : Nat} (h : i < xs.length) : xs.getD i 0 ∈ xs := by
  rw [List.getD_eq_getElem?_getD, List.getElem?_eq_getElem h]
  exact List.getElem_mem h
theorem rep_ints (k : Nat) : List.replicate k (D.int 0) = (List.replicate k (0 : Int)).map D.int := by rw [List.map_replicate]
theorem atI_zero {α : Type} (x : α) (l : List α) : atI (x :: l) 0 = some x := by
  have := atI_nat (xs := x :: l) (j := 0) (v := x) rfl
  exact this
theorem ixD_lst0 (x : D) (l : List D) : ixD (.lst (x :: l)) (.int 0) = some x := atI_zero x l
theorem ixD_tup0 (x : D) (l : List D) : ixD (.tup (x :: l)) (.int 0) = some x := atI_zero x l
theorem ixD_lst {l : List D} {i : Int} {d : D} (h0 : 0 ≤ i) (h : l[i.toNat]? = some d) : ixD (.lst l) (.int i) = some d := by
  have := atI_nat h
  rw [Int.toNat_of_nonneg h0] at this
  exact this
theorem ixD_tup {l : List D} {i : Int} {d : D} (h0 : 0 ≤ i) (h : l[i.toNat]? = some d) : ixD (.tup l) (.int i) = some d := by
  have := atI_nat h
  rw [Int.toNat_of_nonneg h0] at this
  exact this
/-- each number turned -/
def mapI (f : Int → Int) : D → Option D
  | .int i => some (.int (f i))
  | _ => none
theorem filterMap_mapI (f : Int → Int) : ∀ xs : List Int, (xs.map D.int).filterMap (mapI f) = (xs.map f).map D.int
  | [] => rfl
  | x :: xs => by
    rw [List.map_cons, List.filterMap_cons, List.map_cons, List.map_cons, ← filterMap_mapI f xs]
    rfl
theorem cutD_map {α β : Type} (f : α → β) (xs : List α) (lo hi : Option Int) : cutD (xs.map f) lo hi = (cutD xs lo hi).map f := by
  unfold cutD
  rw [List.length_map, List.map_take, List.map_drop]
theorem mem_cutD {α : Type} {xs : List α} {lo hi : Option Int} {x : α} (h : x ∈ cutD xs lo hi) : x ∈ xs := List.mem_of_mem_drop (List.mem_of_mem_take h)
theorem length_cutD {α : Type} (xs : List α) (lo hi : Option Int) : (cutD xs lo hi).length ≤ xs.length := by
  unfold cutD
  rw [List.length_take, List.length_drop]
  omega
theorem addF_tup {a b : List D} (h : a.length + b.length ≤ 16777216) : addF (.tup a) (.tup b) = some (.tup (a ++ b)) := by
  have : addT (.tup a) (.tup b) = some (.tup (a ++ b)) := by
    simp only [addT]
    rw [if_pos (by rw [sizeLine_eq]; exact h)]
  have e1 : addI (.tup a) (.tup b) = none := rfl
  have e2 : addS (.tup a) (.tup b) = none := rfl
  simp only [addF, orD, e1, e2, this, Option.orElse_none, Option.orElse_some]
theorem addF_lst {a b : List D} (h : a.length + b.length ≤ 16777216) : addF (.lst a) (.lst b) = some (.lst (a ++ b)) := by
  have : addL (.lst a) (.lst b) = some (.lst (a ++ b)) := by
    simp only [addL]
    rw [if_pos (by rw [sizeLine_eq]; exact h)]
  have e1 : addI (.lst a) (.lst b) = none := rfl
  have e2 : addS (.lst a) (.lst b) = none := rfl
  have e3 : addT (.lst a) (.lst b) = none := rfl
  simp only [addF, orD, e1, e2, e3, this, Option.orElse_none]
theorem neF_same (x : Str) : neF (.str x) (.str x) = some (.bl false) := by
  rw [neF_str, decide_eq_true rfl]
  rfl
end Dl

set_option Elab.async false
set_option linter.all false
set_option maxRecDepth 100000
set_option maxHeartbeats 2000000
/-! Dl: an exception of an own class over ValueError, made by a call, with keywords too; its own __init__ says super().__init__(..) and stores each argument. -/
namespace Dl
open PySem L2 PySem.HandSPX
/-! ### the class is called: what is given by keyword goes to __init__ alone -/
section
variable {P : Program} {w : World} {A : Around} {E : Value → Shared → Prop} {R : Result → Shared → Prop} {h : Heap} {g : Array GenState} {d : Drawn} {t : Nat} {os : OsState} {C fI : Addr} {us : List Value} {kw : List (Str × Value)}
  {nm q : Str} {N : Addr} {bs bm : List Value} {hd : Bool} {sn : List Str} {sub : List Value} {ab : Bool} {col : Option Bool} {dd : Option Addr} {k0 k1 k2 k3 k5 : Option Value}
theorem veB : ExcBaseFacts "ValueError" "ValueError.__new__" "ValueError.__init__" [.type "ValueError", .type "Exception", .type "BaseException", .type "object"] := F.excBase_ValueError
theorem xc_has (z : refsVE bm = true) : (Value.ref C :: bm).contains (.type "ValueError") = true := by rw [List.contains_cons, refsVE_contains _ _ z, veB.hasB, Bool.or_true]
theorem xnew_check {M : Model} {Q : Unit → Shared → Prop} (c : h.get? C = some (excClassObj nm q C N bs bm hd sn sub ab col dd k0 k1 k2 k3 k5 "ValueError.__new__")) (z : refsVE bm = true) (hq : Q () ⟨h, g, d, t, os⟩) :
    wpAny M A (checkBuiltinCall "ValueError.__new__" ⟨.ref C :: us, kw⟩) Q E ⟨h, g, d, t, os⟩ := by
  have l := xc_has (C := C) z
  have n := veB.noStar
  simp only [checkBuiltinCall, veB.newKind, veB.newSplit, veB.newRow]
  repeat (first
    | refine wpAny_loadPart_at c ?_
    | (refine wpAny_isSubtype_exc c ?_; rw [l])
    | refine wpAny_staticBase_exc c ?_
    | refine wpAny_madeBy_exc c ?_
    | simp only [bne_self_eq_false, Bool.false_eq_true, if_false]
    | wp_step)
  exact hq
theorem xnew (c : h.get? C = some (excClassObj nm q C N bs bm hd sn sub ab col dd k0 k1 k2 k3 k5 "ValueError.__new__")) (z : refsVE bm = true) (hz : us.length ≤ sizeLine)
    (hq : R (.ok (.ret (.ref (h.objs.size + 1)))) ⟨(h.push (PySem.W.kdv_tup us)).push (excO C h.objs.size), g, d, t, os⟩) : codeAny (model P w) A (.builtin "ValueError.__new__" ⟨.ref C :: us, kw⟩) R ⟨h, g, d, t, os⟩ := by
  have e := veB.ends
  have l := xc_has (C := C) z
  have lA : (Value.ref C :: bm).contains (.type "AttributeError") = false := by rw [List.contains_cons, refsVE_contains _ _ z, veB.noAttr]; rfl
  have lN : (Value.ref C :: bm).contains (.type "NameError") = false := by rw [List.contains_cons, refsVE_contains _ _ z, veB.noName]; rfl
  refine codeAny_builtinAt veB.entry ?_
  unfold Builtin.«BaseException.__new__»
  refine wpAt_bind ?_
  show wpAt _ _ _ (stack >>= _) _ _ _
  refine wpAt_bind (wpAt_stack fun p below => wpAt_of_wpAny ?_)
  wp_walk
  refine wpAt_of_wpAny ?_
  rw [veB.owner]
  repeat (first | (with_reducible refine wpAny_madeHere_exc veB.canon c ?_) | (with_reducible refine wpAny_loadPart_at c ?_) | (with_reducible refine wpAny_isSubtype_exc c ?_; rw [l]) | (with_reducible refine wpAny_isSubtype_exc c ?_; rw [lA]) | (with_reducible refine wpAny_isSubtype_exc c ?_; rw [lN]) | wp_step)
  show R _ _
  rw [Heap.size_push]
  exact hq
theorem xcall {Q : Fin → Shared → Prop} (c : h.get? C = some (excClassObj nm q C N bs bm hd sn sub ab col dd k0 k1 k2 k3 k5 "ValueError.__new__")) (z : refsVE bm = true) (hz : us.length ≤ sizeLine)
    (hi : PySem.W.Looks (model P w) h (typeLookup (.ref C) "__init__") (some (.ref fI))) (hb : ∀ x, PySem.W.Looks (model P w) h (bindSpecial (.ref fI) x) (.ref fI, [x]))
    (hq : codeAny (model P w) A (.call (.ref fI) ⟨.ref (h.objs.size + 1) :: us, kw⟩) (fun r s' => match r with | .ok (.ret v) => v = .none ∧ Q (.done (.ret (.ref (h.objs.size + 1)))) s' | .ok _ => False | .error e => E e s')
      ⟨(h.push (PySem.W.kdv_tup us)).push (excO C h.objs.size), g, d, t, os⟩) : wpAny (model P w) A (Builtin.«type.__call__» ⟨.ref C :: us, kw⟩) Q E ⟨h, g, d, t, os⟩ := by
  repeat (first | (with_reducible refine wpAny_loadPart_at c ?_) | (with_reducible refine wpAny_madeBy_exc c ?_) | wp_step)
  refine codeAny_call_builtin_code (Code.quiet_builtin _ veB.quiet) (xnew_check c z (xnew c z hz ?_))
  show wpAny _ _ _ _ _ _
  have up : ∀ b o, h.get? b = some o → ((h.push (PySem.W.kdv_tup us)).push (excO C h.objs.size)).get? b = some o := fun b o y => Heap.get?_push_of_some _ (Heap.get?_push_of_some _ y)
  have c1 := up _ _ c
  have own : ((h.push (PySem.W.kdv_tup us)).push (excO C h.objs.size)).get? (h.objs.size + 1) = some (excO C h.objs.size) := by heap_get
  have l : (Value.ref C :: bm).contains (.ref C) = true := by simp
  have i1 := hi.keeps up
  have b1 := (hb (.ref (h.objs.size + 1))).keeps up
  unfold isInstance
  repeat (first | (with_reducible refine wpAny_loadPart_at own ?_) | (with_reducible refine wpAny_isSubtype_exc c1 ?_; rw [l]) | wp_step)
  show wpAny _ _ (typeLookup (.ref C) _) _ _ _
  refine i1.at (wpAny_holding (wpAny_bind (b1.at (wpAny_bind (wpAny_call (codeAny_mono hq fun r s' y => ?_))))))
  match r, y with
  | .error e, y => exact y
  | .ok (.ret v), ⟨ev, y⟩ =>
    subst ev
    first | exact wpAny_pure (wpAny_pure y) | (wp_walk; exact y)
  | .ok .next, y => exact y.elim
  | .ok .brk, y => exact y.elim
  | .ok .cont, y => exact y.elim
theorem xmake (c : h.get? C = some (excClassObj nm q C N bs bm hd sn sub ab col dd k0 k1 k2 k3 k5 "ValueError.__new__")) (z : refsVE bm = true) (hz : us.length ≤ sizeLine)
    (hi : PySem.W.Looks (model P w) h (typeLookup (.ref C) "__init__") (some (.ref fI))) (hb : ∀ x, PySem.W.Looks (model P w) h (bindSpecial (.ref fI) x) (.ref fI, [x]))
    (hq : codeAny (model P w) (A.under (.builtin "type.__call__" ⟨.ref C :: us, kw⟩)) (.call (.ref fI) ⟨.ref (h.objs.size + 1) :: us, kw⟩) (PySem.W.InitBack (h.objs.size + 1) R)
      ⟨(h.push (PySem.W.kdv_tup us)).push (excO C h.objs.size), g, d, t, os⟩) : codeAny (model P w) A (.call (.ref C) ⟨us, kw⟩) R ⟨h, g, d, t, os⟩ := by
  have f1 := tc_lookup
  have f2 := tc_bind (.ref C)
  have ty : (⟨h, g, d, t, os⟩ : Shared).TypeIs (.ref C) "type" := ⟨_, c, rfl⟩
  refine codeAny_of_tree ?_
  show wpAny _ _ (callAny (.ref C) _) _ _ _
  repeat (any_goals (first | assumption | (with_reducible refine wpAny_loadPart_at c ?_) | wp_step))
  refine ⟨rfl, codeAny_call_builtin_at (Code.quiet_builtin _ (by decide +kernel)) entry_typeCall (wpAny_check_type_call_sub c (xcall c z hz hi hb (codeAny_mono hq fun r s' y => ?_)))⟩
  rcases r with e | (v | _ | _ | _) <;> exact y
end
end Dl

set_option Elab.async false
set_option linter.all false
set_option maxRecDepth 100000
set_option maxHeartbeats 2000000
namespace Dl
open PySem L2 PySem.HandSPX
/-! ### the own __init__: super().__init__(p, ..), then self.p = p for each -/
def nmE : List Str → List Pos → List Expr
  | p :: ps, q :: qs => .Name p q :: nmE ps qs
  | _, _ => []
def asE : List Str → List (Pos × Pos × Pos × Pos) → List Stmt
  | p :: ps, (a, b, c, d) :: qs => .Assign [.Attribute (.Name "self" a) p b] (.Name p c) d :: asE ps qs
  | _, _ => []
/-- the text of such an __init__ -/
structure XSt (st : Stmt) (p : Str) (ps : List Str) : Prop where
  body : ∃ q0 q1 q2 q3 q4 q5 qs fs, defBody st = .Expr (.Call (.Attribute (.Call (.Name "super" q0) [] [] q1) "__init__" q2) (.Name p q3 :: nmE ps qs) [] q4) q5 :: asE (p :: ps) fs ∧ qs.length = ps.length ∧ fs.length = ps.length + 1 ∧ (q2.endLine == q4.line) = true
  kind : (defScope st).kind = .function
  co : (defScope st).isCoroutine = false
  gen : (defScope st).isGenerator = false
  sup : (defScope st).names.lookup ("super" : Str) = some .globalImplicit
  cls : (defScope st).names.lookup ("__class__" : Str) = some .free
  loc : ∀ x ∈ ("self" : Str) :: p :: ps, (defScope st).names.lookup x = some .local
  noc : ∀ x ∈ (defScope st).names, x.2 ≠ .cell
  hd : ((defArgs st).posonlyargs ++ (defArgs st).args).head?.map (·.arg) = some "self"
  dbg : ∀ x ∈ ("self" : Str) :: p :: ps, (x == ("__debug__" : Str)) = false
  nd : (("self" : Str) :: p :: ps).Nodup
/-- what the written part says of the class and of its __init__ -/
structure XI (P : Program) (K : PySem.W.Frag) (mg : Str → Option Value) (C fI : Addr) (fd : FuncData) (st : Stmt) (p : Str) (ps : List Str) : Prop where
  oex : OexC K C
  iC : PySem.W.findIn K (.ref C) "__init__" = some (some (.ref fI))
  tI : PySem.W.typeIn K (.ref fI) = some (.type "function")
  ex : ∃ (cc cda : Addr) (qual : Str) (oc : Value) (od : Option Addr) (kV doc pm : Value) (an : Option Addr) (ct : Value) (osl : Array (Option Value)) (cl : Value) (cld : Option Addr) (csl : Array (Option Value)) (ccl : Value) (cdd : Option Addr) (vs : Array Value) (ccs : Array (Option Value)) (file : Str) (tf : Tok),
    fd = PySem.W.ksFn "__init__" qual (defArgs st) (defBody st) (defScope st) .none kV doc pm an (.ref cda) ct cc ∧ K.lookup fI = some ⟨oc, od, .func fd, osl⟩ ∧ PySem.W.codeIn K (.ref cda) qual = true ∧
    K.lookup cc = some ⟨cl, cld, .cell (some (.ref C)), csl⟩ ∧ K.lookup cda = some ⟨ccl, cdd, .fields vs, ccs⟩ ∧ vs[2]? = some (.str file tf) ∧ ((P.main.file : Str) == file) = true
  sp : mg "super" = none
  top : (P.main.scope.names.lookup ("super" : Str)).isSome = false
  no : ∀ x ∈ p :: ps, PySem.W.findIn K (.ref C) x = some none
  su : PySem.W.ks_superIn K C C "__init__" = some (some (.builtin "ValueError.__init__"))
  sb : PySem.W.subIn K (.ref C) (.type "ValueError") = some true
  tp : PySem.W.nsIn K cStatics "thirdparty.any" = some none
  st : XSt st p ps

/-- the heap bears the module -/
structure Md (K : PySem.W.Frag) (mg : Str → Option Value) (h : Heap) : Prop where
  kin : K.In h
  glob : h.Ns mainGlobals mg
  blt : ∃ mb, h.Ns builtinsNs mb ∧ ∀ x : Str, x ≠ "__name__" → mb x = bootBuiltins x
  nolimit : h.NoLimit

section
variable {P : Program} {w : World} {M : Model} {A : Around} {E : Value → Shared → Prop} {s : Shared}
theorem names_run {env : Env} {m : Str → Option Value} {pos : Pos} (hk : env.scope.kind = .function) : ∀ {ps : List Str} {qs : List Pos} {us : List Value} {Q : List Value → Shared → Prop}, qs.length = ps.length → us.length = ps.length →
    (∀ x ∈ ps, env.kindOf x = some .local) → (∀ x ∈ ps, (x == ("__debug__" : Str)) = false) → (∀ (i : Nat) (x : Str) (u : Value), ps[i]? = some x → us[i]? = some u → m x = some u) → s.heap.Ns env.locals m → Q us s → wpAny M A (spliced (backTo pos (starEach (nmE ps qs) env))) Q E s
  | [], [], us, Q, _, hu, _, _, _, _, h => by
    obtain rfl : us = [] := List.length_eq_zero_iff.mp hu
    exact Calls.spliced_nil h
  | [], _ :: _, _, _, hq, _, _, _, _, _, _ => by cases hq
  | p :: ps, [], _, _, hq, _, _, _, _, _, _ => by cases hq
  | p :: ps, q :: qs, us, Q, hq, hu, hl, hd, hm, hn, h => by
    match us, hu with
    | u :: us, hu =>
      refine Calls.spliced_cons ?_
      refine wpAny_Name (wpAny_loadName_local hk (hl p (List.mem_cons_self ..)) hn (hm 0 p u rfl rfl) ?_) (hd p (List.mem_cons_self ..))
      exact names_run (us := us) (Q := fun v => Q (u :: v)) hk (by simpa using hq) (by simpa using hu) (fun x z => hl x (List.mem_cons_of_mem _ z)) (fun x z => hd x (List.mem_cons_of_mem _ z)) (fun i x v e1 e2 => hm (i + 1) x v (by simpa using e1) (by simpa using e2)) hn h
end
section
variable {P : Program} {w : World} {A : Around} {E : Value → Shared → Prop} {h : Heap} {g : Array GenState} {d : Drawn} {t : Nat} {os : OsState} {K : PySem.W.Frag} {C e : Addr}
/-- an exception's record -/
abbrev xo (C : Addr) (dx : Option Addr) (t0 : Addr) : Obj := { cls := .ref C, dict := dx, data := .fields #[.ref t0, .none, .none, .none, .bool false, .none] }
theorem sup_call {u t0 : Addr} {rest : List Value} {Q : Value → Shared → Prop} (T : OexC K C) (X : K.In h) (he : h.get? e = some (xo C none t0)) (hu : h.get? u = some (PySem.W.kxs_mw "ValueError.__init__" e)) (hz : rest.length ≤ sizeLine)
    (hq : ∀ h' t1, (∀ b o, b ≠ e → h.get? b = some o → h'.get? b = some o) → h'.get? e = some (xo C none t1) → Q .none ⟨h', g, d, t, os⟩) : wpAny (model P w) A (call (.ref u) rest) Q E ⟨h, g, d, t, os⟩ := by
  obtain ⟨nm, q, N, bs, bm, sn, sub, ab, col, dd, k0, k1, k2, k3, k5, hC, hbm⟩ := T.cls
  refine wpAny_call (codeAny_of_tree ?_)
  show wpAny _ A.in1 (callAny (.ref u) ⟨rest, []⟩) _ _ _
  simp only [callAny]
  refine wpAny_bind (wpAny_load hu ?_)
  simp only [PySem.W.kxs_mw, show (Value.type "method-wrapper" == Value.type "method" || Value.type "method-wrapper" == Value.type "builtin_function_or_method" || Value.type "method-wrapper" == Value.type "method-wrapper") = true by decide, if_true]
  refine PySem.W.KFB.if_so (by decide) ?_
  refine wpAny_bind (PySem.W.check_bound_init F.excBase_ValueError.toExcCallFacts (X _ _ hC) he rfl ?_)
  refine wpAny_bind (wpAny_pure (wpAny_pure ?_))
  refine ⟨plainId_quiet F.excBase_ValueError.init.plain _, codeAny_builtin F.excBase_ValueError.initEntry ?_⟩
  exact PySem.W.exc_init_tree (cls := .ref C) (t0 := t0) (dv := none) (c2 := .none) (c3 := .none) (b4 := .bool false) he hz fun h' k e1 _ => hq h' _ k e1
end
end Dl

set_option Elab.async false
set_option linter.all false
set_option maxRecDepth 100000
set_option maxHeartbeats 2000000
namespace Dl
open PySem L2 PySem.HandSPX
section
variable {P : Program} {w : World} {A : Around} {E : Value → Shared → Prop} {g : Array GenState} {d : Drawn} {os : OsState} {K : PySem.W.Frag} {C e dx t1 : Addr} {hK : Heap} {env : Env} {m : Str → Option Value} {c : Code} {Q : Flow → Shared → Prop}
theorem oex_cd (T : OexC K C) : ∃ cd, PySem.W.clsIn K C = some cd ∧ refsVE cd.mro = true ∧ cd.hasDict = true ∧ ∃ r, cd.mro = .ref C :: r := by
  obtain ⟨nm, q, N, bs, bm, sn, sub, ab, col, dd, k0, k1, k2, k3, k5, hC, hbm⟩ := T.cls
  exact ⟨{ name := nm, bases := bs, mro := .ref C :: bm, ns := N, qualname := q, hasDict := true, slotNames := sn, subclasses := sub, abstract := ab, collection := col, hasDel := false }, by unfold PySem.W.clsIn; rw [hC] <;> rfl, hbm, rfl, bm, rfl⟩
theorem asg_run (T : OexC K C) (X0 : K.In hK) (ke : hK.get? e = none) (kd : hK.get? dx = none) (ed : dx ≠ e) (hk : env.scope.kind = .function) (hs : env.kindOf "self" = some .local) (ms : m "self" = some (.ref e)) (le : env.locals ≠ e) (ld : env.locals ≠ dx) :
    ∀ {ps : List Str} {fs : List (Pos × Pos × Pos × Pos)} {us : List Value} {vs : List V} {fl : List (Str × V)} {mA : Str → Option Value} {h : Heap} {t : Nat}, fs.length = ps.length → Vals vs us → us.length = ps.length →
    (∀ x ∈ ps, env.kindOf x = some .local) → (∀ x ∈ ps, (x == ("__debug__" : Str)) = false) → (∀ (i : Nat) (x : Str) (u : Value), ps[i]? = some x → us[i]? = some u → m x = some u) → (∀ x ∈ ps, PySem.W.findIn K (.ref C) x = some none) →
    (∀ b o, hK.get? b = some o → h.get? b = some o) → h.Ns env.locals m → h.get? e = some (xo C (some dx) t1) → h.Ns1 dx mA → (∀ f, RelO (fl.lookup f) (mA f)) → fl.length + ps.length ≤ 900 →
    (∀ h' t' mB, (∀ b o, b ≠ e → b ≠ dx → h.get? b = some o → h'.get? b = some o) → h'.get? e = some (xo C (some dx) t1) → h'.Ns1 dx mB → (∀ f, RelO (((ps.zip vs).reverse ++ fl).lookup f) (mB f)) → Q .next ⟨h', g, d, t', os⟩) →
    wpAt (model P w) A c (execs (asE ps fs) env) Q E ⟨h, g, d, t, os⟩
  | [], [], us, vs, fl, mA, h, t, _, _, hu, _, _, _, _, kp, hn, he, hd, r, hl, hq => by
    refine wpAt_of_wpAny (wpAny_of_eq (execs_nil env) ?_)
    exact hq h t mA (fun b o _ _ z => z) he hd r
  | [], _ :: _, _, _, _, _, _, _, hf, _, _, _, _, _, _, _, _, _, _, _, _, _ => by cases hf
  | _ :: _, [], _, _, _, _, _, _, hf, _, _, _, _, _, _, _, _, _, _, _, _, _ => by cases hf
  | p :: ps, (a1, a2, a3, a4) :: fs, us, vs, fl, mA, h, t, hf, hv, hu, hl, hdb, hm, hno, kp, hn, he, hd, r, hlen, hq => by
    match us, vs, hu, hv with
    | u :: us, v :: vs, hu, .cons rv hv =>
      obtain ⟨cd, hcd, hmr, hhd, _⟩ := oex_cd T
      refine PySem.ks_wpAt_execs_cons (PySem.ks_wpAt_Assign_Attr (wpAt_of_wpAny (wpAny_Name (wpAny_loadName_local hk (hl p (List.mem_cons_self ..)) hn (hm 0 p u rfl rfl) ?_) (hdb p (List.mem_cons_self ..)))))
      refine wpAny_Name (wpAny_loadName_local hk hs hn ms ?_) (by decide)
      obtain ⟨oD, _, _, hoD, _, _⟩ := hd.count (within_of r)
      have X : K.In h := X0.keeps kp
      refine PySem.W.set_plain X (ox := xo C (some dx) t1) (od := some oD) ⟨he, rfl, rfl, hoD⟩ T.sa ?_
      refine PySem.OEX.osa_old X he hd (within_of r) (by rw [List.length_map]; simp only [List.length_cons] at hlen; omega) hcd hmr hhd (hno p (List.mem_cons_self ..)) (fun h' tk' k hn' => ?_)
      show wpAt _ _ _ _ _ _ _
      have ndx : ∀ {b : Addr} {o : Obj}, hK.get? b = some o → b ≠ dx := fun {b o} z y => by rw [y, kd] at z; cases z
      refine asg_run T X0 ke kd ed hk hs ms le ld (us := us) (vs := vs) (fl := (p, v) :: fl) (by simpa using hf) hv (by simpa using hu) (fun x z => hl x (List.mem_cons_of_mem _ z)) (fun x z => hdb x (List.mem_cons_of_mem _ z))
        (fun i x y e1 e2 => hm (i + 1) x y (by simpa using e1) (by simpa using e2)) (fun x z => hno x (List.mem_cons_of_mem _ z)) (fun b o z => k b o (ndx z) (kp b o z)) ?_ (k e _ (Ne.symm ed) he) hn' (relO_put rv r) (by simp only [List.length_cons] at hlen ⊢; omega) ?_
      · obtain ⟨o, es, ep, ho, q⟩ := hn
        exact ⟨o, es, ep, k _ _ ld ho, q⟩
      · intro h2 t2 mB k2 e2 n2 r2
        refine hq h2 t2 mB (fun b o h1 h2 z => k2 b o h1 h2 (k b o h2 z)) e2 n2 fun f => ?_
        have q := r2 f
        simpa only [List.zip_cons_cons, List.reverse_cons, List.append_assoc, List.singleton_append] using q
end
end Dl

set_option Elab.async false
set_option linter.all false
set_option maxRecDepth 100000
set_option maxHeartbeats 2000000
namespace Dl
open PySem L2 PySem.HandSPX
theorem lookup_app {α : Type} (f : Str) : ∀ (a b : List (Str × α)), (a ++ b).lookup f = (a.lookup f).orElse fun _ => b.lookup f
  | [], b => rfl
  | (x, v) :: a, b => by
    simp only [List.cons_append, List.lookup_cons]
    cases f == x with
    | true => rfl
    | false => exact lookup_app f a b
theorem lookup_none {α : Type} {f : Str} : ∀ {l : List (Str × α)}, (∀ p ∈ l, p.1 ≠ f) → l.lookup f = none
  | [], _ => rfl
  | (x, v) :: l, h => by
    have hx : (f == x) = false := by
      have z := h (x, v) (List.mem_cons_self ..)
      exact beq_false_of_ne (Ne.symm z)
    simp only [List.lookup_cons, hx]
    exact lookup_none fun p hp => h p (List.mem_cons_of_mem _ hp)
theorem lookup_rev {α : Type} : ∀ {N : List Str} {us : List α} {i : Nat} {x : Str} {u : α}, N.Nodup → N[i]? = some x → us[i]? = some u → (N.zip us).reverse.lookup x = some u
  | [], _, _, _, _, _, e, _ => by simp at e
  | y :: N, [], _, _, _, _, _, e => by simp at e
  | y :: N, v :: us, 0, x, u, nd, e1, e2 => by
    simp only [List.getElem?_cons_zero, Option.some.injEq] at e1 e2
    subst e1; subst e2
    rw [List.zip_cons_cons, List.reverse_cons, lookup_app, lookup_none, Option.orElse_none]
    · simp
    · intro p hp z
      have h1 := List.mem_reverse.mp hp
      have h2 := (List.of_mem_zip (show (p.1, p.2) ∈ N.zip us from h1)).1
      rw [z] at h2
      exact (List.nodup_cons.mp nd).1 h2
  | y :: N, v :: us, i + 1, x, u, nd, e1, e2 => by
    rw [List.zip_cons_cons, List.reverse_cons, lookup_app, lookup_rev (List.nodup_cons.mp nd).2 (by simpa using e1) (by simpa using e2)]
    rfl
theorem sup_eval {p : Str} {q0 q1 q2 q3 q4 : Pos} {env : Env} {ps : List Str} {qs : List Pos} (hz : ps.length ≤ 1) (hq : qs.length = ps.length) (hl : (q2.endLine == q4.line) = true) : ∃ pl : Sem Bool, eval (.Call (.Attribute (.Call (.Name "super" q0) [] [] q1) "__init__" q2) (.Name p q3 :: nmE ps qs) [] q4) env = (do
      let ov ← attributeBase (.Call (.Name "super" q0) [] [] q1) "__init__" env (eval (.Call (.Name "super" q0) [] [] q1) env)
      standAt q2.atName
      let (f, first) ← holding [ov] (getMethod ov "__init__" pl)
      callWith q4 f first (backTo q4 (starEach (.Name p q3 :: nmE ps qs) env)) []) := by
  have key : ∀ (ov : Value) (n : Nat) (l : List (Bool × Sem Value)), methodCallForm n l [] = true → methodCall (.Call (.Name "super" q0) [] [] q1) "__init__" q2 q4 env ov n l [] = (do
      let (f, first) ← holding [ov] (getMethod ov "__init__" (do return (← importBound (.Call (.Name "super" q0) [] [] q1) env).getD true))
      callWith q4 f first l []) := fun ov n l hf => by
    unfold methodCall calleeOf methodCallPos
    simp only [hf, hl, if_true, Bool.not_true, Bool.false_or, pure_bind]
  match ps, qs, hq, hz with
  | [], [], _, _ => exact ⟨_, congrArg (fun z => attributeBase (.Call (.Name "super" q0) [] [] q1) "__init__" env (eval (.Call (.Name "super" q0) [] [] q1) env) >>= z) (funext fun ov => congrArg (fun z => standAt q2.atName >>= z) (funext fun _ => key ov _ _ rfl))⟩
  | [a], [b], _, _ => exact ⟨_, congrArg (fun z => attributeBase (.Call (.Name "super" q0) [] [] q1) "__init__" env (eval (.Call (.Name "super" q0) [] [] q1) env) >>= z) (funext fun ov => congrArg (fun z => standAt q2.atName >>= z) (funext fun _ => key ov _ _ rfl))⟩
theorem nm_plain {env : Env} {pos : Pos} : ∀ {ps : List Str} {qs : List Pos}, (backTo pos (starEach (nmE ps qs) env)).any (·.1) = false
  | [], [] => rfl
  | [], _ :: _ => rfl
  | _ :: _, [] => rfl
  | p :: ps, q :: qs => nm_plain (ps := ps) (qs := qs)
section
variable {P : Program} {w : World} {A : Around} {K : PySem.W.Frag} {mg : Str → Option Value} {C fI e t0 : Addr} {fd : FuncData} {st : Stmt} {p : Str} {ps : List Str} {hK : Heap} {args : Args} {us : List Value} {vs : List V} {R : Result → Shared → Prop}
theorem xinit_run {h : Heap} {g : Array GenState} {d : Drawn} {t : Nat} {os : OsState} (T : XI P K mg C fI fd st p ps) (M : Md K mg hK) (kp : ∀ b o, hK.get? b = some o → h.get? b = some o) (ke : hK.get? e = none) (hb : BindsTo ⟨h, g, d, t, os⟩ fd args ((("self" : Str) :: p :: ps).zip (Value.ref e :: us)))
    (hv : Vals vs us) (hl : us.length = ps.length + 1) (hz : ps.length ≤ 1) (hr : A.depth < recursionLimit) (he : h.get? e = some (xo C none t0))
    (hq : ∀ h' t' dx t1 mB, h.objs.size ≤ dx → dx ≠ e → (∀ b o, b ≠ e → h.get? b = some o → h'.get? b = some o) → h'.get? e = some (xo C (some dx) t1) → h'.Ns1 dx mB → (∀ f, RelO ((((p :: ps).zip vs).reverse).lookup f) (mB f)) → R (.ok (.ret .none)) ⟨h', g, d, t', os⟩) :
    codeAny (model P w) A (.call (.ref fI) args) R ⟨h, g, d, t, os⟩ := by
  obtain ⟨cc, cda, qual, oc, od, kV, doc, pm, an, ct, osl, cl, cld, csl, ccl, cdd, vs3, ccs, file, tf, efd, lk, hcd, lcc, lcd, e2, hfile⟩ := T.ex
  obtain ⟨q0, q1, q2, q3, q4, q5, qs, fs, hbody, hqs, hfs, hln⟩ := T.st.body
  obtain ⟨cd, hcls, hmr, hhd, mr, emr⟩ := oex_cd T.oex
  have X : K.In h := M.kin.keeps kp
  have S := T.st
  subst efd
  refine PySem.ks_codeAny_call_defAt hr (X _ _ lk) rfl (M.nolimit.keeps kp) (PySem.W.codeRec_of X hcd) rfl hb S.noc (fun x hx => ?_) (fun h1 hns k1 => ?_) S.co S.gen S.kind
  · exact S.loc x.1 (List.of_mem_zip (show (x.1, x.2) ∈ _ from hx)).1
  have xe : h.objs.size ≠ e := fun z => Nat.lt_irrefl _ (z ▸ Heap.lt_size he)
  have X1 : K.In h1 := X.keeps k1
  have lx : ∀ x ∈ ("self" : Str) :: p :: ps, (PySem.callEnv (PySem.W.ksFn "__init__" qual (defArgs st) (defBody st) (defScope st) .none kV doc pm an (.ref cda) ct cc) h.objs.size fI).kindOf x = some .local := S.loc
  generalize hm : (fun x => List.lookup x ((("self" : Str) :: p :: ps).zip (Value.ref e :: us)).reverse) = m at hns
  have ms : m "self" = some (.ref e) := by rw [← hm]; exact lookup_rev (i := 0) S.nd rfl rfl
  have mx : ∀ (i : Nat) (x : Str) (u : Value), (p :: ps)[i]? = some x → us[i]? = some u → m x = some u := fun i x u z1 z2 => by
    rw [← hm]
    exact lookup_rev (i := i + 1) S.nd (by simpa using z1) (by simpa using z2)
  suffices H : ∀ b, b = defBody st → wpAt (model P w) (A.deeper (PySem.callEnv (PySem.W.ksFn "__init__" qual (defArgs st) (defBody st) (defScope st) .none kV doc pm an (.ref cda) ct cc) h.objs.size fI)) (.func (defBody st) (PySem.callEnv (PySem.W.ksFn "__init__" qual (defArgs st) (defBody st) (defScope st) .none kV doc pm an (.ref cda) ct cc) h.objs.size fI)) (execs b (PySem.callEnv (PySem.W.ksFn "__init__" qual (defArgs st) (defBody st) (defScope st) .none kV doc pm an (.ref cda) ct cc) h.objs.size fI)) (fun f s' => R (.ok (.ret (match f with | .ret v => v | _ => .none))) s') _ _ from H _ rfl
  intro b eb
  rw [hbody] at eb
  subst eb
  have henv : (PySem.callEnv (PySem.W.ksFn "__init__" qual (defArgs st) (defBody st) (defScope st) .none kV doc pm an (.ref cda) ct cc) h.objs.size fI) = PySem.W.ksEnv qual (defScope st) h.objs.size fI (.ref cda) cc := rfl
  obtain ⟨oS, hS, hSd⟩ : ∃ oD, h1.get? C = some oD ∧ oD.data = .cls cd := by
    unfold PySem.W.clsIn at hcls
    split at hcls
    · rename_i c d cd' sl ho
      cases hcls
      exact ⟨_, X1 _ _ ho, rfl⟩
    · cases hcls
  obtain ⟨ar, har, hae⟩ : ∃ ar : Arg, ((defArgs st).posonlyargs ++ (defArgs st).args).head? = some ar ∧ ar.arg = "self" := by
    have z := S.hd
    cases q : ((defArgs st).posonlyargs ++ (defArgs st).args).head? with
    | none => rw [q] at z; cases z
    | some ar => rw [q] at z; exact ⟨ar, rfl, Option.some.inj z⟩
  have he1 : h1.get? e = some (xo C none t0) := k1 _ _ he
  have kp1 : ∀ b o, hK.get? b = some o → h1.get? b = some o := fun b o z => k1 _ _ (kp b o z)
  have nKe : ∀ {b : Addr} {o : Obj}, hK.get? b = some o → b ≠ e := fun {b o} z y => by rw [y, ke] at z; cases z
  obtain ⟨pl, hpl⟩ := sup_eval (p := p) (q0 := q0) (q1 := q1) (q2 := q2) (q3 := q3) (q4 := q4) (env := PySem.callEnv (PySem.W.ksFn "__init__" qual (defArgs st) (defBody st) (defScope st) .none kV doc pm an (.ref cda) ct cc) h.objs.size fI) hz hqs hln
  refine PySem.ks_wpAt_execs_cons (PySem.ks_wpAt_Expr_any (PySem.ks_wpAt_MethodCall ?_ hpl) (by simp [interactive, PySem.callEnv, newEnv, S.kind]))
  refine PySem.ks_wpAt_super_base (f := fI) (cc := cda) (ar := ar) S.sup S.cls (by decide) rfl (X1 _ _ lk) rfl har rfl (X1 _ _ lcd) rfl e2 hfile T.top ?_
  obtain ⟨mb, hmb, hmb2⟩ := M.blt
  refine PySem.W.ks_loadName_global S.kind S.sup (Calls.loadGlobal_builtin (M.glob.keeps kp1) T.sp (hmb.keeps kp1) ((hmb2 _ (by decide +kernel)).trans PyProof.Rows.Boot.«super») ⟨rfl, ?_⟩)
  refine wpAny_loadName_free S.kind S.cls rfl ⟨_, X1 _ _ lcc, rfl⟩ ?_
  rw [hae]
  refine wpAny_loadName_local S.kind (lx _ (List.mem_cons_self ..)) hns ms ?_
  refine PySem.ks_wpAny_isType_cls hS hSd ⟨rfl, ?_⟩
  have hmc : PySem.W.mroIn K C (.ref C) = some true := by
    unfold PySem.W.mroIn
    rw [hcls, Option.bind_some, emr]
    simp
  refine PySem.ks_wpAny_call_super hS hSd he1 rfl (fun c z => by cases z) (PySem.W.looks_mroIn X1 hmc) (fun h2 eso k2 => ?_)
  have X2 : K.In h2 := X1.keeps k2
  have he2 := k2 _ _ he1
  have I2 : PySem.W.InstAt h2 e (xo C none t0) C none := ⟨he2, rfl, rfl, trivial⟩
  have hsu := T.su
  unfold PySem.W.ks_superIn at hsu
  rw [hcls] at hsu
  refine PySem.W.kxs_getMethod PySem.W.kxs_ValueError eso (PySem.W.looks_opaque X2 T.tp) (l₀ := cd.mro) (fun A Q E s k q => wpAny_bind ((PySem.W.looks_clsIn X2 hcls) A _ E s k (wpAny_pure q))) rfl X2 hsu (I2.type.andThen (PySem.W.looks_subIn X2 T.sb)) (PySem.W.ks_ne X2 I2 hcls) (by decide) ?_
  have k3 : ∀ b o, h2.get? b = some o → (h2.push (PySem.W.kxs_mw "ValueError.__init__" e)).get? b = some o := fun b o z => Heap.get?_push_of_some _ z
  refine PySem.W.kxs_callWith (i := "ValueError.__init__") (x := e) (nm_plain (ps := p :: ps) (qs := q3 :: qs)) ?_
  have hns3 : (h2.push (PySem.W.kxs_mw "ValueError.__init__" e)).Ns h.objs.size m := (hns.keeps k2).keeps k3
  refine Calls.evalArgs_plain ?_
  refine names_run (m := m) (ps := p :: ps) (qs := q3 :: qs) (us := us) S.kind (by simpa using hqs) (by simpa using hl) (fun x hx => lx x (List.mem_cons_of_mem _ hx)) (fun x hx => S.dbg x (List.mem_cons_of_mem _ hx)) mx hns3 ?_
  have hu : (h2.push (PySem.W.kxs_mw "ValueError.__init__" e)).get? h2.objs.size = some (PySem.W.kxs_mw "ValueError.__init__" e) := Heap.get?_push_size h2 rfl
  refine ⟨hu, ?_⟩
  refine sup_call T.oex (X2.keeps k3) (k3 _ _ he2) hu (by show us.length ≤ _; rw [hl, sizeLine_eq]; omega) fun h4 t1 k4 he4 => ?_
  have k14 : ∀ b o, b ≠ e → h1.get? b = some o → h4.get? b = some o := fun b o hb z => k4 b o hb (k3 _ _ (k2 _ _ z))
  have X4 : K.In h4 := M.kin.keeps fun b o z => k14 b o (nKe z) (kp1 b o z)
  have hns4 : h4.Ns h.objs.size m := by
    obtain ⟨o, es, ep, ho, q⟩ := hns
    exact ⟨o, es, ep, k14 _ _ xe ho, q⟩
  show wpAt _ _ _ _ _ _ _
  match fs, hfs, us, hl, vs, hv with
  | (a1, a2, a3, a4) :: fs, hfs, u :: us, hl, v :: vs, .cons rv hv =>
    refine PySem.ks_wpAt_execs_cons (PySem.ks_wpAt_Assign_Attr (wpAt_of_wpAny (wpAny_Name (wpAny_loadName_local S.kind (lx p (by simp)) hns4 (mx 0 p u rfl rfl) ?_) (S.dbg p (by simp)))))
    refine wpAny_Name (wpAny_loadName_local S.kind (lx _ (List.mem_cons_self ..)) hns4 ms ?_) (by decide)
    refine PySem.W.set_plain X4 (ox := xo C none t1) (od := none) ⟨he4, rfl, rfl, trivial⟩ T.oex.sa ?_
    refine exc_osa X4 he4 hcls hmr hhd (T.no p (List.mem_cons_self ..)) fun h5 t5 dx k5 hdx dxe he5 hn5 => ?_
    show wpAt _ _ _ _ _ _ _
    have lt4 : ∀ {b : Addr} {o : Obj}, h4.get? b = some o → b ≠ dx := fun {b o} z => Nat.ne_of_lt (Nat.lt_of_lt_of_le (Heap.lt_size z) hdx)
    have lt1 : ∀ {b : Addr} {o : Obj}, h1.get? b = some o → b ≠ dx := fun {b o} z y => by
      by_cases hb : b = e
      · subst hb
        exact lt4 he4 y
      · exact lt4 (k14 _ _ hb z) y
    have kd : hK.get? dx = none := by
      cases z : hK.get? dx with
      | none => rfl
      | some o => exact (lt1 (kp1 _ _ z) rfl).elim
    refine asg_run (dx := dx) (t1 := t1) T.oex M.kin ke kd dxe S.kind (lx _ (List.mem_cons_self ..)) ms xe (by obtain ⟨o, es, ep, ho, q⟩ := hns; exact lt1 ho) (ps := ps) (fs := fs) (us := us) (vs := vs) (fl := [(p, v)]) (mA := fun y => if y = p then some u else none)
      (by simpa using hfs) hv (by simpa using hl) (fun x z => lx x (by simp [z])) (fun x z => S.dbg x (by simp [z])) (fun i x y e1 e2 => mx (i + 1) x y (by simpa using e1) (by simpa using e2)) (fun x z => T.no x (by simp [z]))
      (fun b o z => k5 b o (nKe z) (k14 b o (nKe z) (kp1 b o z))) ?_ he5 hn5 (relO_put (fs := []) rv fun g => True.intro) (by simp only [List.length_cons, List.length_nil]; omega) ?_
    · obtain ⟨o, es, ep, ho, q⟩ := hns4
      exact ⟨o, es, ep, k5 _ _ xe ho, q⟩
    · intro h6 t6 mB k6 e6 n6 r6
      refine hq h6 t6 dx t1 mB ?_ dxe (fun b o hb z => k6 b o hb (lt1 (k1 _ _ z)) (k5 b o hb (k14 b o hb (k1 _ _ z)))) e6 n6 fun f => ?_
      · refine Nat.le_trans ?_ hdx
        obtain ⟨o, es, ep, ho, q⟩ := hns4
        exact Nat.le_of_lt (Heap.lt_size ho)
      · have q := r6 f
        simpa only [List.zip_cons_cons, List.reverse_cons] using q
end
end Dl

set_option Elab.async false
set_option linter.all false
set_option maxRecDepth 100000
set_option maxHeartbeats 2000000
namespace Dl
open PySem L2 PySem.HandSPX
/-! ### an exception as a value: made, its fields, its class -/
section
variable {X : Cx} {pins : List (Addr × Obj)} {σ : St} {H : Hp} {s : Shared} {C fI : Addr} {fd : FuncData} {st : Stmt} {p : Str} {ps : List Str} {us ws : List Value} {vs : List V} {kw : List (Str × Value)} {Q : VK}
theorem md_of (M : Mod X.K X.mg X.base) : Md X.K X.mg X.base := ⟨M.kin, M.glob, M.blt, M.nolimit⟩
theorem exc_made (T : XI X.prog X.K X.mg C fI fd st p ps) (hz : ps.length ≤ 1) (hr : Room 1 X.A) (I : Inv X pins σ H s) (hb : ∀ (s : Shared) (e : Value), BindsTo s fd ⟨e :: us, kw⟩ ((("self" : Str) :: p :: ps).zip (e :: ws))) (r : Vals vs ws) (hl : ws.length = ps.length + 1) (hu : us.length ≤ sizeLine)
    (h : ∀ a dx, H a = none → H dx = none → dx ≠ a → Q (.ref a) (upd (upd H dx (exd dx (((p :: ps).zip vs).reverse))) a (exo a C (some dx)))) : wpAny (model X.prog X.w) X.A (call (.ref C) us kw) (EP X pins σ Q) X.xe s := by
  obtain ⟨nm, q, N, bs, bm, sn, sub, ab, col, dd, k0, k1, k2, k3, k5, hC, hbm⟩ := T.oex.cls
  obtain ⟨hp, g, d, t, os⟩ := s
  have up : ∀ b o, hp.get? b = some o → ((hp.push (PySem.W.kdv_tup us)).push (excO C hp.objs.size)).get? b = some o := fun b o y => Heap.get?_push_of_some _ (Heap.get?_push_of_some _ y)
  have own : ((hp.push (PySem.W.kdv_tup us)).push (excO C hp.objs.size)).get? (hp.objs.size + 1) = some (xo C none hp.objs.size) := by heap_get
  have sz : ((hp.push (PySem.W.kdv_tup us)).push (excO C hp.objs.size)).objs.size = hp.objs.size + 2 := by rw [Heap.size_push, Heap.size_push]
  have lt : ∀ {b : Addr} {o : Obj}, hp.get? b = some o → b < hp.objs.size := fun {b o} z => Heap.lt_size z
  refine wpAny_call (xmake (I.kIn _ _ hC) hbm hu (PySem.W.looks_findIn I.kIn T.iC) (fun self => PySem.W.bind_fn I.kIn self T.tI) ?_)
  refine xinit_run T (md_of I.ok.mod) (fun b o z => up b o (I.bk b o z)) ?_ (hb _ _) r hl hz (hr.make C us kw).depth own fun h' t' dx t1 mB hdx dxe k he hn hrel => ?_
  · cases z : X.base.get? (hp.objs.size + 1) with
    | none => rfl
    | some o => exact absurd (lt (I.bk _ _ z)) (Nat.not_lt_of_le (Nat.le_succ _))
  have hdx2 : hp.objs.size ≤ dx := Nat.le_trans (Nat.le_trans (Nat.le_add_right _ 2) (Nat.le_of_eq sz.symm)) hdx
  have na : H (hp.objs.size + 1) = none := I.hok.fresh (Nat.le_succ _)
  have nd : H dx = none := I.hok.fresh hdx2
  have k2 : ∀ b o, hp.get? b = some o → h'.get? b = some o := fun b o z => k b o (Nat.ne_of_lt (Nat.lt_succ_of_lt (lt z))) (up b o z)
  refine ⟨rfl, .ref (hp.objs.size + 1), _, I.un (t' := t') (H' := upd (upd H dx (exd dx (((p :: ps).zip vs).reverse))) (hp.objs.size + 1) (exo (hp.objs.size + 1) C (some dx))) ?_ ?_, rfl, h _ _ na nd dxe⟩
  · have nb : ∀ {b : Addr} {o : Obj}, hp.get? b = some o → b ≠ hp.objs.size + 1 ∧ b ≠ dx := fun {b o} z => ⟨Nat.ne_of_lt (Nat.lt_succ_of_lt (lt z)), Nat.ne_of_lt (Nat.lt_of_lt_of_le (lt z) hdx2)⟩
    exact {
      keep := fun b o z n _ _ => k2 b o z
      slot := fun b o z n _ _ => ⟨o.slots, k2 b o z⟩
      free := fun b o z n _ => by rw [upd_ne (nb z).1, upd_ne (nb z).2]; exact n
      there := fun b o z _ => ⟨o, k2 b o z⟩
      tups := fun b xs z => by rw [upd_ne (ne_of_none z na), upd_ne (ne_of_none z nd)]; exact z
      frzs := fun b o v z => by rw [upd_ne (ne_of_none z na), upd_ne (ne_of_none z nd)]; exact z
      tbls := fun b ps z => ⟨#[], by rw [upd_ne (ne_of_none z na), upd_ne (ne_of_none z nd), z]; simp⟩ }
  · intro b o z
    by_cases hb1 : b = hp.objs.size + 1
    · subst hb1
      rw [upd_same] at z
      cases z
      exact exo_ok he
    · rw [upd_ne hb1] at z
      by_cases hd1 : b = dx
      · subst hd1
        rw [upd_same] at z
        cases z
        exact exd_ok hn hrel
      · rw [upd_ne hd1] at z
        exact (I.hok b o z).stay (fun c v hc y => k2 c v y) (fun c hc => by rw [upd_ne (ne_of_none hc na), upd_ne (ne_of_none hc nd)]; exact hc) (fun c xs hc => by rw [upd_ne (ne_of_none hc na), upd_ne (ne_of_none hc nd)]; exact hc)
end
end Dl

set_option Elab.async false
set_option linter.all false
set_option maxRecDepth 100000
set_option maxHeartbeats 2000000
namespace Dl
open PySem L2 PySem.HandSPX
theorem rps_rev {T : Tb} {F : Fz} : ∀ {ds : List D} {vs : List V}, Rps T F ds vs → Rps T F ds.reverse vs.reverse
  | [], vs, r => by rw [r.inv_nil]; exact Rps.nil
  | d :: ds, vs, r => by
    obtain ⟨v, q, rfl, r1, r2⟩ := r.inv_cons
    rw [List.reverse_cons, List.reverse_cons]
    exact (rps_rev r2).append (Rps.one r1)
theorem zip_snd {α β : Type} : ∀ {a : List α} {b : List β}, b.length = a.length → (a.zip b).map (·.2) = b
  | [], [], _ => rfl
  | [], _ :: _, h => by cases h
  | _ :: _, [], h => by cases h
  | x :: a, y :: b, h => by rw [List.zip_cons_cons, List.map_cons, zip_snd (by simpa using h)]
theorem zip_fst {α β : Type} : ∀ {a : List α} {b : List β}, b.length = a.length → (a.zip b).map (·.1) = a
  | [], [], _ => rfl
  | [], _ :: _, h => by cases h
  | _ :: _, [], h => by cases h
  | x :: a, y :: b, h => by rw [List.zip_cons_cons, List.map_cons, zip_fst (by simpa using h)]
/-- an own exception class with the fields p, ps: made by name, read by name -/
structure Exn (P : Program) (K : PySem.W.Frag) (mg : Str → Option Value) (x : Str) (st : Stmt) (p : Str) (ps : List Str) : Prop where
  ex : ∃ C fI fd, XI P K mg C fI fd st p ps ∧ mg x = some (.ref C) ∧ XfC K C
  sm : ps.length ≤ 1
def bnd (st : Stmt) (p : Str) (ps : List Str) (us : List Value) (kw : List (Str × Value)) (ws : List Value) : Prop := ∀ (qual : Str) (kV doc pmv : Value) (an : Option Addr) (cdv ct : Value) (cc : Addr) (e : Value),
  bindArgs (PySem.W.ksFn "__init__" qual (defArgs st) (defBody st) (defScope st) .none kV doc pmv an cdv ct cc) ⟨e :: us, kw⟩ = pure ((("self" : Str) :: p :: ps).zip (e :: ws))
theorem XI.bind {P : Program} {K : PySem.W.Frag} {mg : Str → Option Value} {C fI : Addr} {fd : FuncData} {st : Stmt} {p : Str} {ps : List Str} {us ws : List Value} {kw : List (Str × Value)} (T : XI P K mg C fI fd st p ps) (h : bnd st p ps us kw ws) (s : Shared) (e : Value) :
    BindsTo s fd ⟨e :: us, kw⟩ ((("self" : Str) :: p :: ps).zip (e :: ws)) := by
  obtain ⟨cc, cda, qual, oc, od, kV, doc, pm, an, ct, osl, cl, cld, csl, ccl, cdd, vs3, ccs, file, tf, efd, _⟩ := T.ex
  subst efd
  exact .of_eq (h qual kV doc pm an _ ct cc e)
def mExc (c : Str) (ns : List Str) (a : DA) : DE := fun δ n q x => a δ n (fun ds n1 => ds.length = ns.length ∧ q (.exc c ns.reverse ds.reverse) n1) x
def mExcK (c : Str) (ns : List Str) (pm : List Nat) (nk : Nat) (a : DA) : DE := fun δ n q x => a δ n (fun ds n1 => ds.length = nk ∧ (arr pm ds).length = ns.length ∧ q (.exc c ns.reverse (arr pm ds).reverse) n1) x
def lookD (f : Str) : List Str → List D → Option D
  | k :: ks, x :: xs => if f = k then some x else lookD f ks xs
  | _, _ => none
def fldX (c f : Str) : D → Option D
  | .exc c' ns xs => if c' = c then lookD f ns xs else none
  | _ => none
section
variable {g : Gx} {X : Cx} {x p f : Str} {ps : List Str} {st : Stmt} {k : Nat} {pn pos : Pos} {e : Expr} {es : List Expr} {ma mk : DA} {m : DE} {kw : Keyword} {kws : List Keyword} {ks : List Str} {pm : List Nat}
theorem laidX {F : Fz} {H : Hp} {vs : List V} {ds : List D} {ns : List Str} {C a dx : Addr} (e : Ex F.B H) (hm : X.mg x = some (.ref C)) (r : Rps (tb X) F ds vs) (l : ds.length = ns.length) (na : H a = none) (nd : H dx = none) (ne : dx ≠ a) :
    ∃ F', Stp F H F' (upd (upd H dx (exd dx ((ns.zip vs).reverse))) a (exo a C (some dx))) ∧ Rp (tb X) F' (.exc x ns.reverse ds.reverse) (.ref a) := by
  have s1 := Stp.new (o := exd dx ((ns.zip vs).reverse)) e nd
  have na1 : upd H dx (exd dx ((ns.zip vs).reverse)) a = none := by rw [upd_ne (Ne.symm ne)]; exact na
  have s2 := Stp.new (o := exo a C (some dx)) s1.f.ex na1
  refine ⟨_, s1.trans s2, ?_⟩
  simp only [Rp]
  have hl : vs.length = ns.length := by rw [r.length]; exact l
  refine ⟨a, C, rfl, hm, .inr ⟨dx, _, upd_same, by rw [upd_ne ne]; exact upd_same, ?_, ?_⟩⟩
  · rw [List.map_reverse, zip_fst hl]
  · rw [List.map_reverse, zip_snd hl]
    exact rps_rev (Rps.mono (s1.trans s2).f.le _ _ r)
/-- C(e, ..) as a value -/
theorem de_exc (T : Exn X.prog X.K X.mg x st p ps) (hr : Room k X.A) (hb : ∀ us : List Value, us.length = ps.length + 1 → bnd st p ps us [] us) (ha : PDA g X (e :: es) ma) (hk : 1 ≤ k := by decide) (hg : Gl X x := by rfl)
    (hdb : (x == ("__debug__" : Str)) = false := by decide) (he : starEach (e :: es) X.env = (false, eval e X.env) :: starEach es X.env := by rfl) (hpl : (backTo pos (starEach es X.env)).any (·.1) = false := by rfl) :
    PDE g X (.Call (.Name x pn) (e :: es) [] pos) (mExc x (p :: ps) ma) := by
  obtain ⟨C, fI, fd, T1, hm, hf⟩ := T.ex
  refine ⟨fun pins s σ H Q I h => ?_⟩
  refine PySem.wpAny_Call_Name_kw (ld_glob I hg hm ?_ hdb)
  have h2 : upA (tb X) g ma σ H (fun vs H1 => vs.length = ps.length + 1 ∧ ∀ a dx, H1 a = none → H1 dx = none → dx ≠ a → Q (.ref a) (upd (upd H1 dx (exd dx (((p :: ps).zip vs).reverse))) a (exo a C (some dx)))) := by
    obtain ⟨F, δ, n, q, x, S, hm', kn, kx⟩ := h
    refine seqA S hm' kx fun vs ds F1 H1 n1 f1 S1 kx1 r1 h1 => ?_
    obtain ⟨l, hq⟩ := h1
    refine ⟨by rw [r1.length]; exact l, fun a dx na nd ne => ?_⟩
    obtain ⟨F2, s2, r2⟩ := laidX S1.ex hm r1 l na nd ne
    exact kn _ _ F2 _ n1 (f1.trans s2.f) (s2.pen S1.pen) r2 hq
  refine PySem.W.callWith_K (h₀ := X.base) I.ok.mod.kin T1.oex.kC (thn (ha.run pos pins s σ H _ I h2) fun us s1 ⟨vs, H1, I1, r, l, q⟩ => ⟨I1.kIn, ?_⟩) he hpl
  have hu : us.length = ps.length + 1 := by rw [← r.length]; exact l
  exact exc_made T1 T.sm (hr.mono hk) I1 (T1.bind (hb us hu)) r hu (by have := T.sm; show us.length ≤ _; rw [hu, sizeLine_eq]; omega) q
/-- C(k = e, ..) as a value -/
theorem de_excK (T : Exn X.prog X.K X.mg x st p ps) (hr : Room k X.A) (hb : ∀ ws : List Value, ws.length = ks.length → bnd st p ps [] (ks.zip ws) (arr pm ws)) (hkw : PDK g X (kw :: kws) mk) (hk : 1 ≤ k := by decide) (hg : Gl X x := by rfl)
    (hall : (backToKw pos (keywordEach (kw :: kws) X.env)).all (·.1.isSome) = true := by rfl) (hks : (backToKw pos (keywordEach (kw :: kws) X.env)).filterMap (·.1) = ks := by rfl)
    (hdb : (x == ("__debug__" : Str)) = false := by decide)
    (hpl : ((backTo pos (starEach [] X.env)).any (·.1) || (backToKw pos (keywordEach (kw :: kws) X.env)).any (·.1.isNone)) = false := by rfl) :
    PDE g X (.Call (.Name x pn) [] (kw :: kws) pos) (mExcK x (p :: ps) pm ks.length mk) := by
  obtain ⟨C, fI, fd, T1, hm, hf⟩ := T.ex
  refine ⟨fun pins s σ H Q I h => ?_⟩
  refine PySem.wpAny_Call_Name_kw (ld_glob I hg hm ?_ hdb)
  have h2 : upA (tb X) g mk σ H (fun vs H1 => vs.length = ks.length ∧ (arr pm vs).length = ps.length + 1 ∧ ∀ a dx, H1 a = none → H1 dx = none → dx ≠ a → Q (.ref a) (upd (upd H1 dx (exd dx (((p :: ps).zip (arr pm vs)).reverse))) a (exo a C (some dx)))) := by
    obtain ⟨F, δ, n, q, x, S, hm', kn, kx⟩ := h
    refine seqA S hm' kx fun vs ds F1 H1 n1 f1 S1 kx1 r1 h1 => ?_
    obtain ⟨l, l2, hq⟩ := h1
    have ra := rps_arr r1 pm
    refine ⟨by rw [r1.length]; exact l, by rw [ra.length]; exact l2, fun a dx na nd ne => ?_⟩
    obtain ⟨F2, s2, r2⟩ := laidX S1.ex hm ra l2 na nd ne
    exact kn _ _ F2 _ n1 (f1.trans s2.f) (s2.pen S1.pen) r2 hq
  refine PySem.W.callWith_KW0 (h₀ := X.base) I.ok.mod.kin T1.oex.kC hall (thn (hkw.run pos pins s σ H _ I h2) fun ws s2 ⟨zs, H2, I2, rz, l, l2, q2⟩ => ⟨I2.kIn, ?_⟩) hpl
  rw [hks]
  have hw : ws.length = ks.length := by rw [← rz.length]; exact l
  have ra := vals_arr rz pm
  exact exc_made (us := []) T1 T.sm (hr.mono hk) I2 (T1.bind (hb ws hw)) ra (by rw [← ra.length]; exact l2) (by rw [sizeLine_eq]; exact Nat.zero_le _) q2
theorem look_rel : ∀ {fs : List (Str × V)} {T : Tb} {F : Fz} {xs : List D} {z : D}, Rps T F xs (fs.map (·.2)) → lookD f (fs.map (·.1)) xs = some z → ∃ v, fs.lookup f = some v ∧ Rp T F z v
  | [], _, _, xs, z, r, h => by simp only [List.map_nil, lookD] at h; cases h
  | (k, v) :: fs, T, F, [], z, r, h => by
    have := r.length
    simp at this
  | (k, v) :: fs, T, F, x :: xs, z, r, h => by
    obtain ⟨v', q, e, r1, r2⟩ := r.inv_cons
    simp only [List.map_cons, List.cons.injEq] at e
    obtain ⟨rfl, rfl⟩ := e
    simp only [List.map_cons, lookD] at h
    by_cases hk : f = k
    · rw [if_pos hk] at h
      cases h
      exact ⟨v, by simp [hk], r1⟩
    · rw [if_neg hk] at h
      obtain ⟨u, h1, h2⟩ := look_rel r2 h
      exact ⟨u, by rw [lookup_put, if_neg hk]; exact h1, h2⟩
/-- e.f, e an exception of the class x -/
theorem de_xf (T : Exn X.prog X.K X.mg x st p ps) (hf : f ∈ p :: ps) (he : PDE g X e m) (hb : attributeBase e f X.env (eval e X.env) = eval e X.env := by rfl) : PDE g X (.Attribute e f pos) (mUn (fldX x f) m) := by
  obtain ⟨C, fI, fd, T1, hm, hx⟩ := T.ex
  refine ⟨fun pins s σ H Q I h => ?_⟩
  have h2 : upE (tb X) g m σ H (fun v H1 => ∃ (a dx : Addr) (fs : List (Str × V)) (u : V), v = .ref a ∧ H1 a = some (exo a C (some dx)) ∧ H1 dx = some (exd dx fs) ∧ fs.lookup f = some u ∧ Q u H1) := by
    obtain ⟨F, δ, n, q, x, S, hm', kn, kx⟩ := h
    refine seqE S hm' kx fun v d F1 H1 n1 f1 S1 kx1 r1 h1 => ?_
    obtain ⟨z, hz, hq⟩ := h1
    unfold fldX at hz
    split at hz
    · rename_i c' ns xs
      split at hz
      · rename_i hc
        subst hc
        simp only [Rp] at r1
        obtain ⟨a, C', rfl, hm2, ⟨rfl, rfl, _⟩ | ⟨dx, fs, q1, q2, rfl, r3⟩⟩ := r1
        · cases hz
        · have eC : C' = C := by
            have z := hm2.symm.trans hm
            cases z
            rfl
          subst eC
          obtain ⟨u, hu, ru⟩ := look_rel r3 hz
          exact ⟨a, dx, fs, u, rfl, S1.ex _ _ q1, S1.ex _ _ q2, hu, kn _ _ F1 H1 n1 f1 S1.pen ru hq⟩
      · cases hz
    · cases hz
  refine attr_of hb (thn (he.run pins s σ H _ I h2) fun u s1 ⟨v, H1, I1, rx, a, dx, fs, z, ex, ea, ed, l, q⟩ => ?_)
  subst ex
  obtain rfl : u = Value.ref a := rx
  obtain ⟨t1, ha⟩ := exo_at I1.hok ea
  obtain ⟨mA, hns, hr⟩ := exd_at I1.hok ed
  obtain ⟨od, ho, hl⟩ := lookIn_ns hns
  obtain ⟨u, hu, ru⟩ := RelO.some_of (v := z) (o := mA f) (by rw [← l]; exact hr f)
  have J : PySem.W.InstAt s1.heap a (xo C (some dx) t1) C (some od) := ⟨ha, rfl, rfl, ho⟩
  exact HandSPX.exc_get I1.kIn J hx.ga hx.gg hx.exC (PySem.W.findObj_own hx.hdC (T1.no f hf) rfl (by rw [hl, hu])) (handed_of ru) ⟨z, H1, I1.tok _, ru, q⟩
/-! ### the class of an exception -/
/-- what isinstance asks of an exception's class -/
structure XkC (K : PySem.W.Frag) (C : Addr) : Prop where
  cl : (PySem.W.clsIn K C).isSome = true
  ga : PySem.W.findIn K (.ref C) "__getattribute__" = some (some (.builtin "BaseException.__getattribute__"))
  gt : PySem.W.findIn K (.ref C) "__getattr__" = some none
  sb : PySem.W.subIn K (.ref C) (.type "BaseException") = some true
  ca : PySem.W.findIn K (.ref C) "__class__" = some (some (.builtin "object.__class__"))
  hn : PySem.W.specialIn K (.builtin "object.__class__") "__get__" = some (some (.builtin "getset_descriptor.__get__"))
  ht : PySem.W.takesIn K (.builtin "object.__class__") = some true
  hm : PySem.W.mroIn K C (.type "object") = some true
def xkB (K : PySem.W.Frag) (C : Addr) : Bool := (PySem.W.clsIn K C).isSome && (decide (PySem.W.findIn K (.ref C) "__getattribute__" = some (some (.builtin "BaseException.__getattribute__"))) && (decide (PySem.W.findIn K (.ref C) "__getattr__" = some none) &&
  (decide (PySem.W.subIn K (.ref C) (.type "BaseException") = some true) && (decide (PySem.W.findIn K (.ref C) "__class__" = some (some (.builtin "object.__class__"))) && (decide (PySem.W.specialIn K (.builtin "object.__class__") "__get__" = some (some (.builtin "getset_descriptor.__get__"))) &&
  (decide (PySem.W.takesIn K (.builtin "object.__class__") = some true) && decide (PySem.W.mroIn K C (.type "object") = some true)))))))
theorem xkB_ok {K : PySem.W.Frag} {C : Addr} (h : xkB K C = true) : XkC K C := by
  simp only [xkB, Bool.and_eq_true, decide_eq_true_eq] at h
  obtain ⟨h1, h2, h3, h4, h5, h6, h7, h8⟩ := h
  exact ⟨h1, h2, h3, h4, h5, h6, h7, h8⟩
/-- isinstance(e, c), by the name of e's class -/
def isxD (is : Str → Option Bool) : D → Option D
  | .exc c _ _ => (is c).map D.bl
  | _ => none
theorem isx_run {pins : List (Addr × Obj)} {σ : St} {H : Hp} {s : Shared} {Q : VK} {C a : Addr} {dx : Option Addr} {cv : Value} {b : Bool} (N : XkC X.K C) (I : Inv X pins σ H s) (ea : H a = some (exo a C dx)) (hd : ∀ d, dx = some d → ∃ fs, H d = some (exd d fs)) (hk : PySem.W.kitOne X.K (.ref C) cv = some b) (q : Q (.bl b) H) :
    wpAny (model X.prog X.w) X.A (call (.builtin "isinstance") [.ref a, cv]) (EP X pins σ Q) X.xe s := by
  obtain ⟨t1, ha⟩ := exo_at I.hok ea
  have J : ∃ od, PySem.W.InstAt s.heap a (xo C dx t1) C od := by
    cases dx with
    | none => exact ⟨none, ha, rfl, rfl, trivial⟩
    | some d =>
      obtain ⟨fs, ed⟩ := hd d rfl
      obtain ⟨mA, hns, _⟩ := exd_at I.hok ed
      obtain ⟨od, ho, _⟩ := lookIn_ns hns
      exact ⟨some od, ha, rfl, rfl, ho⟩
  obtain ⟨od, J⟩ := J
  exact PySem.W.kia_one (PySem.W.kitx_exc (od := od) N.cl N.ga N.gt N.sb N.ca N.hn N.ht N.hm) I.kIn J hk (fun z => nomatch z) fun tk => ⟨.bl b, H, I.kept (t' := tk) fun _ _ z => z, rfl, q⟩
theorem rp_exo {F : Fz} {H : Hp} {c : Str} {ns : List Str} {xs : List D} {v : V} (e : Ex F.B H) (r : Rp (tb X) F (.exc c ns xs) v) : ∃ a C dx, v = .ref a ∧ X.mg c = some (.ref C) ∧ H a = some (exo a C dx) ∧ ∀ d, dx = some d → ∃ fs, H d = some (exd d fs) := by
  simp only [Rp] at r
  obtain ⟨a, C, rfl, hm, ⟨_, _, q⟩ | ⟨dx, fs, q1, q2, _⟩⟩ := r
  · exact ⟨a, C, none, rfl, hm, e _ _ q, fun d z => by cases z⟩
  · exact ⟨a, C, some dx, rfl, hm, e _ _ q1, fun d z => by cases z; exact ⟨fs, e _ _ q2⟩⟩
theorem call_isx {is : Str → Option Bool} {u : V} {cv : Value} (hcv : ∀ w, RelV u w → w = cv) (hall : ∀ c C b, is c = some b → X.mg c = some (.ref C) → XkC X.K C ∧ PySem.W.kitOne X.K (.ref C) cv = some b) :
    CallR X (.builtin "isinstance") (fun xs H Q => ∃ v F d z, xs = [v, u] ∧ Ex F.B H ∧ Rp (tb X) F d v ∧ isxD is d = some z ∧ ∀ b, z = .bl b → Q (.bl b) H) := by
  intro pins s σ H xs us Q I r h
  obtain ⟨v, F, d, z, rfl, e, rv, hz, q⟩ := h
  cases r with
  | cons rx rr =>
    cases rr with
    | cons rt rr =>
      cases rr
      have ec := hcv _ rt
      subst ec
      unfold isxD at hz
      split at hz
      · rename_i c ns xs
        cases hi : is c with
        | none => rw [hi] at hz; cases hz
        | some b =>
          rw [hi] at hz
          cases hz
          obtain ⟨a, C, dx, rfl, hm, ea, hd⟩ := rp_exo e rv
          cases rx
          obtain ⟨N, hk⟩ := hall c C b hi hm
          exact isx_run N I ea hd hk (q b rfl)
      · cases hz
theorem de_isx {y : Str} {C2 : Addr} {is : Str → Option Bool} {pc : Pos} (hm : X.mg "isinstance" = none) (hy : X.mg y = some (.ref C2)) (hall : ∀ c C b, is c = some b → X.mg c = some (.ref C) → XkC X.K C ∧ PySem.W.kitOne X.K (.ref C) (.ref C2) = some b) (he : PDE g X e m) (hgx : Gl X y := by rfl) (hg : Gl X "isinstance" := by rfl) (hdb : (y == ("__debug__" : Str)) = false := by decide)
    (s1 : starEach (e :: [.Name y pc]) X.env = (false, eval e X.env) :: starEach [.Name y pc] X.env := by rfl) (s2 : starEach [.Name y pc] X.env = (false, eval (.Name y pc) X.env) :: starEach [] X.env := by rfl)
    (hpl : (backTo pos (starEach [.Name y pc] X.env)).any (·.1) = false := by rfl) : PDE g X (.Call (.Name "isinstance" pn) [e, .Name y pc] [] pos) (mUn (isxD is) m) :=
  pe_mono (pe_callB (call_isx (u := .ref C2) (cv := .ref C2) (fun w z => z) hall) hg hm PyProof.Rows.boot_isinstance (pa_cons he (pa_cons (pe_glob (v := .ref C2) hgx hy rfl hdb) pa_nil s2) s1) (by decide) (by decide) s1 hpl) fun σ H Q h => by
    obtain ⟨F, δ, n, q, x, S, hm, kn, kx⟩ := h
    refine seqE S hm kx fun v d F1 H1 n1 f1 S1 kx1 r1 h1 => ?_
    obtain ⟨z, hz, hq⟩ := h1
    exact ⟨v, F1, d, z, rfl, S1.ex, r1, hz, fun b hb => by subst hb; exact kn _ _ F1 H1 n1 f1 S1.pen rp_of_bl hq⟩
theorem de_isxB {y : Str} {t : String} {is : Str → Option Bool} {pc : Pos} (hm : X.mg "isinstance" = none) (hy : X.mg y = none) (hb : bootBuiltins y = some (.type t)) (hall : ∀ c C b, is c = some b → X.mg c = some (.ref C) → XkC X.K C ∧ PySem.W.kitOne X.K (.ref C) (.type t) = some b) (he : PDE g X e m) (hgx : Gl X y := by rfl) (hg : Gl X "isinstance" := by rfl) (hn : y ≠ "__name__" := by decide) (hdb : (y == ("__debug__" : Str)) = false := by decide)
    (s1 : starEach (e :: [.Name y pc]) X.env = (false, eval e X.env) :: starEach [.Name y pc] X.env := by rfl) (s2 : starEach [.Name y pc] X.env = (false, eval (.Name y pc) X.env) :: starEach [] X.env := by rfl)
    (hpl : (backTo pos (starEach [.Name y pc] X.env)).any (·.1) = false := by rfl) : PDE g X (.Call (.Name "isinstance" pn) [e, .Name y pc] [] pos) (mUn (isxD is) m) :=
  pe_mono (pe_callB (call_isx (u := .ty t) (cv := .type t) (fun w z => z) hall) hg hm PyProof.Rows.boot_isinstance (pa_cons he (pa_cons (pe_bltn (v := .ty t) hgx hy hb rfl hn hdb) pa_nil s2) s1) (by decide) (by decide) s1 hpl) fun σ H Q h => by
    obtain ⟨F, δ, n, q, x, S, hm, kn, kx⟩ := h
    refine seqE S hm kx fun v d F1 H1 n1 f1 S1 kx1 r1 h1 => ?_
    obtain ⟨z, hz, hq⟩ := h1
    exact ⟨v, F1, d, z, rfl, S1.ex, r1, hz, fun b hb => by subst hb; exact kn _ _ F1 H1 n1 f1 S1.pen rp_of_bl hq⟩
/-- C(), C without an own __init__ -/
theorem de_exc0 {C : Addr} (q : PySem.W.excIn X.K C [.type "ValueError", .type "Exception", .type "BaseException", .type "object"] "ValueError.__new__" = true) (hm : X.mg x = some (.ref C)) (kC : PySem.W.keepIn X.K (.ref C) = true) (hg : Gl X x := by rfl) (hdb : (x == ("__debug__" : Str)) = false := by decide) :
    PDE g X (.Call (.Name x pn) [] [] pos) (mC (.exc x [] [])) := by
  refine ⟨fun pins s σ H Q I h => ?_⟩
  refine PySem.wpAny_Call_Name_kw (ld_glob I hg hm ?_ hdb)
  refine PySem.W.callWith_K0 I.kIn kC ?_
  obtain ⟨bm, N, nm, qn, bs, hdct, sn, sub, ab, col, dd, k0, k1, k2, k3, k5, mN, hC, hN, hni, T⟩ := exc_obj I.kIn q
  refine wpAny_call_exc_subT F.excBase_ValueError T hC hN hni (fun h' a hm' => ?_) (by show 0 ≤ sizeLine; exact Nat.zero_le _)
  have hn : H a = none := I.hok.gone hm'.new
  obtain ⟨t, ht, _, _⟩ := hm'.there
  obtain ⟨F, δ, n, q, x, S, hq, kn, kx⟩ := h
  have s1 := Stp.new (o := exo a C none) S.ex hn
  refine ⟨.ref a, upd H a (exo a C none), I.laidN hm'.keeps hm'.new hn (exo_ok ht), rfl, kn _ _ _ _ n s1.f (s1.pen S.pen) ?_ hq⟩
  simp only [Rp]
  exact ⟨a, C, rfl, hm, .inl ⟨trivial, trivial, upd_same⟩⟩
end
end Dl

set_option Elab.async false
set_option linter.all false
set_option maxRecDepth 100000
set_option maxHeartbeats 2000000
namespace Dl
open PySem L2 PySem.HandSPX
theorem vals_ty : ∀ {ts : List String} {us : List Value}, Vals (ts.map V.ty) us → us = ts.map Value.type
  | [], us, r => by cases r; rfl
  | t :: ts, us, r => by
    cases r with
    | cons rv rr =>
      rw [vals_ty rr]
      have : _ = Value.type t := rv
      rw [this]
      rfl
section
variable {g : Gx} {X : Cx} {pn pos : Pos} {e : Expr} {m : DE}
theorem isxT_run {pins : List (Addr × Obj)} {σ : St} {H : Hp} {s : Shared} {Q : VK} {C a tp : Addr} {dx : Option Addr} {ts : List String} {b : Bool} (N : XkC X.K C) (I : Inv X pins σ H s) (ea : H a = some (exo a C dx)) (hd : ∀ d, dx = some d → ∃ fs, H d = some (exd d fs)) (ht : H tp = some (.tup (ts.map V.ty)))
    (hk : PySem.W.kitAny X.K (.ref C) (ts.map Value.type) = some b) (q : Q (.bl b) H) : wpAny (model X.prog X.w) X.A (call (.builtin "isinstance") [.ref a, .ref tp]) (EP X pins σ Q) X.xe s := by
  obtain ⟨t1, ha⟩ := exo_at I.hok ea
  have J : ∃ od, PySem.W.InstAt s.heap a (xo C dx t1) C od := by
    cases dx with
    | none => exact ⟨none, ha, rfl, rfl, trivial⟩
    | some d =>
      obtain ⟨fs, ed⟩ := hd d rfl
      obtain ⟨mA, hns, _⟩ := exd_at I.hok ed
      obtain ⟨od, ho, _⟩ := lookIn_ns hns
      exact ⟨some od, ha, rfl, rfl, ho⟩
  obtain ⟨od, J⟩ := J
  obtain ⟨its, r, ⟨⟨cls, dd, data, sl⟩, ho, hc, n, hd⟩, _⟩ := I.tuple (SqT.of ht)
  simp only at hc hd
  subst hc hd
  have := vals_ty r
  subst this
  exact PySem.W.kia_tup (PySem.W.kitx_exc (od := od) N.cl N.ga N.gt N.sb N.ca N.hn N.ht N.hm) I.kIn J ho hk (fun z => nomatch z) fun tk => ⟨.bl b, H, I.kept (t' := tk) fun _ _ z => z, rfl, q⟩
theorem call_isxT {is : Str → Option Bool} {ts : List String} (hall : ∀ c C b, is c = some b → X.mg c = some (.ref C) → XkC X.K C ∧ PySem.W.kitAny X.K (.ref C) (ts.map Value.type) = some b) :
    CallR X (.builtin "isinstance") (fun xs H Q => ∃ v tp F d z, xs = [v, .ref tp] ∧ H tp = some (.tup (ts.map V.ty)) ∧ Ex F.B H ∧ Rp (tb X) F d v ∧ isxD is d = some z ∧ ∀ b, z = .bl b → Q (.bl b) H) := by
  intro pins s σ H xs us Q I r h
  obtain ⟨v, tp, F, d, z, rfl, ht, e, rv, hz, q⟩ := h
  cases r with
  | cons rx rr =>
    cases rr with
    | cons rt rr =>
      cases rr
      cases rt
      unfold isxD at hz
      split at hz
      · rename_i c ns xs
        cases hi : is c with
        | none => rw [hi] at hz; cases hz
        | some b =>
          rw [hi] at hz
          cases hz
          obtain ⟨a, C, dx, rfl, hm, ea, hd⟩ := rp_exo e rv
          cases rx
          obtain ⟨N, hk⟩ := hall c C b hi hm
          exact isxT_run N I ea hd ht hk (q b rfl)
      · cases hz
/-- the names of built-in classes, as a list of arguments -/
def tTys (ts : List String) : TA := fun _ H Q => Q (ts.map V.ty) H
theorem pa_tys0 : PA X [] (tTys []) := pa_mono pa_nil fun σ H Q h => h
theorem pa_tys {y : Str} {t : String} {ts : List String} {es : List Expr} {pc : Pos} (hy : X.mg y = none) (hb : bootBuiltins y = some (.type t)) (hr : PA X es (tTys ts)) (hgx : Gl X y := by rfl) (hn : y ≠ "__name__" := by decide) (hdb : (y == ("__debug__" : Str)) = false := by decide)
    (s2 : starEach (.Name y pc :: es) X.env = (false, eval (.Name y pc) X.env) :: starEach es X.env := by rfl) : PA X (.Name y pc :: es) (tTys (t :: ts)) :=
  pa_mono (pa_cons (pe_bltn (v := .ty t) hgx hy hb rfl hn hdb) hr s2) fun σ H Q h => h
theorem de_isxT {ts : List String} {is : Str → Option Bool} {es : List Expr} {q1 : Pos} {cx} (hm : X.mg "isinstance" = none) (hl : ts.length ≤ sizeLine) (hall : ∀ c C b, is c = some b → X.mg c = some (.ref C) → XkC X.K C ∧ PySem.W.kitAny X.K (.ref C) (ts.map Value.type) = some b) (he : PDE g X e m) (ht : PA X es (tTys ts)) (hg : Gl X "isinstance" := by rfl)
    (s1 : starEach (e :: [.Tuple es cx q1]) X.env = (false, eval e X.env) :: starEach [.Tuple es cx q1] X.env := by rfl) (s2 : starEach [.Tuple es cx q1] X.env = (false, eval (.Tuple es cx q1) X.env) :: starEach [] X.env := by rfl)
    (hpl : (backTo pos (starEach [.Tuple es cx q1] X.env)).any (·.1) = false := by rfl) : PDE g X (.Call (.Name "isinstance" pn) [e, .Tuple es cx q1] [] pos) (mUn (isxD is) m) :=
  pe_mono (pe_callB (call_isxT (ts := ts) hall) hg hm PyProof.Rows.boot_isinstance (pa_cons he (pa_cons (pe_tup ht) pa_nil s2) s1) (by decide) (by decide) s1 hpl) fun σ H Q h => by
    obtain ⟨F, δ, n, q, x, S, hm, kn, kx⟩ := h
    refine seqE S hm kx fun v d F1 H1 n1 f1 S1 kx1 r1 h1 => ?_
    obtain ⟨z, hz, hq⟩ := h1
    refine ⟨by rw [List.length_map]; exact hl, fun tp np => ?_⟩
    have s2 := Stp.new (o := .tup (ts.map V.ty)) S1.ex np
    exact ⟨v, tp, _, d, z, rfl, upd_same, s2.f.ex, Rp.mono s2.f.le _ _ r1, hz, fun b hb => by subst hb; exact kn _ _ _ _ n1 (f1.trans s2.f) (s2.pen S1.pen) rp_of_bl hq⟩
end
/-! ### the classes by name: one look at the written part -/
def clsAt (K : PySem.W.Frag) (c : Str) : Option Addr := match PySem.W.nsIn K mainGlobals c with
  | some (some (.ref C)) => some C
  | _ => none
/-- each class of the table: what isinstance asks; which classes it stands under -/
def isAll (K : PySem.W.Frag) (cs : List (Str × List Str)) (ts : List Str) (bs : List String) : Bool := cs.all fun p => match clsAt K p.1 with
  | some C => xkB K C && (ts.all fun t => match clsAt K t with
      | some C2 => decide (PySem.W.kitOne K (.ref C) (.ref C2) = some (p.2.contains t))
      | none => false) && bs.all fun b => decide (PySem.W.kitOne K (.ref C) (.type b) = some (b == "ValueError"))
  | none => false
def underX (cs : List (Str × List Str)) (t c : Str) : Option Bool := (cs.lookup c).map (·.contains t)
def underB (cs : List (Str × List Str)) (b : Bool) (c : Str) : Option Bool := (cs.lookup c).map fun _ => b
theorem lookup_mem {α : Type} {c : Str} {s : α} : ∀ {cs : List (Str × α)}, cs.lookup c = some s → (c, s) ∈ cs
  | [], h => by cases h
  | (x, y) :: cs, h => by
    rw [List.lookup_cons] at h
    cases e : c == x with
    | true =>
      rw [e] at h
      cases h
      rw [eq_of_beq e]
      exact List.mem_cons_self
    | false =>
      rw [e] at h
      exact List.mem_cons_of_mem _ (lookup_mem h)
section
variable {K : PySem.W.Frag} {mg : Str → Option Value} {cs : List (Str × List Str)} {ts : List Str} {bs : List String} {h : Heap}
theorem clsAt_mg (KX : K.In h) (G : h.Ns mainGlobals mg) {c : Str} {C : Addr} (e : clsAt K c = some C) : mg c = some (.ref C) := by
  unfold clsAt at e
  split at e
  · rename_i C' hC
    cases e
    exact PySem.W.mg_of KX G hC
  · cases e
theorem isAll_at (KX : K.In h) (G : h.Ns mainGlobals mg) (A : isAll K cs ts bs = true) {c : Str} {C : Addr} {s : List Str} (hc : cs.lookup c = some s) (hm : mg c = some (.ref C)) :
    XkC K C ∧ (∀ t C2, t ∈ ts → mg t = some (.ref C2) → PySem.W.kitOne K (.ref C) (.ref C2) = some (s.contains t)) ∧ ∀ b ∈ bs, PySem.W.kitOne K (.ref C) (.type b) = some (b == "ValueError") := by
  unfold isAll at A
  have z := List.all_eq_true.mp A (c, s) (lookup_mem hc)
  simp only at z
  split at z
  · rename_i C' hC
    have e := (clsAt_mg KX G hC).symm.trans hm
    cases e
    simp only [Bool.and_eq_true] at z
    obtain ⟨⟨z1, z2⟩, z3⟩ := z
    refine ⟨xkB_ok z1, fun t C2 ht hm2 => ?_, fun b hb => ?_⟩
    · have y := List.all_eq_true.mp z2 t ht
      split at y
      · rename_i C3 h3
        have e := (clsAt_mg KX G h3).symm.trans hm2
        cases e
        exact of_decide_eq_true y
      · cases y
    · have y := List.all_eq_true.mp z3 b hb
      exact of_decide_eq_true y
  · cases z
theorem under_all (KX : K.In h) (G : h.Ns mainGlobals mg) (A : isAll K cs ts bs = true) {t : Str} {C2 : Addr} (ht : t ∈ ts) (hm2 : mg t = some (.ref C2)) : ∀ c C b, underX cs t c = some b → mg c = some (.ref C) → XkC K C ∧ PySem.W.kitOne K (.ref C) (.ref C2) = some b := fun c C b hu hm => by
  unfold underX at hu
  cases e : cs.lookup c with
  | none => rw [e] at hu; cases hu
  | some s =>
    rw [e] at hu
    cases hu
    obtain ⟨h1, h2, _⟩ := isAll_at KX G A e hm
    exact ⟨h1, h2 t C2 ht hm2⟩
theorem underB_one (KX : K.In h) (G : h.Ns mainGlobals mg) (A : isAll K cs ts bs = true) {t : String} (ht : t ∈ bs) : ∀ c C b, underB cs (t == "ValueError") c = some b → mg c = some (.ref C) → XkC K C ∧ PySem.W.kitOne K (.ref C) (.type t) = some b := fun c C b hu hm => by
  unfold underB at hu
  cases e : cs.lookup c with
  | none => rw [e] at hu; cases hu
  | some s =>
    rw [e] at hu
    cases hu
    obtain ⟨h1, _, h3⟩ := isAll_at KX G A e hm
    exact ⟨h1, h3 t ht⟩
theorem kit_none {K : PySem.W.Frag} {v : Value} : ∀ {l : List String}, (∀ b ∈ l, PySem.W.kitOne K v (.type b) = some false) → PySem.W.kitAny K v (l.map Value.type) = some false
  | [], _ => rfl
  | b :: l, h => by
    simp only [List.map_cons, PySem.W.kitAny, h b List.mem_cons_self]
    exact kit_none fun x hx => h x (List.mem_cons_of_mem _ hx)
theorem underB_any (KX : K.In h) (G : h.Ns mainGlobals mg) (A : isAll K cs ts bs = true) {l : List String} (hl : ∀ t ∈ l, t ∈ bs ∧ (t == "ValueError") = false) : ∀ c C b, underB cs false c = some b → mg c = some (.ref C) → XkC K C ∧ PySem.W.kitAny K (.ref C) (l.map Value.type) = some b := fun c C b hu hm => by
  unfold underB at hu
  cases e : cs.lookup c with
  | none => rw [e] at hu; cases hu
  | some s =>
    rw [e] at hu
    cases hu
    obtain ⟨h1, _, h3⟩ := isAll_at KX G A e hm
    exact ⟨h1, kit_none fun x hx => by rw [h3 x (hl x hx).1, (hl x hx).2]⟩
end
end Dl

set_option Elab.async false
set_option linter.all false
set_option maxRecDepth 100000
set_option maxHeartbeats 2000000
namespace Dl
open PySem L2
/-! ### repr of data with small dicts in it -/
def D.leaf : D → Option PyData
  | .non => some .none
  | .bl b => some (.bool b)
  | .int i => some (.int i)
  | .str x => some (.str x)
  | _ => none
def leafs : List D → Option (List PyData)
  | [] => some []
  | d :: ds => match d.leaf, leafs ds with
    | some p, some ps => some (p :: ps)
    | _, _ => none
/-- plain data, or a dict of leaves -/
def D.pyd : D → Option PyData
  | .dct ks xs => match leafs ks, leafs xs with
    | some a, some b => if a.length = b.length then some (.dict (a.zip b)) else none
    | _, _ => none
  | d => match d.py with
    | some p => if p.hasDict then none else some p
    | none => none
def D.pyds : List D → Option (List PyData)
  | [] => some []
  | d :: ds => match d.pyd, D.pyds ds with
    | some p, some ps => some (p :: ps)
    | _, _ => none
/-- read in the heap, so that repr may go through it -/
def RdOk (h : Heap) (u : Value) (p : PyData) : Prop := ∃ as, Reads h u p as ∧ (p.hasDict = true → sysModules ∉ as)
inductive RdAll (h : Heap) : List Value → List PyData → Prop
  | nil : RdAll h [] []
  | cons {u p us ps} : RdOk h u p → RdAll h us ps → RdAll h (u :: us) (p :: ps)
section
variable {X : Cx} {pins : List (Addr × Obj)} {σ : St} {H : Hp} {s : Shared} {F : Fz}
theorem leaf_rd {h : Heap} {T : Tb} {d : D} {v : V} {u : Value} {p : PyData} (r : Rp T F d v) (rv : RelV v u) (e : d.leaf = some p) : Reads h u p [] := by
  unfold D.leaf at e
  split at e
  · cases e; simp only [Rp] at r; subst r; cases rv; exact .none
  · cases e; simp only [Rp] at r; subst r; cases rv; exact .bool _
  · cases e; simp only [Rp] at r; subst r; obtain ⟨t, rfl⟩ := rv; exact .int _ t
  · cases e; simp only [Rp] at r; subst r; obtain ⟨t, rfl⟩ := rv; exact .str _ t
  · cases e
theorem leafs_rd {h : Heap} {T : Tb} : ∀ {ds : List D} {vs : List V} {us : List Value} {ps : List PyData}, Rps T F ds vs → Vals vs us → leafs ds = some ps → ReadsAll h us ps []
  | [], vs, us, ps, r, rv, e => by
    rw [r.inv_nil] at rv
    cases rv
    simp only [leafs, Option.some.injEq] at e
    subst e
    exact .nil
  | d :: ds, vs, us, ps, r, rv, e => by
    obtain ⟨v, q, rfl, r1, r2⟩ := r.inv_cons
    simp only [leafs] at e
    split at e
    · rename_i p ps' h1 h2
      cases e
      cases rv with
      | cons rv rw' => exact ReadsAll.cons (as := []) (bs := []) (leaf_rd r1 rv h1) (leafs_rd r2 rw' h2)
    · cases e
theorem keys_rd {P : Program} {w : World} : ∀ {es : List DictEntry} {kvs : List (Key × Value)}, Pairs (mixKind P w) es kvs → Vals (kvs.map fun p => kV p.1) (es.map (·.key)) ∧ es.map (·.val) = kvs.map (·.2)
  | _, _, .nil => ⟨.nil, rfl⟩
  | _, _, .cons (kv := kv) h1 h2 h3 => by
    obtain ⟨a, b⟩ := keys_rd h3
    refine ⟨.cons ?_ a, by rw [List.map_cons, List.map_cons, b, h2]⟩
    rcases keyIs_shape h1 with ⟨i, t, e1, e2⟩ | ⟨x, t, e1, e2⟩
    · show RelV (kV kv.1) _
      rw [e1]
      exact ⟨t, e2⟩
    · show RelV (kV kv.1) _
      rw [e1]
      exact ⟨t, e2⟩
theorem kv_keys : ∀ {kvs : List (Key × V)} {vs : List (Key × Value)}, KV kvs vs → (kvs.map fun p => kV p.1) = (vs.map fun p => kV p.1) ∧ Vals (kvs.map (·.2)) (vs.map (·.2))
  | _, _, .nil => ⟨rfl, .nil⟩
  | _, _, .cons h r => by
    obtain ⟨a, b⟩ := kv_keys r
    exact ⟨by rw [List.map_cons, List.map_cons, a, h.1], .cons h.2 b⟩
theorem pyd_rd (I : Inv X pins σ H s) (e : Ex F.B H) {d : D} {v : V} {u : Value} {p : PyData} (r : Rp (tb X) F d v) (rv : RelV v u) (h : d.pyd = some p) : RdOk s.heap u p := by
  unfold D.pyd at h
  split at h
  · rename_i ks xs
    split at h
    · rename_i a b h1 h2
      split at h
      · rename_i hl
        cases h
        simp only [Rp] at r
        obtain ⟨ad, kvs, rfl, q, z1, z2⟩ := r
        cases rv
        obtain ⟨_, hsm, vs, hkv, o, es, ep, ho, hx, hd, _, hp, _⟩ : ObjOk X.prog X.w H s.heap ad (.dK kvs) := I.hok ad _ (e _ _ q)
        obtain ⟨k1, k2⟩ := keys_rd hp
        obtain ⟨k3, k4⟩ := kv_keys hkv
        have r1 : ReadsAll s.heap (es.toList.map (·.key)) a [] := leafs_rd z1 (by rw [k3]; exact k1) h1
        have r2 : ReadsAll s.heap (es.toList.map (·.val)) b [] := leafs_rd z2 (by rw [k2]; exact k4) h2
        refine ⟨_, Reads.dict (as := []) (bs := []) ho hx.1 hd (by rw [zip_fst hl.symm]; exact r1) (by rw [zip_snd hl.symm]; exact r2), fun _ hm => ?_⟩
        simp only [List.append_nil, List.mem_singleton] at hm
        rw [← hm] at hsm
        simp at hsm
      · cases h
    · cases h
  · split at h
    · rename_i p' hp
      split at h
      · cases h
      · rename_i hh
        cases h
        obtain ⟨as, q⟩ := Dp.reads I p v u (dp_of (T := tb X) e d v p r hp) rv
        exact ⟨as, q, fun z => absurd z hh⟩
    · cases h
theorem pyds_rd (I : Inv X pins σ H s) (e : Ex F.B H) : ∀ {ds : List D} {vs : List V} {us : List Value} {ps : List PyData}, Rps (tb X) F ds vs → Vals vs us → D.pyds ds = some ps → RdAll s.heap us ps
  | [], vs, us, ps, r, rv, h => by
    rw [r.inv_nil] at rv
    cases rv
    simp only [D.pyds, Option.some.injEq] at h
    subst h
    exact .nil
  | d :: ds, vs, us, ps, r, rv, h => by
    obtain ⟨v, q, rfl, r1, r2⟩ := r.inv_cons
    simp only [D.pyds] at h
    split at h
    · rename_i p ps' h1 h2
      cases h
      cases rv with
      | cons rv rw' => exact .cons (pyd_rd I e r1 rv h1) (pyds_rd I e r2 rw' h2)
    · cases h
end
theorem rdAll_repr {P : Program} {w : World} {h : Heap} : ∀ {us : List Value} {ps : List PyData}, RdAll h us ps → PyData.showableAll ps = true → (∀ t ∈ PyData.shownAll ps, t.length ≤ sizeLine) → ∃ bs, ReadAtMost h (PyData.depthAll ps) bs ∧ ReprAllK P w bs h (PyData.depthAll ps) us (PyData.shownAll ps)
  | _, _, .nil, _, _ => ⟨[], (fun _ h => nomatch h), by simp only [PyData.shownAll]; exact .nil⟩
  | _, _, .cons (p := p) (ps := ps) ⟨as, r, hm⟩ rs, hs, hz => by
    simp only [PyData.showableAll, Bool.and_eq_true] at hs
    simp only [PyData.shownAll] at hz
    obtain ⟨b1, a1, k1⟩ := ReprK.of_reads (prog := P) (w := w) r hs.1 hm (hz _ (List.mem_cons_self ..))
    obtain ⟨b2, a2, k2⟩ := rdAll_repr (P := P) (w := w) rs hs.2 fun t ht => hz t (List.mem_cons_of_mem _ ht)
    simp only [PyData.depthAll, PyData.shownAll]
    refine ⟨b1 ++ b2, (a1.mono (Nat.le_max_left _ _)).append (a2.mono (Nat.le_max_right _ _)), ?_⟩
    exact .cons ((k1.more fun b hb => List.mem_append_left _ hb).level_le (Nat.le_max_left _ _)) (k2.more_le (fun b hb => List.mem_append_right _ hb) (Nat.le_max_right _ _))
theorem rdAll_reads {h : Heap} : ∀ {us : List Value} {ps : List PyData}, RdAll h us ps → ∃ as, ReadsAll h us ps as
  | _, _, .nil => ⟨_, .nil⟩
  | _, _, .cons ⟨_, r, _⟩ rs => by
    obtain ⟨as, q⟩ := rdAll_reads rs
    exact ⟨_, .cons r q⟩
/-- repr of a list of such -/
def reprL : List D → Option D
  | [.lst xs] => match D.pyds xs with
    | some ps => if (PyData.list ps).showable && decide ((PyData.list ps).shown.length ≤ 100000) && decide ((PyData.list ps).depth ≤ 50) && ps.length != 0 then some (.str (PyData.list ps).shown) else none
    | none => none
  | [d] => match d.pyd with
    | some p => if p.showable && decide (p.shown.length ≤ 100000) && decide (p.depth ≤ 50) then some (.str p.shown) else none
    | none => none
  | _ => none
section
variable {X : Cx}
theorem cd_reprL {k : Nat} (hr : Room k X.A) (gd : X.A.guards = some []) : CallD X (.builtin "repr") reprL := by
  intro pins s σ H xs us Q I r ⟨F, ds, z, e, rd, hz, kn⟩
  unfold reprL at hz
  split at hz
  · rename_i ys
    split at hz
    · rename_i ps hps
      split at hz
      · rename_i c
        cases hz
        simp only [Bool.and_eq_true, decide_eq_true_eq, bne_iff_ne, ne_eq] at c
        obtain ⟨⟨⟨c1, c2⟩, c3⟩, c4⟩ := c
        obtain ⟨v, q, rfl, r1, r2⟩ := rd.inv_cons
        rw [r2.inv_nil] at r
        simp only [Rp] at r1
        obtain ⟨a, vs, rfl, hB, rvs⟩ := r1
        cases r with
        | cons ra rn =>
          cases rn
          cases ra
          obtain ⟨its, rv, ⟨o, n, ho, hc, _, hd⟩, _⟩ := I.list (SqL.of (e _ _ hB))
          have R := pyds_rd I e rvs rv hps
          have hz' : (listText (PyData.shownAll ps)).length ≤ sizeLine := by
            have := c2
            simp only [PyData.shown] at this
            rw [sizeLine_eq]
            omega
          obtain ⟨bs, hb, hk⟩ := rdAll_repr (P := X.prog) (w := X.w) R (by simpa only [PyData.showable] using c1) (fun t ht => Nat.le_trans (listText_mem_le ht) hz')
          obtain ⟨as, ra⟩ := rdAll_reads R
          have hna : a ∉ bs := not_mem_of_deeper (.list ho hc hd (by simpa using ra)) (by simp only [PyData.depth]; omega) hb
          have hu := hr.units
          cases its with
          | nil =>
            cases R
            exact absurd rfl c4
          | cons x l =>
            refine call_repr_slot (by omega) ⟨o, ho, hc⟩ PySem.F.slot_list_repr.toG (call_list_reprK ho hc hd hna (by simpa using hk.length_eq) (fun i y e => hk.item i y (by simpa using e)) gd (fun b _ => Clear.nil b) ?_ (fun _ _ e => e) (fun h' u tk hk => ⟨_, _, rfl, .str (PyData.list ps).shown, H, I.kept hk, ⟨u, by simp only [PyData.shown]⟩, kn _ F H (Stp.refl e) (by simp only [Rp])⟩) hz')
            simp only [PyData.depth] at c3
            show X.A.units + 1 + _ < cLine
            omega
      · cases hz
    · cases hz
  · rename_i d hnd
    split at hz
    · rename_i p hp
      split at hz
      · rename_i c
        cases hz
        simp only [Bool.and_eq_true, decide_eq_true_eq] at c
        obtain ⟨⟨c1, c2⟩, c3⟩ := c
        obtain ⟨v, q, rfl, r1, r2⟩ := rd.inv_cons
        rw [r2.inv_nil] at r
        cases r with
        | cons ra rn =>
          cases rn
          rename_i u
          obtain ⟨as, R, hm⟩ := pyd_rd I e r1 ra hp
          have hu := hr.units
          have hz' : p.shown.length ≤ sizeLine := by rw [sizeLine_eq]; omega
          have key : ∀ (h' : Heap) (t : Tok) (tk : Nat), (∀ b o, s.heap.get? b = some o → h'.get? b = some o) → EP X pins σ Q (.str p.shown t) { s with heap := h', toks := tk } := fun h' t tk hk =>
            ⟨.str p.shown, H, I.kept hk, ⟨t, rfl⟩, kn _ F H (Stp.refl e) (by simp only [Rp])⟩
          cases R with
          | none => exact PySem.P.repr_of_none (key s.heap _ _ fun _ _ h => h)
          | bool b => exact PySem.P.repr_of_bool (key s.heap _ _ fun _ _ h => h)
          | int i t => exact PySem.P.repr_of_int (by simpa only [PyData.showable, decide_eq_true_eq] using c1) (key s.heap _ _ fun _ _ h => h)
          | str x t => exact PySem.P.repr_of_str (key s.heap _ _ fun _ _ h => h) hz'
          | list h1 h2 h3 h4 => exact PySem.repr_of_reads' (.list h1 h2 h3 h4) c1 hm gd (by omega) (fun _ _ h => h) (fun h' t tk hk => key h' t tk hk) hz'
          | tuple h1 h2 h3 h4 => exact PySem.repr_of_reads' (.tuple h1 h2 h3 h4) c1 hm gd (by omega) (fun _ _ h => h) (fun h' t tk hk => key h' t tk hk) hz'
          | dict h1 h2 h3 h4 h5 => exact PySem.repr_of_reads' (.dict h1 h2 h3 h4 h5) c1 hm gd (by omega) (fun _ _ h => h) (fun h' t tk hk => key h' t tk hk) hz'
      · cases hz
    · cases hz
  · cases hz
end
end Dl

set_option Elab.async false
set_option linter.all false
set_option maxRecDepth 100000
set_option maxHeartbeats 2000000
namespace Dl
open PySem L2
/-- {'k': i} -/
theorem de_dict1 {g : Gx} {X : Cx} {k : Str} {i : Int} {j1 j2 : Nat} {p1 p2 pos : Pos} : PDE g X (.Dict [some (.Constant (.str k) j1 p1)] [.Constant (.int i) j2 p2] pos) (mC (.dct [.str k] [.int i])) :=
  pe_mono (pe_disp (pps_cons pe_str pe_int pps_nil) rfl rfl (by simp) (by show 1 ≤ 15; decide)) fun σ H Q h p np => by
    obtain ⟨F, δ, n, q, x, S, hq, kn, kx⟩ := h
    refine ⟨upd_same, [(.inr k, .int i)], rfl, by show 1 ≤ 15; decide, ?_⟩
    have e : upd (upd H p (.dK [])) p (.dK (mergeK [] [(Sum.inr k, V.int i)])) = upd H p (.dK [(Sum.inr k, V.int i)]) := by
      funext b
      by_cases hb : b = p
      · rw [hb, upd_same, upd_same]; rfl
      · rw [upd_ne hb, upd_ne hb, upd_ne hb]
    rw [e]
    have s1 := Stp.new (o := .dK [(Sum.inr k, V.int i)]) S.ex np
    refine kn _ _ _ _ n s1.f (s1.pen S.pen) ?_ hq
    simp only [Rp]
    exact ⟨p, _, rfl, upd_same, Rps.one (by simp only [Rp]; rfl), Rps.one (by simp only [Rp])⟩
/-- isinstance(.., t) is answered by the table -/
structure IsC (K : PySem.W.Frag) (mg : Str → Option Value) (is : Str → Option Bool) (t : Str) : Prop where
  ex : ∃ C2, mg t = some (.ref C2) ∧ ∀ c C b, is c = some b → mg c = some (.ref C) → XkC K C ∧ PySem.W.kitOne K (.ref C) (.ref C2) = some b
structure Ex0 (K : PySem.W.Frag) (mg : Str → Option Value) (x : Str) : Prop where
  ex : ∃ C, mg x = some (.ref C) ∧ PySem.W.excIn K C [.type "ValueError", .type "Exception", .type "BaseException", .type "object"] "ValueError.__new__" = true ∧ PySem.W.keepIn K (.ref C) = true
section
variable {g : Gx} {X : Cx} {x : Str} {pn pos pc : Pos} {e : Expr} {m : DE} {is : Str → Option Bool}
theorem de_isC {y : Str} (T : IsC X.K X.mg is y) (hm : X.mg "isinstance" = none) (he : PDE g X e m) (hgx : Gl X y := by rfl) (hg : Gl X "isinstance" := by rfl) (hdb : (y == ("__debug__" : Str)) = false := by decide)
    (s1 : starEach (e :: [.Name y pc]) X.env = (false, eval e X.env) :: starEach [.Name y pc] X.env := by rfl) (s2 : starEach [.Name y pc] X.env = (false, eval (.Name y pc) X.env) :: starEach [] X.env := by rfl)
    (hpl : (backTo pos (starEach [.Name y pc] X.env)).any (·.1) = false := by rfl) : PDE g X (.Call (.Name "isinstance" pn) [e, .Name y pc] [] pos) (mUn (isxD is) m) := by
  obtain ⟨C2, hy, hall⟩ := T.ex
  exact de_isx hm hy hall he hgx hg hdb s1 s2 hpl
theorem de_ex0 (T : Ex0 X.K X.mg x) (hg : Gl X x := by rfl) (hdb : (x == ("__debug__" : Str)) = false := by decide) : PDE g X (.Call (.Name x pn) [] [] pos) (mC (.exc x [] [])) := by
  obtain ⟨C, hm, q, kC⟩ := T.ex
  exact de_exc0 q hm kC hg hdb
end
end Dl

set_option Elab.async false
set_option linter.all false
set_option maxRecDepth 100000
set_option maxHeartbeats 4000000
namespace Kx
open PySem L2 Dl
def top (i : Nat) : Stmt := PySem.Challenge.pw_rowcounts_k01_errors_and_their_fields.main.body.getD i (.Pass ⟨0, 0, 0, 0⟩)
abbrev s_law_pen : Stmt := top 33
abbrev s_law_draw : Stmt := top 34
/-! ### the pen -/
/-- the built-ins that the law names are the built-ins -/
structure Blt (mg : Str → Option Value) : Prop where
  int : mg "int" = none
  len : mg "len" = none
  abs : mg "abs" = none
  list : mg "list" = none
def sp_law_pen : SpD := fun ds n q _ => ∃ xs : List Int, ds = [.scr xs] ∧ xs.length ≤ 63 ∧ n = 0 ∧ q .pen 1
def sp_law_draw : SpD := fun ds n q _ => ∃ m : Int, ds = [.pen, .int m] ∧ 0 < m ∧ m < 1073741824 ∧ 0 < n ∧ n ≤ 1048576 ∧ ∀ r : Int, 0 ≤ r → r < m → q (.int r) (n + 1)
section
variable {P : Program} {w : World} {K : PySem.W.Frag} {mg : Str → Option Value} {base : Heap}
theorem sc_law_pen : FnScope ["_law_script"] ["_law_script"] (defScope s_law_pen) := ⟨rfl, rfl, rfl, by decide +kernel, rfl, by decide +kernel, by decide +kernel⟩
theorem ok_law_pen {f : Addr} {fd : FuncData} (F : Fun K "_law_pen" "_law_pen" s_law_pen f fd) (T : Blt mg) : FnD P w K mg base 1 f fd ["_law_script"] sp_law_pen := by
  refine F.okX sc_law_pen (fun vs H Q E h => ?_) (fun cdv A outer s H vs Q E hr h => ?_)
  · obtain ⟨F, ds, n, q, x, _, _, r, ⟨xs, rfl, _⟩, _⟩ := h
    rw [r.length]
    rfl
  · obtain ⟨F, ds, n, q, x, ex, p, r, ⟨xs, rfl, hl, rfl, hq⟩, kn, _⟩ := h
    obtain ⟨v, rfl, rv⟩ := rps1 r
    simp only [Rp] at rv
    obtain ⟨a, rfl, hs⟩ := rv
    refine ⟨_, pss_one (ps_ret (pe_lst (pa_cons (pe_callTy call_list_of (by rfl) T.list (by decide +kernel) (pa_cons (pe_slice sl_list (pv 0) po_none (po_some pe_int)) pa_nil)) (pa_cons pe_int (pa_cons pe_int pa_nil))))), ?_⟩
    refine ⟨_, rfl, 63, rfl, a, _, rfl, ex.seq hs, fun b hb => ⟨b, _, rfl, .inl (SqL.of upd_same), fun c hc => ⟨by show 3 ≤ sizeLine; decide, fun d hd => ?_⟩⟩⟩
    have hpn : F.pn = none := by
      cases e : F.pn with
      | none => rfl
      | some z =>
        obtain ⟨_, _, k, _, _, _, _, _, h1, h2, _⟩ := p z e
        omega
    have e2 : cutV (xs.map V.int) none (some 63) = xs.map V.int := by
      unfold cutV
      rw [HT.sIx_none, List.drop_zero, Nat.sub_zero]
      exact List.take_of_length_le (by rw [List.length_map]; show xs.length ≤ min 63 xs.length; omega)
    rw [e2] at hc hd ⊢
    have s1 := Stp.new (F := F) (o := .lst (xs.map V.int)) ex hb
    have s2 := Stp.new (F := ⟨upd F.B b (.lst (xs.map V.int)), F.pn⟩) (o := .lst (xs.map V.int)) s1.f.ex hc
    have s12 := s1.trans s2
    refine kn _ .pen ⟨upd (upd F.B b (.lst (xs.map V.int))) c (.lst (xs.map V.int)), some d⟩ _ 1 ⟨⟨s12.f.le.B, fun q z => by rw [hpn] at z; cases z⟩, fun o u z => ?_, fun o u z hn => ?_, fun o z => ?_, fun o z1 z2 => s12.f.new o z1 z2, fun q z _ => ?_⟩ ?_ ?_ hq
    · have z : upd (upd F.B b (.lst (xs.map V.int))) c (.lst (xs.map V.int)) o = some u := z
      rw [upd_ne (ne_of_none (s12.f.ex _ _ z) hd)]
      exact s12.f.ex _ _ z
    · rw [upd_ne (ne_of_none (s12.x _ _ z) hd)]
      exact s12.x _ _ z
    · by_cases ho : o = d
      · subst ho
        exact s12.f.dom _ hd
      · rw [upd_ne ho] at z
        exact s12.f.dom _ z
    · cases z
      exact s12.f.dom _ hd
    · rintro q z
      cases z
      refine ⟨?_, c, 0, 0, xs, upd_same, ?_, hl, by decide, by decide, by decide⟩
      · cases e : upd (upd F.B b (.lst (xs.map V.int))) c (.lst (xs.map V.int)) d with
        | none => exact e
        | some u =>
          rw [s12.f.ex _ _ e] at hd
          cases hd
      · exact SqL.of upd_same
    · simp only [Rp]
      exact ⟨d, rfl, rfl⟩
theorem sc_law_draw : FnScope ["_law_pen_here", "_law_many", "_law_digit", "_law_at", "_law_cell", "_law_great", "_law_mixed"] ["_law_pen_here", "_law_many"] (defScope s_law_draw) := ⟨rfl, rfl, rfl, by decide +kernel, rfl, by decide +kernel, by decide +kernel⟩
/-- a step of the pen: its list is written -/
theorem pen_step {T : Tb} {F : Fz} {H : Hp} {n n' : Nat} {p c : Addr} {k g : Int} {xs : List Int} {o : HO} (ex : Ex F.B H) (P : PenOk T F H n) (hp : F.pn = some p) (hx : SqL T.K F.B c (xs.map V.int)) (hl : xs.length ≤ 63) (ho : o = .lst [.ref c, .int k, .int g]) (h0 : 0 ≤ k) (h1 : k < n') (h2 : 0 ≤ g) {H' : Hp} (h : ∀ b, b ≠ p → H' b = H b) (hpp : H' p = some o) :
    Fwd F H F H' ∧ PenOk T F H' n' := by
  subst ho
  obtain ⟨hB, _, _, _, _, hH, _⟩ := P p hp
  refine ⟨⟨Le.refl _, fun a u e => ?_, fun a u e hn => ?_, fun a e => ?_, fun a z1 z2 => (z2 z1).elim, fun q z1 z2 => by rw [z1] at z2; cases z2⟩, fun q hq => ?_⟩
  · have ha : a ≠ p := fun z => by rw [z, hB] at e; cases e
    rw [h a ha]
    exact ex _ _ e
  · have ha : a ≠ p := fun z => hn (by rw [z]; exact hp)
    rw [h a ha]
    exact e
  · by_cases ha : a = p
    · subst ha
      rw [hpp] at e
      cases e
    · rw [h a ha] at e
      exact e
  · rw [hp] at hq
    cases hq
    exact ⟨hB, c, k, g, xs, hpp, hx, hl, h0, h1, h2⟩
theorem ints_at {xs : List Int} {i : Int} (h0 : 0 ≤ i) (h1 : i < xs.length) : ∃ z, atI (xs.map V.int) i = some (.int z) := by
  have hi : i.toNat < xs.length := by omega
  refine ⟨xs[i.toNat], ?_⟩
  have : atI (xs.map V.int) ((i.toNat : Nat) : Int) = some (.int xs[i.toNat]) := atI_nat (by rw [List.getElem?_map, List.getElem?_eq_getElem hi]; rfl)
  rwa [Int.toNat_of_nonneg h0] at this
theorem dp_ints {K : PySem.W.Frag} {H : Hp} : ∀ xs : List Int, DpAll K H (xs.map V.int) (xs.map PyData.int)
  | [] => .nil
  | x :: xs => .cons (.int x) (dp_ints xs)
theorem shaped_ints (xs : List Int) : SeqAt.shaped (.list (xs.map PyData.int)) = true := by
  have h1 : ∀ ys : List Int, PyData.canLayAll0 (ys.map PyData.int) = true := fun ys => by
    induction ys with
    | nil => rfl
    | cons y ys ih => simp only [List.map_cons, PyData.canLayAll0, ih, PyData.canLay0, Bool.and_self]
  have h2 : ∀ ys : List Int, PyData.depthAll (ys.map PyData.int) = 0 := fun ys => by
    induction ys with
    | nil => rfl
    | cons y ys ih => simp only [List.map_cons, PyData.depthAll, ih, PyData.depth, Nat.max_self]
  simp only [SeqAt.shaped, PyData.canLay0, h1, PyData.depth, h2]
  decide
theorem eqv_nil (xs : List Int) : PyData.eqv (.list (xs.map PyData.int)) (.list []) = xs.isEmpty := by
  cases xs <;> rfl
theorem great_nn {z : Int} (h : (10 : Int) ^ (18 : Int).toNat ≤ if z < 0 then -z else z) : 0 ≤ 2 * ((if z < 0 then -z else z) - (10 : Int) ^ (18 : Int).toNat) + (if decide (z < 0) then 1 else 0) := by
  have e : (10 : Int) ^ (18 : Int).toNat = 1000000000000000000 := by decide
  rw [e] at h ⊢
  split <;> split at h <;> omega
theorem mix_one {a k b c : Int} (h0 : 0 ≤ a) {p : Int} (h1 : a < p) (k0 : 0 ≤ k) (k1 : k ≤ 1048576) (hp : p ≤ 4294967296 := by decide) (b0 : 0 ≤ b := by decide) (b1 : b ≤ 1000000 := by decide) (c0 : 0 ≤ c := by decide) (c1 : c ≤ 1000000 := by decide) : (a + b * k + c).natAbs < 2 ^ 64 := by
  have h2 : 0 ≤ b * k := Int.mul_nonneg b0 k0
  have h3 : b * k ≤ 1000000 * 1048576 := Int.mul_le_mul b1 k1 k0 (by decide)
  omega
theorem mix_two {a k b c d : Int} (h0 : 0 ≤ a) {p : Int} (h1 : a < p) (k0 : 0 ≤ k) (k1 : k ≤ 1048576) (hp : p ≤ 4294967296 := by decide) (b0 : 0 ≤ b := by decide) (b1 : b ≤ 1000000 := by decide) (c0 : 0 ≤ c := by decide) (c1 : c ≤ 1000000 := by decide) (d0 : 0 ≤ d := by decide) (d1 : d ≤ 1000000 := by decide) :
    (a * (2 * k + b) + c * k * k + d).natAbs < 2 ^ 64 := by
  have h2 : 0 ≤ a * (2 * k + b) := Int.mul_nonneg h0 (by omega)
  have h3 : a * (2 * k + b) ≤ 4294967296 * 3097152 := Int.mul_le_mul (by omega) (by omega) (by omega) (by decide)
  have h4 : 0 ≤ c * k := Int.mul_nonneg c0 k0
  have h5 : c * k ≤ 1000000 * 1048576 := Int.mul_le_mul c1 k1 k0 (by decide)
  have h6 : 0 ≤ c * k * k := Int.mul_nonneg h4 k0
  have h7 : c * k * k ≤ 1000000 * 1048576 * 1048576 := Int.mul_le_mul h5 k1 k0 (by decide)
  omega
theorem ok_law_draw {f : Addr} {fd : FuncData} (F : Fun K "_law_draw" "_law_draw" s_law_draw f fd) (T : Blt mg) : FnD P w K mg base 1 f fd ["_law_pen_here", "_law_many"] sp_law_draw := by
  refine F.okX sc_law_draw (fun vs H Q E h => ?_) (fun cdv A outer s H vs Q E hr h => ?_)
  · obtain ⟨F, ds, n, q, x, _, _, r, ⟨xs, rfl, _⟩, _⟩ := h
    rw [r.length]
    rfl
  · obtain ⟨F, ds, n, q, x, ex, P, r, ⟨m, rfl, hm0, hm1, hn0, hn, hq⟩, kn, _⟩ := h
    obtain ⟨v, vs, rfl, rv, r⟩ := r.inv_cons
    obtain ⟨v2, rfl, rv2⟩ := rps1 r
    cases rp_int.mp rv2
    simp only [Rp] at rv
    obtain ⟨p, hp, rfl⟩ := rv
    obtain ⟨hB, c, k, g, xs, hH, hx, hl, hk0, hk1, hg⟩ := P p hp
    have nd := sc_law_draw.nd
    have cI := fun {e : Expr} {t : TE} {X : Cx} (h : PE X e t) => h
    refine ⟨_, pss_cons (ps_if (pt_cmpR op_gt (pe_ix ix_list (pv 0) pe_int (fun _ _ => rfl)) pe_int (nomark _))
        (pss_cons (ps_set (i := 2) nd rfl (Or.inl rfl) (pe_op op_mod (pe_callTy call_int1 (by rfl) T.int (by decide +kernel) (pa_cons (pe_ix ix_list (pv 0) pe_int (fun _ _ => rfl)) pa_nil)) (pv 1)))
        (pss_cons (ps_asg (pe_op op_fdiv (pe_callTy call_int1 (by rfl) T.int (by decide +kernel) (pa_cons (pe_ix ix_list (pv 0) pe_int (fun _ _ => rfl)) pa_nil)) (pv 1)) (pg_sub (pv 0) pe_int set_list))
        (pss_one (ps_ret (pv 2))))) pss_nil)
      (pss_cons (ps_set (i := 3) nd rfl (Or.inl rfl) (pe_ix ix_list (pv 0) pe_int (fun _ _ => rfl)))
      (pss_cons (ps_asg (pe_op op_add (pv 3) pe_int) (pg_sub (pv 0) pe_int set_list))
      (pss_cons (ps_set (i := 4) nd rfl (Or.inl rfl) (pe_op op_add (pe_op op_mul pe_int (pv 3)) pe_int))
      (pss_cons (ps_if (pt_cmpR (op_neD hr.units) (pe_ix ix_list (pv 0) pe_int (fun _ _ => rfl)) (pe_lst pa_nil) (nomark _))
        (pss_one (ps_set (i := 4) nd rfl (Or.inl rfl) (pe_ix ix_list (pe_ix ix_list (pv 0) pe_int (fun _ _ => rfl)) (pe_op op_mod (pe_callTy call_int1 (by rfl) T.int (by decide +kernel) (pa_cons (pv 3) pa_nil)) (pe_callB call_len_seq (by rfl) T.len PySem.boot_len (pa_cons (pe_ix ix_list (pv 0) pe_int (fun _ _ => rfl)) pa_nil))) (fun _ _ => rfl)))) pss_nil)
      (pss_cons (ps_if (PW.pt (pw_and (pt_cmpR op_lt (pv 3) (pe_callB call_len_seq (by rfl) T.len PySem.boot_len (pa_cons (pe_ix ix_list (pv 0) pe_int (fun _ _ => rfl)) pa_nil)) (nomark _))
          (pw_and1 (pt_cmpR op_ge (pe_callB call_abs (by rfl) T.abs (by decide +kernel) (pa_cons (pv 4) pa_nil)) (pe_op op_pow pe_int pe_int) (nomark _)))))
        (pss_cons (ps_set (i := 5) nd rfl (Or.inl rfl) (pe_op op_add (pe_op op_mul pe_int (pe_op op_sub (pe_callB call_abs (by rfl) T.abs (by decide +kernel) (pa_cons (pv 4) pa_nil)) (pe_op op_pow pe_int pe_int))) (pe_callTy call_int1 (by rfl) T.int (by decide +kernel) (pa_cons (pe_cmpR op_lt (pv 4) pe_int (nomark _)) pa_nil))))
        (pss_cons (ps_asg (pe_op op_fdiv (pe_callTy call_int1 (by rfl) T.int (by decide +kernel) (pa_cons (pv 5) pa_nil)) (pv 1)) (pg_sub (pv 0) pe_int set_list))
        (pss_one (ps_ret (pe_op op_mod (pe_callTy call_int1 (by rfl) T.int (by decide +kernel) (pa_cons (pv 5) pa_nil)) (pv 1)))))) pss_nil)
      (pss_cons (ps_set (i := 6) nd rfl (Or.inl rfl) (pe_op op_mod (pe_callTy call_int1 (by rfl) T.int (by decide +kernel) (pa_cons (pe_op op_pow (pe_op op_add (pe_op op_add (pe_op op_mod (pe_callTy call_int1 (by rfl) T.int (by decide +kernel) (pa_cons (pv 4) pa_nil)) pe_int) (pe_op op_mul pe_int (pv 3))) pe_int) pe_int) pa_nil)) pe_int))
      (pss_cons (ps_set (i := 6) nd rfl (Or.inl rfl) (pe_op op_mod (pe_callTy call_int1 (by rfl) T.int (by decide +kernel) (pa_cons (pe_op op_pow (pe_op op_add (pe_op op_add (pe_op op_mul (pv 6) (pe_op op_add (pe_op op_mul pe_int (pv 3)) pe_int)) (pe_op op_mul (pe_op op_mul pe_int (pv 3)) (pv 3))) pe_int) pe_int) pa_nil)) pe_int))
      (pss_one (ps_ret (pe_op op_mod (pe_callTy call_int1 (by rfl) T.int (by decide +kernel) (pa_cons (pe_op op_fdiv (pv 6) pe_int) pa_nil)) (pv 1))))))))))), ?_⟩
    have a2 : ∀ {x y z : V}, atI [x, y, z] 2 = some z := rfl
    have a1 : ∀ {x y z : V}, atI [x, y, z] 1 = some y := rfl
    have a0 : ∀ {x y z : V}, atI [x, y, z] 0 = some x := rfl
    refine ⟨_, rfl, p, _, 2, .int g, rfl, rfl, SqL.of hH, a2, g, 0, rfl, rfl, _, rfl, ?_⟩
    refine ite2 (fun h => ?_) (fun h => ?_)
    · -- a digit of the rest
      refine ⟨_, rfl, p, _, 2, .int g, rfl, rfl, SqL.of hH, a2, .inl ⟨g, rfl, _, rfl, g, m, rfl, rfl, hm0, ?_⟩⟩
      refine ⟨_, rfl, p, _, 2, .int g, rfl, rfl, SqL.of hH, a2, .inl ⟨g, rfl, _, rfl, g, m, rfl, rfl, ⟨hm0, hm1⟩, _, rfl, p, _, 2, 2, rfl, rfl, hH, rfl, ?_⟩⟩
      refine ⟨_, rfl, ?_⟩
      obtain ⟨f1, p1⟩ := pen_step (n' := n + 1) (k := k) (g := g / m) (H' := upd H p (.lst [.ref c, .int k, .int (g / m)])) ex P hp hx hl rfl hk0 (by omega) (Int.ediv_nonneg hg (by omega)) (fun b hb => upd_ne hb) upd_same
      exact kn _ (.int (g % m)) F _ (n + 1) f1 p1 (by simp only [Rp]) (hq _ (Int.emod_nonneg _ (by omega)) (Int.emod_lt_of_pos _ hm0))
    · refine ⟨_, rfl, p, _, 1, .int k, rfl, rfl, SqL.of hH, a1, ?_⟩
      refine ⟨_, rfl, k, 1, rfl, rfl, _, rfl, p, _, 1, 1, rfl, rfl, hH, rfl, ?_⟩
      generalize hh : upd H p _ = H1
      have hH1 : H1 p = some (.lst [.ref c, .int (k + 1), .int g]) := by rw [← hh]; exact upd_same
      obtain ⟨f1, p1⟩ := pen_step (n' := n + 1) (k := k + 1) (g := g) (H' := H1) ex P hp hx hl rfl (by omega) (by omega) hg (fun b hb => by rw [← hh]; exact upd_ne hb) hH1
      clear hh
      refine ⟨_, rfl, _, k, rfl, rfl, .inl ⟨by decide, by decide⟩, _, _, rfl, rfl, ?_⟩
      -- the cells
      refine ⟨_, rfl, p, _, 0, .ref c, rfl, rfl, SqL.of hH1, a0, Nat.zero_le _, fun l hl2 => ?_⟩
      have s2 := Stp.new (F := F) (o := .lst []) f1.ex hl2
      refine ⟨_, _, .lst (s2.x.seq (f1.ex.seq hx)) (dp_ints xs), .lst (SqL.of upd_same) .nil, shaped_ints xs, by decide +kernel, _, rfl, ?_⟩
      rw [eqv_nil]
      have hp2 : (⟨upd F.B l (.lst []), F.pn⟩ : Fz).pn = some p := hp
      revert s2 hp2
      generalize upd H1 l (.lst []) = H2
      generalize (⟨upd F.B l (.lst []), F.pn⟩ : Fz) = F2
      intro s2 hp2
      have hH2 := s2.x _ _ hH1
      have p2 := s2.pen p1
      have f2 := f1.trans s2.f
      have hx2 := s2.f.le.B.seq hx
      have hx3 := s2.f.ex.seq hx2
      -- whatever the cell is
      have hlen : (xs.map V.int).length = xs.length := List.length_map ..
      refine ite2 (fun h5 => ?wayA) (fun h5 => ?wayB)
      case' wayA =>
        have hne : 0 < xs.length := by
          cases xs with
          | nil => simp at h5
          | cons y ys => simp
        have hd : (0 : Int) < (xs.length : Int) := by omega
        obtain ⟨z, hz⟩ := ints_at (xs := xs) (i := k % (xs.length : Int)) (Int.emod_nonneg _ (by omega)) (Int.emod_lt_of_pos _ hd)
        refine ⟨_, rfl, p, _, 0, .ref c, rfl, rfl, SqL.of hH2, a0, _, rfl, .inl ⟨k, rfl, _, rfl, p, _, 0, .ref c, rfl, rfl, SqL.of hH2, a0, c, _, rfl, .inl hx3, k, _, rfl, rfl, by rw [hlen]; exact hd, c, _, _, .int z, rfl, rfl, hx3, by rw [hlen]; exact hz, ?_⟩⟩
      all_goals
        refine ⟨_, rfl, _, rfl, p, _, 0, .ref c, rfl, rfl, SqL.of hH2, a0, c, _, rfl, .inl hx3, k, _, rfl, rfl, _, rfl, ?_⟩
        refine ite2 (fun h6 => ?_) (fun h6 => iteF ?_)
        · refine ⟨_, rfl, _, rfl, 10, 18, rfl, rfl, ⟨by decide, by decide, by decide⟩, _, _, rfl, rfl, _, rfl, ?_⟩
          refine ite2 (fun h7 => ?_) (fun h7 => ?_)
          · -- a great cell
            refine ⟨_, rfl, _, rfl, 10, 18, rfl, rfl, ⟨by decide, by decide, by decide⟩, _, _, rfl, rfl, _, _, rfl, rfl, .inl ⟨by decide, by decide⟩, _, rfl, _, _, rfl, rfl, .inr ⟨_, rfl, _, _, rfl, rfl, ?_⟩⟩
            refine ⟨_, rfl, .inl ⟨_, rfl, _, rfl, _, _, rfl, rfl, ⟨hm0, hm1⟩, _, rfl, p, _, 2, 2, rfl, rfl, hH2, rfl, ?_⟩⟩
            refine ⟨_, rfl, .inl ⟨_, rfl, _, rfl, _, _, rfl, rfl, hm0, ?_⟩⟩
            generalize hh : upd H2 p _ = H3
            have h7' := of_decide_eq_true h7
            obtain ⟨f3, p3⟩ := pen_step (n' := n + 1) (k := k + 1) (o := .lst [.ref c, .int (k + 1), _]) (H' := H3) s2.f.ex p2 hp2 hx2 hl rfl (by omega) (by omega) (Int.ediv_nonneg (b := m) (great_nn h7') (by omega)) (fun b hb => by rw [← hh]; exact upd_ne hb) (by rw [← hh]; exact upd_same)
            exact kn _ (.int _) F2 H3 (n + 1) (f2.trans f3) p3 (by simp only [Rp]; rfl) (hq _ (Int.emod_nonneg _ (by omega)) (Int.emod_lt_of_pos _ hm0))
          · refine ⟨_, rfl, .inl ⟨_, rfl, _, _, rfl, rfl, (by show (0 : Int) < _; decide), _, rfl, _, _, rfl, rfl, .inl ⟨by decide, by decide⟩, _, _, rfl, rfl, _, _, rfl, rfl, _, _, rfl, rfl, ⟨by decide, by decide, mix_one (Int.emod_nonneg _ (by decide)) (Int.emod_lt_of_pos _ (by decide)) hk0 (by omega)⟩, .inl ⟨_, rfl, _, _, rfl, rfl, (by show (0 : Int) < _; decide), ?_⟩⟩⟩
            refine ⟨_, rfl, _, rfl, _, _, rfl, rfl, .inl ⟨by decide, by decide⟩, _, _, rfl, rfl, _, _, rfl, rfl, .inl ⟨by omega, by omega⟩, _, rfl, _, _, rfl, rfl, .inl ⟨by decide, by decide⟩, _, rfl, _, _, rfl, rfl, .inr ⟨by omega, by omega⟩, _, _, rfl, rfl, _, _, rfl, rfl, _, _, rfl, rfl,
              ⟨by decide, by decide, mix_two (Int.emod_nonneg _ (by decide)) (Int.emod_lt_of_pos _ (by decide)) hk0 (by omega)⟩, .inl ⟨_, rfl, _, _, rfl, rfl, (by show (0 : Int) < _; decide), ?_⟩⟩
            refine ⟨_, rfl, _, _, rfl, rfl, ⟨by decide, by decide⟩, .inl ⟨_, rfl, _, rfl, _, _, rfl, rfl, hm0, ?_⟩⟩
            exact kn _ (.int _) F2 H2 (n + 1) f2 p2 (by simp only [Rp]; rfl) (hq _ (Int.emod_nonneg _ (by omega)) (Int.emod_lt_of_pos _ hm0))
        · refine ⟨_, rfl, .inl ⟨_, rfl, _, _, rfl, rfl, (by show (0 : Int) < _; decide), _, rfl, _, _, rfl, rfl, .inl ⟨by decide, by decide⟩, _, _, rfl, rfl, _, _, rfl, rfl, _, _, rfl, rfl, ⟨by decide, by decide, mix_one (Int.emod_nonneg _ (by decide)) (Int.emod_lt_of_pos _ (by decide)) hk0 (by omega)⟩, .inl ⟨_, rfl, _, _, rfl, rfl, (by show (0 : Int) < _; decide), ?_⟩⟩⟩
          refine ⟨_, rfl, _, rfl, _, _, rfl, rfl, .inl ⟨by decide, by decide⟩, _, _, rfl, rfl, _, _, rfl, rfl, .inl ⟨by omega, by omega⟩, _, rfl, _, _, rfl, rfl, .inl ⟨by decide, by decide⟩, _, rfl, _, _, rfl, rfl, .inr ⟨by omega, by omega⟩, _, _, rfl, rfl, _, _, rfl, rfl, _, _, rfl, rfl,
            ⟨by decide, by decide, mix_two (Int.emod_nonneg _ (by decide)) (Int.emod_lt_of_pos _ (by decide)) hk0 (by omega)⟩, .inl ⟨_, rfl, _, _, rfl, rfl, (by show (0 : Int) < _; decide), ?_⟩⟩
          refine ⟨_, rfl, _, _, rfl, rfl, ⟨by decide, by decide⟩, .inl ⟨_, rfl, _, rfl, _, _, rfl, rfl, hm0, ?_⟩⟩
          exact kn _ (.int _) F2 H2 (n + 1) f2 p2 (by simp only [Rp]; rfl) (hq _ (Int.emod_nonneg _ (by omega)) (Int.emod_lt_of_pos _ hm0))
end
end Kx

set_option Elab.async false
set_option linter.all false
set_option maxRecDepth 100000
set_option maxHeartbeats 4000000
namespace Kx
open PySem L2 Dl
local macro_rules | `(tactic| walk_at "dl") => `(tactic| simp only [mVar, mC, mOp, mUn, mNil, mCons, mCall, mAnd, mOr, mNot, mIf, mTr, mTB, mTAnd, mTOr, mTNot, mChain, mTup, mLst, mNext, mSeq, mDrop, mRet, mRetN, mIfS, mNever, mAsg, mIter, mRange1, mRange2, mZip, mFor, mLc, mYes, mFn, mFnK, mPar2, mPar3, mSl, mP, mNoP, gN, gT, gsN, gsC, enD, xOf, startD, mExc, mExcK,
  List.length_cons, List.length_nil, List.map_cons, List.map_nil, List.append_nil, List.nil_append, List.cons_append, List.replicate, List.getElem?_cons_zero, List.getElem?_cons_succ, List.set_cons_zero, List.set_cons_succ, wipeD, Nat.reduceAdd, Nat.reduceSub, Nat.sub_self, Nat.sub_zero,
  Option.some.injEq, Sl.d.injEq, D.int.injEq, D.bl.injEq, D.tup.injEq, D.lst.injEq, List.cons.injEq, exists_eq_left', exists_eq_left, exists_eq_right, true_and, and_true, and_self, exists_and_left, trD_bl, if_true, sizeLine_eq, Nat.reduceLeDiff, Nat.zero_le, Bool.false_eq_true, if_false, ite_true, ite_false])
structure Bl (mg : Str → Option Value) : Prop extends Blt mg where
  isinstance : mg "isinstance" = none
  range : mg "range" = none
  repr : mg "repr" = none
  ValueError : mg "ValueError" = none
  LookupError : mg "LookupError" = none
  AttributeError : mg "AttributeError" = none
  ArithmeticError : mg "ArithmeticError" = none
  RuntimeError : mg "RuntimeError" = none
def tbl : List (Str × List Str) := [("CountError", ["CountError"]), ("BadInput", ["BadInput", "CountError"]), ("Refused", ["Refused", "CountError"]), ("NoAnswer", ["NoAnswer", "CountError"]), ("BadBag", ["BadBag", "BadInput", "CountError"]), ("BadBase", ["BadBase", "BadInput", "CountError"]), ("BadBook", ["BadBook", "BadInput", "CountError"]), ("BadBounds", ["BadBounds", "BadInput", "CountError"]), ("BadCounts", ["BadCounts", "BadInput", "CountError"]), ("BadForm", ["BadForm", "BadInput", "CountError"]), ("BadLine", ["BadLine", "BadInput", "CountError"]), ("BadName", ["BadName", "BadInput", "CountError"]), ("BadNumber", ["BadNumber", "BadInput", "CountError"]), ("BadPlan", ["BadPlan", "BadInput", "CountError"]), ("BadQuestion", ["BadQuestion", "BadInput", "CountError"]), ("BadRewrite", ["BadRewrite", "BadInput", "CountError"]), ("BadRow", ["BadRow", "BadInput", "CountError"]), ("BadRule", ["BadRule", "BadInput", "CountError"]), ("BadStore", ["BadStore", "BadInput", "CountError"]), ("BadTest", ["BadTest", "BadInput", "CountError"]), ("BadText", ["BadText", "BadInput", "CountError"]), ("Breaks", ["Breaks", "Refused", "CountError"]), ("NoColumn", ["NoColumn", "Refused", "CountError"]), ("NoFit", ["NoFit", "Refused", "CountError"]), ("NoPlace", ["NoPlace", "Refused", "CountError"]), ("NoRow", ["NoRow", "Refused", "CountError"]), ("NoTable", ["NoTable", "Refused", "CountError"]), ("TooMany", ["TooMany", "Refused", "CountError"]), ("Unlike", ["Unlike", "Refused", "CountError"]), ("NoDeed", ["NoDeed", "NoAnswer", "CountError"]), ("AtRow", ["AtRow", "NoAnswer", "CountError"])]
def bts : List String := ["ValueError", "LookupError", "AttributeError", "ArithmeticError", "RuntimeError"]
structure Exs (P : Program) (K : PySem.W.Frag) (mg : Str → Option Value) : Prop where
  e_BadBag : Exn P K mg "BadBag" (inClass (top 5) 0) "part" []
  e_BadBase : Exn P K mg "BadBase" (inClass (top 6) 0) "part" []
  e_BadBook : Exn P K mg "BadBook" (inClass (top 7) 0) "at" []
  e_BadBounds : Exn P K mg "BadBounds" (inClass (top 8) 0) "at" []
  e_BadCounts : Exn P K mg "BadCounts" (inClass (top 9) 0) "part" []
  e_BadForm : Exn P K mg "BadForm" (inClass (top 10) 0) "part" []
  e_BadLine : Exn P K mg "BadLine" (inClass (top 11) 0) "word" []
  e_BadName : Exn P K mg "BadName" (inClass (top 12) 0) "value" []
  e_BadNumber : Exn P K mg "BadNumber" (inClass (top 13) 0) "value" []
  e_BadPlan : Exn P K mg "BadPlan" (inClass (top 14) 0) "part" []
  e_BadQuestion : Exn P K mg "BadQuestion" (inClass (top 15) 0) "part" []
  e_BadRewrite : Exn P K mg "BadRewrite" (inClass (top 16) 0) "part" []
  e_BadRow : Exn P K mg "BadRow" (inClass (top 17) 0) "part" []
  e_BadRule : Exn P K mg "BadRule" (inClass (top 18) 0) "part" []
  e_BadStore : Exn P K mg "BadStore" (inClass (top 19) 0) "part" []
  e_BadTest : Exn P K mg "BadTest" (inClass (top 20) 0) "part" []
  e_BadText : Exn P K mg "BadText" (inClass (top 21) 0) "line" ["word"]
  e_Breaks : Exn P K mg "Breaks" (inClass (top 22) 0) "rule" []
  e_NoColumn : Exn P K mg "NoColumn" (inClass (top 23) 0) "name" []
  e_NoFit : Exn P K mg "NoFit" (inClass (top 24) 0) "place" []
  e_NoPlace : Exn P K mg "NoPlace" (inClass (top 25) 0) "place" []
  e_NoRow : Exn P K mg "NoRow" (inClass (top 26) 0) "row" []
  e_NoTable : Exn P K mg "NoTable" (inClass (top 27) 0) "name" []
  e_TooMany : Exn P K mg "TooMany" (inClass (top 28) 0) "what" ["most"]
  e_Unlike : Exn P K mg "Unlike" (inClass (top 29) 0) "paper" []
  e_AtRow : Exn P K mg "AtRow" (inClass (top 31) 0) "row" []
  z_CountError : Ex0 K mg "CountError"
  z_BadInput : Ex0 K mg "BadInput"
  z_Refused : Ex0 K mg "Refused"
  z_NoAnswer : Ex0 K mg "NoAnswer"
  z_NoDeed : Ex0 K mg "NoDeed"
  i_CountError : IsC K mg (underX tbl "CountError") "CountError"
  i_BadInput : IsC K mg (underX tbl "BadInput") "BadInput"
  i_Refused : IsC K mg (underX tbl "Refused") "Refused"
  i_NoAnswer : IsC K mg (underX tbl "NoAnswer") "NoAnswer"
  i_BadBag : IsC K mg (underX tbl "BadBag") "BadBag"
  i_BadBase : IsC K mg (underX tbl "BadBase") "BadBase"
  i_BadBook : IsC K mg (underX tbl "BadBook") "BadBook"
  i_BadBounds : IsC K mg (underX tbl "BadBounds") "BadBounds"
  i_BadCounts : IsC K mg (underX tbl "BadCounts") "BadCounts"
  i_BadForm : IsC K mg (underX tbl "BadForm") "BadForm"
  i_BadLine : IsC K mg (underX tbl "BadLine") "BadLine"
  i_BadName : IsC K mg (underX tbl "BadName") "BadName"
  i_BadNumber : IsC K mg (underX tbl "BadNumber") "BadNumber"
  i_BadPlan : IsC K mg (underX tbl "BadPlan") "BadPlan"
  i_BadQuestion : IsC K mg (underX tbl "BadQuestion") "BadQuestion"
  i_BadRewrite : IsC K mg (underX tbl "BadRewrite") "BadRewrite"
  i_BadRow : IsC K mg (underX tbl "BadRow") "BadRow"
  i_BadRule : IsC K mg (underX tbl "BadRule") "BadRule"
  i_BadStore : IsC K mg (underX tbl "BadStore") "BadStore"
  i_BadTest : IsC K mg (underX tbl "BadTest") "BadTest"
  i_BadText : IsC K mg (underX tbl "BadText") "BadText"
  i_Breaks : IsC K mg (underX tbl "Breaks") "Breaks"
  i_NoColumn : IsC K mg (underX tbl "NoColumn") "NoColumn"
  i_NoFit : IsC K mg (underX tbl "NoFit") "NoFit"
  i_NoPlace : IsC K mg (underX tbl "NoPlace") "NoPlace"
  i_NoRow : IsC K mg (underX tbl "NoRow") "NoRow"
  i_NoTable : IsC K mg (underX tbl "NoTable") "NoTable"
  i_TooMany : IsC K mg (underX tbl "TooMany") "TooMany"
  i_Unlike : IsC K mg (underX tbl "Unlike") "Unlike"
  i_NoDeed : IsC K mg (underX tbl "NoDeed") "NoDeed"
  i_AtRow : IsC K mg (underX tbl "AtRow") "AtRow"
  i_ValueError : ∀ c C b, underB tbl true c = some b → mg c = some (.ref C) → XkC K C ∧ PySem.W.kitOne K (.ref C) (.type "ValueError") = some b
  i_any : ∀ {l : List String}, (∀ t ∈ l, t ∈ bts ∧ (t == "ValueError") = false) → ∀ c C b, underB tbl false c = some b → mg c = some (.ref C) → XkC K C ∧ PySem.W.kitAny K (.ref C) (l.map Value.type) = some b
abbrev s_law_pick : Stmt := top 35
abbrev N_law_pick : List Str := ["_law_pen_here", "_law_some"]
def sp_law_pick : SpD := fun ds n q _ => ∃ xs, ds = [.pen, .lst xs] ∧ xs ≠ [] ∧ xs.length ≤ 1000 ∧ 0 < n ∧ n ≤ 1048576 ∧ ∀ d ∈ xs, q d (n + 1)

section
variable {P : Program} {w : World} {K : PySem.W.Frag} {mg : Str → Option Value} {base : Heap}
theorem sc_law_pick : FnScope N_law_pick ["_law_pen_here", "_law_some"] (defScope s_law_pick) := ⟨rfl, rfl, rfl, by decide +kernel, rfl, by decide +kernel, by decide +kernel⟩
theorem ok_law_pick {f : Addr} {fd : FuncData} (F : Fun K "_law_pick" "_law_pick" s_law_pick f fd) (T : Bl mg) (E : Exs P K mg) (C_law_draw : Cal P w K mg base "_law_draw" s_law_draw ["_law_pen_here", "_law_many"] 1 sp_law_draw) : FnD P w K mg base 2 f fd ["_law_pen_here", "_law_some"] sp_law_pick := by
  have nd := sc_law_pick.nd
  refine fnD F sc_law_pick (fun ds n q x h => ?_) (fun cdv A outer s H _ g hr tk po => ⟨_, (dss_one (ds_ret (de_ix (de_var 1) (de_cal C_law_draw tk hr (da_cons (de_var 0) (da_cons (de_callB cd_len T.len bb_len (da_cons (de_var 1) da_nil)) da_nil)))))), fun ds n q x h => ?_⟩)
  · obtain ⟨xs, rfl, _⟩ := h
    rfl
  · obtain ⟨xs, rfl, hne, hl, hn0, hn, hq⟩ := h
    have hpos : 0 < xs.length := List.length_pos_iff.mpr hne
    walk_at "dl"
    refine ⟨_, rfl, _, rfl, by omega, by omega, hn0, hn, fun r h0 h1 => ?_⟩
    have hi : r.toNat < xs.length := by omega
    exact ⟨_, ixD_lst h0 (List.getElem?_eq_getElem hi), hq _ (List.getElem_mem hi)⟩
end
abbrev s_law_value : Stmt := top 36
abbrev N_law_value : List Str := ["_law_pen_here"]
def vals : List D := [.non, .int 0, .bl true, .int (-7), .str "a", .str "", .tup [.int 1, .int 2], .lst [.int 1], .dct [] [], .int (10 ^ 40), .tup [.str "x"], .dct [.str "a"] [.int 1]]
def sp_law_value : SpD := fun ds n q _ => ds = [.pen] ∧ 0 < n ∧ n ≤ 1048000 ∧ ∀ d ∈ vals, q d (n + 1)

section
variable {P : Program} {w : World} {K : PySem.W.Frag} {mg : Str → Option Value} {base : Heap}
theorem sc_law_value : FnScope N_law_value ["_law_pen_here"] (defScope s_law_value) := ⟨rfl, rfl, rfl, by decide +kernel, rfl, by decide +kernel, by decide +kernel⟩
theorem ok_law_value {f : Addr} {fd : FuncData} (F : Fun K "_law_value" "_law_value" s_law_value f fd) (T : Bl mg) (E : Exs P K mg) (C_law_pick : Cal P w K mg base "_law_pick" s_law_pick ["_law_pen_here", "_law_some"] 2 sp_law_pick) : FnD P w K mg base 3 f fd ["_law_pen_here"] sp_law_value := by
  have nd := sc_law_value.nd
  refine fnD F sc_law_value (fun ds n q x h => ?_) (fun cdv A outer s H _ g hr tk po => ⟨_, (dss_one (ds_ret (de_cal C_law_pick tk hr (da_cons (de_var 0) (da_cons (de_lst (da_cons de_non (da_cons de_int (da_cons de_bl (da_cons (de_un ud_neg de_int) (da_cons de_str (da_cons de_str (da_cons (de_tup (da_cons de_int (da_cons de_int da_nil))) (da_cons (de_lst (da_cons de_int da_nil)) (da_cons de_dnew (da_cons (de_op od_pow de_int de_int) (da_cons (de_tup (da_cons de_str da_nil)) (da_cons de_dict1 da_nil))))))))))))) da_nil))))), fun ds n q x h => ?_⟩)
  · obtain ⟨rfl, _⟩ := h
    rfl
  · obtain ⟨rfl, hn0, hn, hq⟩ := h
    walk_at "dl"
    refine ⟨_, negI_int _, _, rfl, _, rfl, by simp, by simp, by omega, by omega, fun d hd => hq d ?_⟩
    exact hd
end
abbrev s_law_single : Stmt := top 37
abbrev N_law_single : List Str := ["_law_pen_here", "_law_mine", "_law_found"]
def sing : List (Str × Str × Int) := [("BadBag", "part", 0), ("BadBase", "part", 0), ("BadBook", "at", 0), ("BadBounds", "at", 0), ("BadCounts", "part", 0), ("BadForm", "part", 0), ("BadLine", "word", 0), ("BadName", "value", 0), ("BadNumber", "value", 0), ("BadPlan", "part", 0), ("BadQuestion", "part", 0), ("BadRow", "part", 0), ("BadRewrite", "part", 0), ("BadRule", "part", 0), ("BadStore", "part", 0), ("BadTest", "part", 0), ("Breaks", "rule", 1), ("NoColumn", "name", 1), ("NoFit", "place", 1), ("NoPlace", "place", 1), ("NoRow", "row", 1), ("NoTable", "name", 1), ("Unlike", "paper", 1), ("AtRow", "row", 2)]
def singD (d : D) (t : Str × Str × Int) : D := .tup [.exc t.1 [t.2.1] [d], d, .int t.2.2]
def sp_law_single : SpD := fun ds n q _ => ∃ d, ds = [.pen, d] ∧ q (.lst (sing.map (singD d))) n
theorem fldX_one {c f : Str} {d : D} : fldX c f (.exc c [f] [d]) = some d := by simp [fldX, lookD]

section
variable {P : Program} {w : World} {K : PySem.W.Frag} {mg : Str → Option Value} {base : Heap}
theorem sc_law_single : FnScope N_law_single ["_law_pen_here", "_law_mine"] (defScope s_law_single) := ⟨rfl, rfl, rfl, by decide +kernel, rfl, by decide +kernel, by decide +kernel⟩
theorem ok_law_single {f : Addr} {fd : FuncData} (F : Fun K "_law_single" "_law_single" s_law_single f fd) (T : Bl mg) (E : Exs P K mg)  : FnD P w K mg base 2 f fd ["_law_pen_here", "_law_mine"] sp_law_single := by
  have nd := sc_law_single.nd
  refine fnD F sc_law_single (fun ds n q x h => ?_) (fun cdv A outer s H _ g hr tk po => ⟨_, (dss_cons (ds_set (i := 2) nd rfl (Or.inl rfl) (de_lst (da_cons (de_tup (da_cons (de_exc E.e_BadBag hr (fun us hl => match us, hl with | [_], _ => fun _ _ _ _ _ _ _ _ _ => rfl) (da_cons (de_var 1) da_nil)) (da_cons (de_xf E.e_BadBag (by decide +kernel) (de_excK (ks := ["part"]) (pm := [0]) E.e_BadBag hr (fun ws hl => match ws, hl with | [_], _ => fun _ _ _ _ _ _ _ _ _ => rfl) (dk_cons (de_var 1) dk_nil))) (da_cons de_int da_nil)))) (da_cons (de_tup (da_cons (de_exc E.e_BadBase hr (fun us hl => match us, hl with | [_], _ => fun _ _ _ _ _ _ _ _ _ => rfl) (da_cons (de_var 1) da_nil)) (da_cons (de_xf E.e_BadBase (by decide +kernel) (de_excK (ks := ["part"]) (pm := [0]) E.e_BadBase hr (fun ws hl => match ws, hl with | [_], _ => fun _ _ _ _ _ _ _ _ _ => rfl) (dk_cons (de_var 1) dk_nil))) (da_cons de_int da_nil)))) da_nil))))
      (dss_cons (ds_set (i := 2) nd rfl (Or.inl rfl) (de_op od_addF (de_var 2) (de_lst (da_cons (de_tup (da_cons (de_exc E.e_BadBook hr (fun us hl => match us, hl with | [_], _ => fun _ _ _ _ _ _ _ _ _ => rfl) (da_cons (de_var 1) da_nil)) (da_cons (de_xf E.e_BadBook (by decide +kernel) (de_excK (ks := ["at"]) (pm := [0]) E.e_BadBook hr (fun ws hl => match ws, hl with | [_], _ => fun _ _ _ _ _ _ _ _ _ => rfl) (dk_cons (de_var 1) dk_nil))) (da_cons de_int da_nil)))) (da_cons (de_tup (da_cons (de_exc E.e_BadBounds hr (fun us hl => match us, hl with | [_], _ => fun _ _ _ _ _ _ _ _ _ => rfl) (da_cons (de_var 1) da_nil)) (da_cons (de_xf E.e_BadBounds (by decide +kernel) (de_excK (ks := ["at"]) (pm := [0]) E.e_BadBounds hr (fun ws hl => match ws, hl with | [_], _ => fun _ _ _ _ _ _ _ _ _ => rfl) (dk_cons (de_var 1) dk_nil))) (da_cons de_int da_nil)))) da_nil)))))
      (dss_cons (ds_set (i := 2) nd rfl (Or.inl rfl) (de_op od_addF (de_var 2) (de_lst (da_cons (de_tup (da_cons (de_exc E.e_BadCounts hr (fun us hl => match us, hl with | [_], _ => fun _ _ _ _ _ _ _ _ _ => rfl) (da_cons (de_var 1) da_nil)) (da_cons (de_xf E.e_BadCounts (by decide +kernel) (de_excK (ks := ["part"]) (pm := [0]) E.e_BadCounts hr (fun ws hl => match ws, hl with | [_], _ => fun _ _ _ _ _ _ _ _ _ => rfl) (dk_cons (de_var 1) dk_nil))) (da_cons de_int da_nil)))) (da_cons (de_tup (da_cons (de_exc E.e_BadForm hr (fun us hl => match us, hl with | [_], _ => fun _ _ _ _ _ _ _ _ _ => rfl) (da_cons (de_var 1) da_nil)) (da_cons (de_xf E.e_BadForm (by decide +kernel) (de_excK (ks := ["part"]) (pm := [0]) E.e_BadForm hr (fun ws hl => match ws, hl with | [_], _ => fun _ _ _ _ _ _ _ _ _ => rfl) (dk_cons (de_var 1) dk_nil))) (da_cons de_int da_nil)))) da_nil)))))
      (dss_cons (ds_set (i := 2) nd rfl (Or.inl rfl) (de_op od_addF (de_var 2) (de_lst (da_cons (de_tup (da_cons (de_exc E.e_BadLine hr (fun us hl => match us, hl with | [_], _ => fun _ _ _ _ _ _ _ _ _ => rfl) (da_cons (de_var 1) da_nil)) (da_cons (de_xf E.e_BadLine (by decide +kernel) (de_excK (ks := ["word"]) (pm := [0]) E.e_BadLine hr (fun ws hl => match ws, hl with | [_], _ => fun _ _ _ _ _ _ _ _ _ => rfl) (dk_cons (de_var 1) dk_nil))) (da_cons de_int da_nil)))) (da_cons (de_tup (da_cons (de_exc E.e_BadName hr (fun us hl => match us, hl with | [_], _ => fun _ _ _ _ _ _ _ _ _ => rfl) (da_cons (de_var 1) da_nil)) (da_cons (de_xf E.e_BadName (by decide +kernel) (de_excK (ks := ["value"]) (pm := [0]) E.e_BadName hr (fun ws hl => match ws, hl with | [_], _ => fun _ _ _ _ _ _ _ _ _ => rfl) (dk_cons (de_var 1) dk_nil))) (da_cons de_int da_nil)))) da_nil)))))
      (dss_cons (ds_set (i := 2) nd rfl (Or.inl rfl) (de_op od_addF (de_var 2) (de_lst (da_cons (de_tup (da_cons (de_exc E.e_BadNumber hr (fun us hl => match us, hl with | [_], _ => fun _ _ _ _ _ _ _ _ _ => rfl) (da_cons (de_var 1) da_nil)) (da_cons (de_xf E.e_BadNumber (by decide +kernel) (de_excK (ks := ["value"]) (pm := [0]) E.e_BadNumber hr (fun ws hl => match ws, hl with | [_], _ => fun _ _ _ _ _ _ _ _ _ => rfl) (dk_cons (de_var 1) dk_nil))) (da_cons de_int da_nil)))) (da_cons (de_tup (da_cons (de_exc E.e_BadPlan hr (fun us hl => match us, hl with | [_], _ => fun _ _ _ _ _ _ _ _ _ => rfl) (da_cons (de_var 1) da_nil)) (da_cons (de_xf E.e_BadPlan (by decide +kernel) (de_excK (ks := ["part"]) (pm := [0]) E.e_BadPlan hr (fun ws hl => match ws, hl with | [_], _ => fun _ _ _ _ _ _ _ _ _ => rfl) (dk_cons (de_var 1) dk_nil))) (da_cons de_int da_nil)))) da_nil)))))
      (dss_cons (ds_set (i := 2) nd rfl (Or.inl rfl) (de_op od_addF (de_var 2) (de_lst (da_cons (de_tup (da_cons (de_exc E.e_BadQuestion hr (fun us hl => match us, hl with | [_], _ => fun _ _ _ _ _ _ _ _ _ => rfl) (da_cons (de_var 1) da_nil)) (da_cons (de_xf E.e_BadQuestion (by decide +kernel) (de_excK (ks := ["part"]) (pm := [0]) E.e_BadQuestion hr (fun ws hl => match ws, hl with | [_], _ => fun _ _ _ _ _ _ _ _ _ => rfl) (dk_cons (de_var 1) dk_nil))) (da_cons de_int da_nil)))) (da_cons (de_tup (da_cons (de_exc E.e_BadRow hr (fun us hl => match us, hl with | [_], _ => fun _ _ _ _ _ _ _ _ _ => rfl) (da_cons (de_var 1) da_nil)) (da_cons (de_xf E.e_BadRow (by decide +kernel) (de_excK (ks := ["part"]) (pm := [0]) E.e_BadRow hr (fun ws hl => match ws, hl with | [_], _ => fun _ _ _ _ _ _ _ _ _ => rfl) (dk_cons (de_var 1) dk_nil))) (da_cons de_int da_nil)))) da_nil)))))
      (dss_cons (ds_set (i := 2) nd rfl (Or.inl rfl) (de_op od_addF (de_var 2) (de_lst (da_cons (de_tup (da_cons (de_exc E.e_BadRewrite hr (fun us hl => match us, hl with | [_], _ => fun _ _ _ _ _ _ _ _ _ => rfl) (da_cons (de_var 1) da_nil)) (da_cons (de_xf E.e_BadRewrite (by decide +kernel) (de_excK (ks := ["part"]) (pm := [0]) E.e_BadRewrite hr (fun ws hl => match ws, hl with | [_], _ => fun _ _ _ _ _ _ _ _ _ => rfl) (dk_cons (de_var 1) dk_nil))) (da_cons de_int da_nil)))) (da_cons (de_tup (da_cons (de_exc E.e_BadRule hr (fun us hl => match us, hl with | [_], _ => fun _ _ _ _ _ _ _ _ _ => rfl) (da_cons (de_var 1) da_nil)) (da_cons (de_xf E.e_BadRule (by decide +kernel) (de_excK (ks := ["part"]) (pm := [0]) E.e_BadRule hr (fun ws hl => match ws, hl with | [_], _ => fun _ _ _ _ _ _ _ _ _ => rfl) (dk_cons (de_var 1) dk_nil))) (da_cons de_int da_nil)))) da_nil)))))
      (dss_cons (ds_set (i := 2) nd rfl (Or.inl rfl) (de_op od_addF (de_var 2) (de_lst (da_cons (de_tup (da_cons (de_exc E.e_BadStore hr (fun us hl => match us, hl with | [_], _ => fun _ _ _ _ _ _ _ _ _ => rfl) (da_cons (de_var 1) da_nil)) (da_cons (de_xf E.e_BadStore (by decide +kernel) (de_excK (ks := ["part"]) (pm := [0]) E.e_BadStore hr (fun ws hl => match ws, hl with | [_], _ => fun _ _ _ _ _ _ _ _ _ => rfl) (dk_cons (de_var 1) dk_nil))) (da_cons de_int da_nil)))) (da_cons (de_tup (da_cons (de_exc E.e_BadTest hr (fun us hl => match us, hl with | [_], _ => fun _ _ _ _ _ _ _ _ _ => rfl) (da_cons (de_var 1) da_nil)) (da_cons (de_xf E.e_BadTest (by decide +kernel) (de_excK (ks := ["part"]) (pm := [0]) E.e_BadTest hr (fun ws hl => match ws, hl with | [_], _ => fun _ _ _ _ _ _ _ _ _ => rfl) (dk_cons (de_var 1) dk_nil))) (da_cons de_int da_nil)))) da_nil)))))
      (dss_cons (ds_set (i := 2) nd rfl (Or.inl rfl) (de_op od_addF (de_var 2) (de_lst (da_cons (de_tup (da_cons (de_exc E.e_Breaks hr (fun us hl => match us, hl with | [_], _ => fun _ _ _ _ _ _ _ _ _ => rfl) (da_cons (de_var 1) da_nil)) (da_cons (de_xf E.e_Breaks (by decide +kernel) (de_excK (ks := ["rule"]) (pm := [0]) E.e_Breaks hr (fun ws hl => match ws, hl with | [_], _ => fun _ _ _ _ _ _ _ _ _ => rfl) (dk_cons (de_var 1) dk_nil))) (da_cons de_int da_nil)))) (da_cons (de_tup (da_cons (de_exc E.e_NoColumn hr (fun us hl => match us, hl with | [_], _ => fun _ _ _ _ _ _ _ _ _ => rfl) (da_cons (de_var 1) da_nil)) (da_cons (de_xf E.e_NoColumn (by decide +kernel) (de_excK (ks := ["name"]) (pm := [0]) E.e_NoColumn hr (fun ws hl => match ws, hl with | [_], _ => fun _ _ _ _ _ _ _ _ _ => rfl) (dk_cons (de_var 1) dk_nil))) (da_cons de_int da_nil)))) da_nil)))))
      (dss_cons (ds_set (i := 2) nd rfl (Or.inl rfl) (de_op od_addF (de_var 2) (de_lst (da_cons (de_tup (da_cons (de_exc E.e_NoFit hr (fun us hl => match us, hl with | [_], _ => fun _ _ _ _ _ _ _ _ _ => rfl) (da_cons (de_var 1) da_nil)) (da_cons (de_xf E.e_NoFit (by decide +kernel) (de_excK (ks := ["place"]) (pm := [0]) E.e_NoFit hr (fun ws hl => match ws, hl with | [_], _ => fun _ _ _ _ _ _ _ _ _ => rfl) (dk_cons (de_var 1) dk_nil))) (da_cons de_int da_nil)))) (da_cons (de_tup (da_cons (de_exc E.e_NoPlace hr (fun us hl => match us, hl with | [_], _ => fun _ _ _ _ _ _ _ _ _ => rfl) (da_cons (de_var 1) da_nil)) (da_cons (de_xf E.e_NoPlace (by decide +kernel) (de_excK (ks := ["place"]) (pm := [0]) E.e_NoPlace hr (fun ws hl => match ws, hl with | [_], _ => fun _ _ _ _ _ _ _ _ _ => rfl) (dk_cons (de_var 1) dk_nil))) (da_cons de_int da_nil)))) da_nil)))))
      (dss_cons (ds_set (i := 2) nd rfl (Or.inl rfl) (de_op od_addF (de_var 2) (de_lst (da_cons (de_tup (da_cons (de_exc E.e_NoRow hr (fun us hl => match us, hl with | [_], _ => fun _ _ _ _ _ _ _ _ _ => rfl) (da_cons (de_var 1) da_nil)) (da_cons (de_xf E.e_NoRow (by decide +kernel) (de_excK (ks := ["row"]) (pm := [0]) E.e_NoRow hr (fun ws hl => match ws, hl with | [_], _ => fun _ _ _ _ _ _ _ _ _ => rfl) (dk_cons (de_var 1) dk_nil))) (da_cons de_int da_nil)))) (da_cons (de_tup (da_cons (de_exc E.e_NoTable hr (fun us hl => match us, hl with | [_], _ => fun _ _ _ _ _ _ _ _ _ => rfl) (da_cons (de_var 1) da_nil)) (da_cons (de_xf E.e_NoTable (by decide +kernel) (de_excK (ks := ["name"]) (pm := [0]) E.e_NoTable hr (fun ws hl => match ws, hl with | [_], _ => fun _ _ _ _ _ _ _ _ _ => rfl) (dk_cons (de_var 1) dk_nil))) (da_cons de_int da_nil)))) da_nil)))))
      (dss_one (ds_ret (de_op od_addF (de_var 2) (de_lst (da_cons (de_tup (da_cons (de_exc E.e_Unlike hr (fun us hl => match us, hl with | [_], _ => fun _ _ _ _ _ _ _ _ _ => rfl) (da_cons (de_var 1) da_nil)) (da_cons (de_xf E.e_Unlike (by decide +kernel) (de_excK (ks := ["paper"]) (pm := [0]) E.e_Unlike hr (fun ws hl => match ws, hl with | [_], _ => fun _ _ _ _ _ _ _ _ _ => rfl) (dk_cons (de_var 1) dk_nil))) (da_cons de_int da_nil)))) (da_cons (de_tup (da_cons (de_exc E.e_AtRow hr (fun us hl => match us, hl with | [_], _ => fun _ _ _ _ _ _ _ _ _ => rfl) (da_cons (de_var 1) da_nil)) (da_cons (de_xf E.e_AtRow (by decide +kernel) (de_excK (ks := ["row"]) (pm := [0]) E.e_AtRow hr (fun ws hl => match ws, hl with | [_], _ => fun _ _ _ _ _ _ _ _ _ => rfl) (dk_cons (de_var 1) dk_nil))) (da_cons de_int da_nil)))) da_nil))))))))))))))))), fun ds n q x h => ?_⟩)
  · obtain ⟨d, rfl, _⟩ := h
    rfl
  · obtain ⟨d, rfl, hq⟩ := h
    walk_at "dl"
    simp only [arr, List.filterMap_cons, List.filterMap_nil, List.getElem?_cons_zero, List.length_cons, List.length_nil, List.reverse_cons, List.reverse_nil, List.nil_append, fldX_one, true_and, Option.some.injEq, exists_eq_left']
    exact ⟨_, rfl, _, rfl, _, rfl, _, rfl, _, rfl, _, rfl, _, rfl, _, rfl, _, rfl, _, rfl, _, rfl, hq⟩
end
abbrev s_law_groups : Stmt := top 38
abbrev N_law_groups : List Str := ["_law_error", "_law_groups_here", "_law_at"]
def grp (s : List Str) : List Int := [0, 1, 2].filter fun i => if i = 0 then s.contains "BadInput" else if i = 1 then s.contains "Refused" else s.contains "NoAnswer"
theorem isx_at {c t : Str} {ns : List Str} {xs : List D} {s : List Str} (h : tbl.lookup c = some s) : isxD (underX tbl t) (.exc c ns xs) = some (.bl (s.contains t)) := by simp only [isxD, underX, h, Option.map_some]
theorem isb_at {c : Str} {b : Bool} {ns : List Str} {xs : List D} {s : List Str} (h : tbl.lookup c = some s) : isxD (underB tbl b) (.exc c ns xs) = some (.bl b) := by simp only [isxD, underB, h, Option.map_some]
def onAt (a b c : Bool) : D → Option D
  | .int i => if (if i = 0 then a else if i = 1 then b else c) = true then some (.int i) else none
  | _ => none
def sp_law_groups : SpD := fun ds n q _ => ∃ c ns xs s, ds = [.exc c ns xs] ∧ tbl.lookup c = some s ∧ q (.lst ((grp s).map D.int)) n

section
variable {P : Program} {w : World} {K : PySem.W.Frag} {mg : Str → Option Value} {base : Heap}
theorem sc_law_groups : FnScope N_law_groups ["_law_error"] (defScope s_law_groups) := ⟨rfl, rfl, rfl, by decide +kernel, rfl, by decide +kernel, by decide +kernel⟩
theorem ok_law_groups {f : Addr} {fd : FuncData} (F : Fun K "_law_groups" "_law_groups" s_law_groups f fd) (T : Bl mg) (E : Exs P K mg)  : FnD P w K mg base 2 f fd ["_law_error"] sp_law_groups := by
  have nd := sc_law_groups.nd
  refine fnD F sc_law_groups (fun ds n q x h => ?_) (fun cdv A outer s H _ g hr tk po => ⟨_, (dss_cons (ds_set (i := 1) nd rfl (Or.inr rfl) (de_lst (da_cons (de_isC E.i_BadInput T.isinstance (de_var 0)) (da_cons (de_isC E.i_Refused T.isinstance (de_var 0)) (da_cons (de_isC E.i_NoAnswer T.isinstance (de_var 0)) da_nil)))))
      (dss_one (ds_ret (de_lc rfl nd (blkOk_by (own := [("_law_at", 2)]) (N := N_law_groups) (sc := defScope s_law_groups) (by decide +kernel)) (by decide) (di_range1 T.range (da_cons de_int da_nil)) (fun _ _ _ _ _ => (dg_name (i := 2) nd rfl (Or.inl rfl))) (fun _ _ _ _ _ => (dts_one (dt_val (de_ix (de_var 1) (de_var 2))))) (fun _ _ _ _ _ => (de_var 2)))))), fun ds n q x h => ?_⟩)
  · obtain ⟨c, ns, xs, s, rfl, _⟩ := h
    rfl
  · obtain ⟨c, ns, xs, s, rfl, hs, hq⟩ := h
    walk_at "dl"
    simp only [isx_at hs, Option.some.injEq, exists_eq_left']
    unfold grp at hq
    generalize s.contains "BadInput" = a at hq ⊢
    generalize s.contains "Refused" = b at hq ⊢
    generalize s.contains "NoAnswer" = c' at hq ⊢
    have e : upFrom 0 (Int.toNat 3) = [.int 0, .int 1, .int 2] := rfl
    rw [e]
    refine ⟨by decide, by decide, lcL_pure (onAt a b c') _ [] (fun d hd kont hk => ?_) (by rw [sizeLine_eq]; decide) ?_⟩
    · simp only [List.mem_cons, List.not_mem_nil, or_false] at hd
      rcases hd with rfl | rfl | rfl
      · walk_at "dl"
        refine ⟨_, rfl, _, rfl, ?_⟩
        cases a <;> exact hk
      · walk_at "dl"
        refine ⟨_, rfl, _, rfl, ?_⟩
        cases b <;> exact hk
      · walk_at "dl"
        refine ⟨_, rfl, _, rfl, ?_⟩
        cases c' <;> exact hk
    · have : [D.int 0, D.int 1, D.int 2].filterMap (onAt a b c') = (([0, 1, 2] : List Int).filter fun i => if i = 0 then a else if i = 1 then b else c').map D.int := by
        cases a <;> cases b <;> cases c' <;> rfl
      rw [List.nil_append, this]
      exact hq
end
abbrev s_law_kinds : Stmt := top 39
abbrev N_law_kinds : List Str := ["_law_error", "_law_found", "_law_truth"]
def knd (s : List Str) : List Bool := [("BadBag" : Str), ("BadBase" : Str), ("BadBook" : Str), ("BadBounds" : Str), ("BadCounts" : Str), ("BadForm" : Str), ("BadLine" : Str), ("BadName" : Str), ("BadNumber" : Str), ("BadPlan" : Str), ("BadQuestion" : Str), ("BadRewrite" : Str), ("BadRow" : Str), ("BadRule" : Str), ("BadStore" : Str), ("BadTest" : Str), ("BadText" : Str), ("Breaks" : Str), ("NoColumn" : Str), ("NoFit" : Str), ("NoPlace" : Str), ("NoRow" : Str), ("NoTable" : Str), ("TooMany" : Str), ("Unlike" : Str), ("NoDeed" : Str), ("AtRow" : Str)].map fun t => s.contains t
def onTrue : D → Option D
  | .bl true => some (.bl true)
  | _ => none
theorem onTrue_len : ∀ l : List Bool, ((l.map D.bl).filterMap onTrue).length = (l.filter id).length
  | [] => rfl
  | true :: l => by
    rw [List.map_cons, List.filterMap_cons]
    show (D.bl true :: (l.map D.bl).filterMap onTrue).length = (true :: l.filter id).length
    rw [List.length_cons, onTrue_len l]
    rfl
  | false :: l => by
    rw [List.map_cons, List.filterMap_cons]
    exact onTrue_len l
def sp_law_kinds : SpD := fun ds n q _ => ∃ c ns xs s, ds = [.exc c ns xs] ∧ tbl.lookup c = some s ∧ q (.int ((knd s).filter id).length) n

section
variable {P : Program} {w : World} {K : PySem.W.Frag} {mg : Str → Option Value} {base : Heap}
theorem sc_law_kinds : FnScope N_law_kinds ["_law_error"] (defScope s_law_kinds) := ⟨rfl, rfl, rfl, by decide +kernel, rfl, by decide +kernel, by decide +kernel⟩
theorem ok_law_kinds {f : Addr} {fd : FuncData} (F : Fun K "_law_kinds" "_law_kinds" s_law_kinds f fd) (T : Bl mg) (E : Exs P K mg)  : FnD P w K mg base 2 f fd ["_law_error"] sp_law_kinds := by
  have nd := sc_law_kinds.nd
  refine fnD F sc_law_kinds (fun ds n q x h => ?_) (fun cdv A outer s H _ g hr tk po => ⟨_, (dss_cons (ds_set (i := 1) nd rfl (Or.inl rfl) (de_lst (da_cons (de_isC E.i_BadBag T.isinstance (de_var 0)) (da_cons (de_isC E.i_BadBase T.isinstance (de_var 0)) (da_cons (de_isC E.i_BadBook T.isinstance (de_var 0)) da_nil)))))
      (dss_cons (ds_set (i := 1) nd rfl (Or.inl rfl) (de_op od_addF (de_var 1) (de_lst (da_cons (de_isC E.i_BadBounds T.isinstance (de_var 0)) (da_cons (de_isC E.i_BadCounts T.isinstance (de_var 0)) (da_cons (de_isC E.i_BadForm T.isinstance (de_var 0)) da_nil))))))
      (dss_cons (ds_set (i := 1) nd rfl (Or.inl rfl) (de_op od_addF (de_var 1) (de_lst (da_cons (de_isC E.i_BadLine T.isinstance (de_var 0)) (da_cons (de_isC E.i_BadName T.isinstance (de_var 0)) (da_cons (de_isC E.i_BadNumber T.isinstance (de_var 0)) da_nil))))))
      (dss_cons (ds_set (i := 1) nd rfl (Or.inl rfl) (de_op od_addF (de_var 1) (de_lst (da_cons (de_isC E.i_BadPlan T.isinstance (de_var 0)) (da_cons (de_isC E.i_BadQuestion T.isinstance (de_var 0)) (da_cons (de_isC E.i_BadRewrite T.isinstance (de_var 0)) da_nil))))))
      (dss_cons (ds_set (i := 1) nd rfl (Or.inl rfl) (de_op od_addF (de_var 1) (de_lst (da_cons (de_isC E.i_BadRow T.isinstance (de_var 0)) (da_cons (de_isC E.i_BadRule T.isinstance (de_var 0)) (da_cons (de_isC E.i_BadStore T.isinstance (de_var 0)) da_nil))))))
      (dss_cons (ds_set (i := 1) nd rfl (Or.inl rfl) (de_op od_addF (de_var 1) (de_lst (da_cons (de_isC E.i_BadTest T.isinstance (de_var 0)) (da_cons (de_isC E.i_BadText T.isinstance (de_var 0)) (da_cons (de_isC E.i_Breaks T.isinstance (de_var 0)) da_nil))))))
      (dss_cons (ds_set (i := 1) nd rfl (Or.inl rfl) (de_op od_addF (de_var 1) (de_lst (da_cons (de_isC E.i_NoColumn T.isinstance (de_var 0)) (da_cons (de_isC E.i_NoFit T.isinstance (de_var 0)) (da_cons (de_isC E.i_NoPlace T.isinstance (de_var 0)) da_nil))))))
      (dss_cons (ds_set (i := 1) nd rfl (Or.inl rfl) (de_op od_addF (de_var 1) (de_lst (da_cons (de_isC E.i_NoRow T.isinstance (de_var 0)) (da_cons (de_isC E.i_NoTable T.isinstance (de_var 0)) (da_cons (de_isC E.i_TooMany T.isinstance (de_var 0)) da_nil))))))
      (dss_cons (ds_set (i := 1) nd rfl (Or.inl rfl) (de_op od_addF (de_var 1) (de_lst (da_cons (de_isC E.i_Unlike T.isinstance (de_var 0)) (da_cons (de_isC E.i_NoDeed T.isinstance (de_var 0)) (da_cons (de_isC E.i_AtRow T.isinstance (de_var 0)) da_nil))))))
      (dss_one (ds_ret (de_callB cd_len T.len bb_len (da_cons (de_lc rfl nd (blkOk_by (own := [("_law_truth", 2)]) (N := N_law_kinds) (sc := defScope s_law_kinds) (by decide +kernel)) (by decide) (di_seq (de_var 1)) (fun _ _ _ _ _ => (dg_name (i := 2) nd rfl (Or.inl rfl))) (fun _ _ _ _ _ => (dts_one (dt_val (de_var 2)))) (fun _ _ _ _ _ => (de_var 2))) da_nil))))))))))))), fun ds n q x h => ?_⟩)
  · obtain ⟨c, ns, xs, s, rfl, _⟩ := h
    rfl
  · obtain ⟨c, ns, xs, s, rfl, hs, hq⟩ := h
    walk_at "dl"
    simp only [isx_at hs, Option.some.injEq, exists_eq_left']
    refine ⟨_, rfl, _, rfl, _, rfl, _, rfl, _, rfl, _, rfl, _, rfl, _, rfl, _, rfl, ?_⟩
    show lcL _ _ _ _ _ ((knd s).map D.bl) [] n
    refine lcL_pure onTrue _ [] (fun d hd kont hk => ?_) (by rw [sizeLine_eq, List.length_map]; exact Nat.le_trans (by show 0 + 27 ≤ 27; decide) (by decide)) ?_
    · obtain ⟨b, _, rfl⟩ := List.mem_map.mp hd
      walk_at "dl"
      cases b <;> simpa [onTrue] using hk
    · refine ⟨_, rfl, ?_⟩
      rw [List.nil_append, onTrue_len]
      exact hq
end
end Kx

set_option Elab.async false
set_option linter.all false
set_option maxRecDepth 100000
set_option maxHeartbeats 4000000
namespace Kx
open PySem L2 Dl
local macro_rules | `(tactic| walk_at "dl") => `(tactic| simp only [mVar, mC, mOp, mUn, mNil, mCons, mCall, mAnd, mOr, mNot, mIf, mTr, mTB, mTAnd, mTOr, mTNot, mChain, mTup, mLst, mNext, mSeq, mDrop, mRet, mRetN, mIfS, mNever, mAsg, mIter, mRange1, mRange2, mZip, mFor, mLc, mYes, mFn, mFnK, mPar2, mPar3, mSl, mP, mNoP, gN, gT, gsN, gsC, enD, xOf, startD, mExc, mExcK,
  List.length_cons, List.length_nil, List.map_cons, List.map_nil, List.append_nil, List.nil_append, List.cons_append, List.replicate, List.getElem?_cons_zero, List.getElem?_cons_succ, List.set_cons_zero, List.set_cons_succ, wipeD, Nat.reduceAdd, Nat.reduceSub, Nat.sub_self, Nat.sub_zero,
  Option.some.injEq, Sl.d.injEq, D.int.injEq, D.bl.injEq, D.tup.injEq, D.lst.injEq, List.cons.injEq, exists_eq_left', exists_eq_left, exists_eq_right, true_and, and_true, and_self, exists_and_left, trD_bl, if_true, sizeLine_eq, Nat.reduceLeDiff, Nat.zero_le, Bool.false_eq_true, if_false, ite_true, ite_false])
abbrev s_law_fields_right : Stmt := top 40
abbrev N_law_fields_right : List Str := ["_law_pen_here", "_law_mine", "_law_more", "_law_error", "_law_kept", "_law_group", "_law_two", "_law_many"]
def singB (t : Str × Str × Int) : Bool := match tbl.lookup t.1 with
  | some s => decide (grp s = [t.2.2]) && (decide (((knd s).filter id).length = 1) && s.contains "CountError")
  | none => false
theorem sing_all : sing.all singB = true := by decide +kernel
theorem sing_one (t : Str × Str × Int) (z : singB t = true) : ∃ s, tbl.lookup t.1 = some s ∧ grp s = [t.2.2] ∧ ((knd s).filter id).length = 1 ∧ s.contains "CountError" = true := by
  unfold singB at z
  split at z
  · rename_i s hs
    simp only [Bool.and_eq_true, decide_eq_true_eq] at z
    exact ⟨s, hs, z.1, z.2.1, z.2.2⟩
  · cases z
theorem fld2a {c a b : Str} {d e : D} : fldX c a (.exc c [a, b] [e, d]) = some e := by simp [fldX, lookD]
theorem fld2b {c a b : Str} {d e : D} (h : b ≠ a) : fldX c b (.exc c [a, b] [e, d]) = some d := by simp [fldX, lookD, h]
theorem neI1 (l : List Int) : neF (.lst (l.map D.int)) (.lst (l.map D.int)) = some (.bl false) := by rw [neF_lst pl_ints pl_ints, eqBs_ints, decide_eq_true rfl]; rfl
theorem eqI1 (l : List Int) : eqF (.lst (l.map D.int)) (.lst (l.map D.int)) = some (.bl true) := by rw [eqF_lst pl_ints pl_ints, eqBs_ints, decide_eq_true rfl]
theorem sing_ok (t : Str × Str × Int) (h : t ∈ sing) : ∃ s, tbl.lookup t.1 = some s ∧ grp s = [t.2.2] ∧ ((knd s).filter id).length = 1 ∧ s.contains "CountError" = true := sing_one t (List.all_eq_true.mp sing_all t h)
def isStr : Option D → Bool
  | some (.str _) => true
  | _ => false
theorem isStr_ok {o : Option D} (h : isStr o = true) : ∃ r, o = some (.str r) := by
  unfold isStr at h
  split at h
  · exact ⟨_, rfl⟩
  · cases h
theorem vals_all : vals.all (fun d => isStr (reprL [d])) = true := by decide +kernel
theorem vals_all2 : vals.all (fun d => vals.all fun e => isStr (reprL [.lst [d, e, d, e]])) = true := by decide +kernel
theorem vals_repr (d : D) (h : d ∈ vals) : ∃ r, reprL [d] = some (.str r) := isStr_ok (List.all_eq_true.mp vals_all d h)
theorem vals_repr2 (d e : D) (h : d ∈ vals) (h' : e ∈ vals) : ∃ r, reprL [.lst [d, e, d, e]] = some (.str r) := isStr_ok (List.all_eq_true.mp (List.all_eq_true.mp vals_all2 d h) e h')
def sp_law_fields_right : SpD := fun ds n q _ => ds = [.pen] ∧ 0 < n ∧ n ≤ 1040000 ∧ q (.bl true) (n + 2)

section
variable {P : Program} {w : World} {K : PySem.W.Frag} {mg : Str → Option Value} {base : Heap}
theorem sc_law_fields_right : FnScope N_law_fields_right ["_law_pen_here"] (defScope s_law_fields_right) := ⟨rfl, rfl, rfl, by decide +kernel, rfl, by decide +kernel, by decide +kernel⟩
theorem ok_law_fields_right {f : Addr} {fd : FuncData} (F : Fun K "_law_fields_right" "_law_fields_right" s_law_fields_right f fd) (T : Bl mg) (E : Exs P K mg) (C_law_value : Cal P w K mg base "_law_value" s_law_value ["_law_pen_here"] 3 sp_law_value) (C_law_single : Cal P w K mg base "_law_single" s_law_single ["_law_pen_here", "_law_mine"] 2 sp_law_single) (C_law_groups : Cal P w K mg base "_law_groups" s_law_groups ["_law_error"] 2 sp_law_groups) (C_law_kinds : Cal P w K mg base "_law_kinds" s_law_kinds ["_law_error"] 2 sp_law_kinds) : FnDG P w K mg base 4 f fd ["_law_pen_here"] sp_law_fields_right := by
  have nd := sc_law_fields_right.nd
  refine fnDG F sc_law_fields_right (fun ds n q x h => ?_) (fun cdv A outer s H _ g hr gd tk po => ⟨_, (dss_cons (ds_par2 (i := 1) (j := 2) rfl nd (da_cons (de_cal C_law_value tk hr (da_cons (de_var 0) da_nil)) (da_cons (de_cal C_law_value tk hr (da_cons (de_var 0) da_nil)) da_nil)))
      (dss_cons (ds_for po rfl (di_seq (de_cal C_law_single tk hr (da_cons (de_var 0) (da_cons (de_var 1) da_nil)))) (dg_tup (n := 3) rfl (dgs_cons (dg_name (i := 3) nd rfl (Or.inl rfl)) (dgs_cons (dg_name (i := 4) nd rfl (Or.inl rfl)) (dgs_cons (dg_name (i := 5) nd rfl (Or.inl rfl)) dgs_nil)))) (dss_cons (ds_if (dt_w (dw_or (dt_cmp (od_neF hr) (de_callB (cd_reprL hr gd) T.repr bb_repr (da_cons (de_var 4) da_nil)) (de_callB (cd_reprL hr gd) T.repr bb_repr (da_cons (de_var 1) da_nil)) (nomark _)) (dw_or (dt_cmp (od_neF hr) (de_cal C_law_groups tk hr (da_cons (de_var 3) da_nil)) (de_lst (da_cons (de_var 5) da_nil)) (nomark _)) (dw_or1 (dt_cmp (od_neF hr) (de_cal C_law_kinds tk hr (da_cons (de_var 3) da_nil)) de_int (nomark _)))))) (dss_one (ds_ret de_bl)) dss_nil)
      (dss_cons (ds_if (dt_w (dw_or (dt_not (dt_val (de_isC E.i_CountError T.isinstance (de_var 3)))) (dw_or1 (dt_not (dt_val (de_isxB T.isinstance T.ValueError (by decide +kernel) E.i_ValueError (de_var 3))))))) (dss_one (ds_ret de_bl)) dss_nil)
      (dss_one (ds_if (dt_val (de_isxT (ts := ["LookupError", "AttributeError", "ArithmeticError", "RuntimeError"]) T.isinstance (by decide) (E.i_any (by decide +kernel)) (de_var 3) (pa_tys (t := "LookupError") T.LookupError (by decide +kernel) (pa_tys (t := "AttributeError") T.AttributeError (by decide +kernel) (pa_tys (t := "ArithmeticError") T.ArithmeticError (by decide +kernel) (pa_tys (t := "RuntimeError") T.RuntimeError (by decide +kernel) pa_tys0)))))) (dss_one (ds_ret de_bl)) dss_nil)))))
      (dss_cons (ds_par2 (i := 6) (j := 7) rfl nd (da_cons (de_exc E.e_BadText hr (fun us hl => match us, hl with | [_, _], _ => fun _ _ _ _ _ _ _ _ _ => rfl) (da_cons (de_var 1) (da_cons (de_var 2) da_nil))) (da_cons (de_exc E.e_TooMany hr (fun us hl => match us, hl with | [_, _], _ => fun _ _ _ _ _ _ _ _ _ => rfl) (da_cons (de_var 1) (da_cons (de_var 2) da_nil))) da_nil)))
      (dss_cons (ds_if (dt_cmp (od_neF hr) (de_callB (cd_reprL hr gd) T.repr bb_repr (da_cons (de_lst (da_cons (de_xf E.e_BadText (by decide +kernel) (de_var 6)) (da_cons (de_xf E.e_BadText (by decide +kernel) (de_var 6)) (da_cons (de_xf E.e_TooMany (by decide +kernel) (de_var 7)) (da_cons (de_xf E.e_TooMany (by decide +kernel) (de_var 7)) da_nil))))) da_nil)) (de_callB (cd_reprL hr gd) T.repr bb_repr (da_cons (de_lst (da_cons (de_var 1) (da_cons (de_var 2) (da_cons (de_var 1) (da_cons (de_var 2) da_nil))))) da_nil)) (nomark _)) (dss_one (ds_ret de_bl)) dss_nil)
      (dss_cons (ds_par2 (i := 6) (j := 7) rfl nd (da_cons (de_excK (ks := ["word", "line"]) (pm := [1, 0]) E.e_BadText hr (fun ws hl => match ws, hl with | [_, _], _ => fun _ _ _ _ _ _ _ _ _ => rfl) (dk_cons (de_var 2) (dk_cons (de_var 1) dk_nil))) (da_cons (de_excK (ks := ["most", "what"]) (pm := [1, 0]) E.e_TooMany hr (fun ws hl => match ws, hl with | [_, _], _ => fun _ _ _ _ _ _ _ _ _ => rfl) (dk_cons (de_var 2) (dk_cons (de_var 1) dk_nil))) da_nil)))
      (dss_cons (ds_if (dt_cmp (od_neF hr) (de_callB (cd_reprL hr gd) T.repr bb_repr (da_cons (de_lst (da_cons (de_xf E.e_BadText (by decide +kernel) (de_var 6)) (da_cons (de_xf E.e_BadText (by decide +kernel) (de_var 6)) (da_cons (de_xf E.e_TooMany (by decide +kernel) (de_var 7)) (da_cons (de_xf E.e_TooMany (by decide +kernel) (de_var 7)) da_nil))))) da_nil)) (de_callB (cd_reprL hr gd) T.repr bb_repr (da_cons (de_lst (da_cons (de_var 1) (da_cons (de_var 2) (da_cons (de_var 1) (da_cons (de_var 2) da_nil))))) da_nil)) (nomark _)) (dss_one (ds_ret de_bl)) dss_nil)
      (dss_one (ds_ret (de_and (de_cmp (od_eqF hr) (de_cal C_law_groups tk hr (da_cons (de_var 6) da_nil)) (de_lst (da_cons de_int da_nil)) (nomark _)) (de_and (de_cmp (od_eqF hr) (de_cal C_law_groups tk hr (da_cons (de_var 7) da_nil)) (de_lst (da_cons de_int da_nil)) (nomark _)) (de_and (de_cmp (od_eqF hr) (de_cal C_law_kinds tk hr (da_cons (de_var 6) da_nil)) de_int (nomark _)) (de_one (de_cmp (od_eqF hr) (de_cal C_law_kinds tk hr (da_cons (de_var 7) da_nil)) de_int (nomark _)))))))))))))), fun ds n q x h => ?_⟩)
  · obtain ⟨rfl, _⟩ := h
    rfl
  · obtain ⟨rfl, hn0, hn, hq⟩ := h
    walk_at "dl"
    refine ⟨rfl, hn0, by omega, fun d hd => ⟨rfl, by omega, by omega, fun e he => ?_⟩⟩
    walk_at "dl"
    refine ⟨d, e, ⟨rfl, rfl⟩, d, rfl, sing.map (singD d), rfl, ?_⟩
    refine forL_inv (fun ds δ n' => (∀ x ∈ ds, x ∈ sing.map (singD d)) ∧ n' = n + 1 + 1 ∧ ∃ a3 a4 a5, δ = [some (.d .pen), some (.d d), some (.d e), a3, a4, a5, none, none]) _ _ _ ⟨fun x hx => hx, rfl, _, _, _, rfl⟩ ?_ ?_
    · rintro x ds δ n' ⟨hx, rfl, a3, a4, a5, rfl⟩ E' h1 h2 h3 h4 h5
      obtain ⟨t, ht, rfl⟩ := List.mem_map.mp (hx x List.mem_cons_self)
      obtain ⟨s, hs, k1, k2, k3⟩ := sing_ok t ht
      obtain ⟨r, hr'⟩ := vals_repr d hd
      simp only [singD]
      walk_at "dl"
      refine ⟨_, hr', _, hr', _, neF_same r, _, rfl, ?_⟩
      rw [if_neg Bool.false_ne_true]
      refine ⟨_, _, _, s, rfl, hs, ?_⟩
      rw [k1]
      refine ⟨_, neI1 [t.2.2], _, rfl, ?_⟩
      rw [if_neg Bool.false_ne_true]
      refine ⟨_, _, _, s, rfl, hs, ?_⟩
      rw [k2]
      refine ⟨_, rfl, _, rfl, ?_⟩
      rw [if_neg (by decide)]
      refine ⟨_, isx_at hs, _, rfl, ?_⟩
      rw [k3, if_neg (by decide)]
      refine ⟨_, isb_at hs, _, rfl, ?_⟩
      rw [if_neg (by decide)]
      refine ⟨_, isb_at hs, _, rfl, ?_⟩
      rw [if_neg (by decide)]
      exact h4 _ _ ⟨fun y hy => hx y (List.mem_cons_of_mem _ hy), rfl, _, _, _, rfl⟩
    · rintro δ n' ⟨_, rfl, a3, a4, a5, rfl⟩
      obtain ⟨r, hr'⟩ := vals_repr2 d e hd he
      walk_at "dl"
      simp only [List.reverse_cons, List.reverse_nil, List.nil_append, List.cons_append]
      refine ⟨_, _, ⟨rfl, rfl⟩, d, fld2b (by decide +kernel), e, fld2a, d, fld2b (by decide +kernel), e, fld2a, _, hr', _, hr', _, neF_same r, _, rfl, ?_⟩
      rw [if_neg Bool.false_ne_true]
      refine ⟨rfl, rfl, _, _, ⟨rfl, rfl⟩, d, fld2b (by decide +kernel), e, fld2a, d, fld2b (by decide +kernel), e, fld2a, _, hr', _, hr', _, neF_same r, _, rfl, ?_⟩
      rw [if_neg Bool.false_ne_true]
      obtain ⟨s1, t1, t2, t3, _⟩ := sing_one ("BadText", "", 0) (by decide +kernel)
      obtain ⟨s2, u1, u2, u3, _⟩ := sing_one ("TooMany", "", 1) (by decide +kernel)
      refine ⟨_, _, _, s1, rfl, t1, ?_⟩
      rw [t2]
      refine ⟨_, eqI1 [0], _, rfl, ?_⟩
      rw [if_pos rfl]
      refine ⟨_, _, _, s2, rfl, u1, ?_⟩
      rw [u2]
      refine ⟨_, eqI1 [1], _, rfl, ?_⟩
      rw [if_pos rfl]
      refine ⟨_, _, _, s1, rfl, t1, ?_⟩
      rw [t3]
      refine ⟨_, rfl, _, rfl, ?_⟩
      rw [if_pos (by decide)]
      refine ⟨_, _, _, s2, rfl, u1, ?_⟩
      rw [u3]
      exact ⟨_, rfl, hq⟩
end
end Kx

set_option Elab.async false
set_option linter.all false
set_option maxRecDepth 100000
set_option maxHeartbeats 4000000
namespace Kx
open PySem L2 Dl
local macro_rules | `(tactic| walk_at "dl") => `(tactic| simp only [mVar, mC, mOp, mUn, mNil, mCons, mCall, mAnd, mOr, mNot, mIf, mTr, mTB, mTAnd, mTOr, mTNot, mChain, mTup, mLst, mNext, mSeq, mDrop, mRet, mRetN, mIfS, mNever, mAsg, mIter, mRange1, mRange2, mZip, mFor, mLc, mYes, mFn, mFnK, mPar2, mPar3, mSl, mP, mNoP, gN, gT, gsN, gsC, enD, xOf, startD, mExc, mExcK,
  List.length_cons, List.length_nil, List.map_cons, List.map_nil, List.append_nil, List.nil_append, List.cons_append, List.replicate, List.getElem?_cons_zero, List.getElem?_cons_succ, List.set_cons_zero, List.set_cons_succ, wipeD, Nat.reduceAdd, Nat.reduceSub, Nat.sub_self, Nat.sub_zero,
  Option.some.injEq, Sl.d.injEq, D.int.injEq, D.bl.injEq, D.tup.injEq, D.lst.injEq, List.cons.injEq, exists_eq_left', exists_eq_left, exists_eq_right, true_and, and_true, and_self, exists_and_left, trD_bl, if_true, sizeLine_eq, Nat.reduceLeDiff, Nat.zero_le, Bool.false_eq_true, if_false, ite_true, ite_false])
abbrev s_law : Stmt := top 41
abbrev N_law : List Str := ["_law_script", "_law_pen_here", "_law_lap"]
def sp_law : SpD := fun ds n q _ => ∃ xs, ds = [.scr xs] ∧ xs.length ≤ 63 ∧ n = 0 ∧ ∀ n', q (.bl true) n'
def grpB (c : Str) (g : List Int) (k : Nat) : Bool := match tbl.lookup c with
  | some s => decide (grp s = g) && decide (((knd s).filter id).length = k)
  | none => false
theorem grp_one (c : Str) (g : List Int) (k : Nat) (z : grpB c g k = true) : ∃ s, tbl.lookup c = some s ∧ grp s = g ∧ ((knd s).filter id).length = k := by
  unfold grpB at z
  split at z
  · rename_i s hs
    simp only [Bool.and_eq_true, decide_eq_true_eq] at z
    exact ⟨s, hs, z.1, z.2⟩
  · cases z

section
variable {P : Program} {w : World} {K : PySem.W.Frag} {mg : Str → Option Value} {base : Heap}
theorem sc_law : FnScope N_law ["_law_script"] (defScope s_law) := ⟨rfl, rfl, rfl, by decide +kernel, rfl, by decide +kernel, by decide +kernel⟩
theorem ok_law {f : Addr} {fd : FuncData} (F : Fun K "law" "law" s_law f fd) (T : Bl mg) (E : Exs P K mg) (C_law_pen : Cal P w K mg base "_law_pen" s_law_pen ["_law_script"] 1 sp_law_pen) (C_law_fields_right : CalG P w K mg base "_law_fields_right" s_law_fields_right ["_law_pen_here"] 4 sp_law_fields_right) (C_law_groups : Cal P w K mg base "_law_groups" s_law_groups ["_law_error"] 2 sp_law_groups) (C_law_kinds : Cal P w K mg base "_law_kinds" s_law_kinds ["_law_error"] 2 sp_law_kinds) : FnDG P w K mg base 5 f fd ["_law_script"] sp_law := by
  have nd := sc_law.nd
  refine fnDG F sc_law (fun ds n q x h => ?_) (fun cdv A outer s H _ g hr gd tk po => ⟨_, (dss_cons (ds_set (i := 1) nd rfl (Or.inl rfl) (de_cal C_law_pen tk hr (da_cons (de_var 0) da_nil)))
      (dss_cons (ds_for po rfl (di_range1 T.range (da_cons de_int da_nil)) (dg_name (i := 2) nd rfl (Or.inl rfl)) (dss_one (ds_if (dt_not (dt_val (de_calG C_law_fields_right gd tk hr (da_cons (de_var 1) da_nil)))) (dss_one (ds_ret de_bl)) dss_nil)))
      (dss_cons (ds_if (dt_w (dw_or (dt_cmp (od_neF hr) (de_cal C_law_groups tk hr (da_cons (de_ex0 E.z_NoDeed) da_nil)) (de_lst (da_cons de_int da_nil)) (nomark _)) (dw_or1 (dt_cmp (od_neF hr) (de_cal C_law_kinds tk hr (da_cons (de_ex0 E.z_NoDeed) da_nil)) de_int (nomark _))))) (dss_one (ds_ret de_bl)) dss_nil)
      (dss_cons (ds_if (dt_val (de_isxT (ts := ["LookupError", "ArithmeticError", "RuntimeError"]) T.isinstance (by decide) (E.i_any (by decide +kernel)) (de_ex0 E.z_NoDeed) (pa_tys (t := "LookupError") T.LookupError (by decide +kernel) (pa_tys (t := "ArithmeticError") T.ArithmeticError (by decide +kernel) (pa_tys (t := "RuntimeError") T.RuntimeError (by decide +kernel) pa_tys0))))) (dss_one (ds_ret de_bl)) dss_nil)
      (dss_one (ds_ret (de_and (de_cmp (od_eqF hr) (de_cal C_law_groups tk hr (da_cons (de_ex0 E.z_CountError) da_nil)) (de_lst da_nil) (nomark _)) (de_and (de_isC E.i_CountError T.isinstance (de_ex0 E.z_BadInput)) (de_one (de_cmp (od_eqF hr) (de_cal C_law_kinds tk hr (da_cons (de_ex0 E.z_Refused) da_nil)) de_int (nomark _))))))))))), fun ds n q x h => ?_⟩)
  · obtain ⟨xs, rfl, _⟩ := h
    rfl
  · obtain ⟨xs, rfl, hl, rfl, hq⟩ := h
    walk_at "dl"
    refine ⟨xs, rfl, hl, rfl, ?_⟩
    walk_at "dl"
    refine ⟨by decide, by decide, ?_⟩
    refine forL_inv (fun ds δ n => 0 < n ∧ n + 2 * ds.length ≤ 1000 ∧ ∃ a2, δ = [some (.d (.scr xs)), some (.d .pen), a2]) _ _ _ ⟨by decide, by decide, _, rfl⟩ ?_ ?_
    · rintro x ds δ n ⟨h0, hn, a2, rfl⟩ E' h1 h2 h3 h4 h5
      walk_at "dl"
      refine ⟨rfl, h0, by simp only [List.length_cons] at hn; omega, ?_⟩
      refine ⟨_, rfl, ?_⟩
      rw [if_neg (by decide)]
      exact h4 _ _ ⟨by omega, by simp only [List.length_cons] at hn; omega, _, rfl⟩
    · rintro δ n ⟨h0, hn, a2, rfl⟩
      walk_at "dl"
      obtain ⟨s1, t1, t2, t3⟩ := grp_one "NoDeed" [2] 1 (by decide +kernel)
      obtain ⟨s2, u1, u2, _⟩ := grp_one "CountError" [] 0 (by decide +kernel)
      obtain ⟨s3, v1, v2⟩ : ∃ s, tbl.lookup ("BadInput" : Str) = some s ∧ s.contains ("CountError" : Str) = true := ⟨[("BadInput" : Str), "CountError"], by decide +kernel, by decide +kernel⟩
      obtain ⟨s4, w1, _, w3⟩ := grp_one "Refused" [1] 0 (by decide +kernel)
      refine ⟨_, _, _, s1, rfl, t1, ?_⟩
      rw [t2]
      refine ⟨_, neI1 [2], _, rfl, ?_⟩
      rw [if_neg Bool.false_ne_true]
      refine ⟨_, _, _, s1, rfl, t1, ?_⟩
      rw [t3]
      refine ⟨_, rfl, _, rfl, ?_⟩
      rw [if_neg (by decide)]
      refine ⟨_, isb_at t1, _, rfl, ?_⟩
      rw [if_neg (by decide)]
      refine ⟨_, _, _, s2, rfl, u1, ?_⟩
      rw [u2]
      refine ⟨_, eqI1 [], _, rfl, ?_⟩
      rw [if_pos rfl]
      refine ⟨_, isx_at v1, _, rfl, ?_⟩
      rw [v2, if_pos rfl]
      refine ⟨_, _, _, s4, rfl, w1, ?_⟩
      rw [w3]
      exact ⟨_, rfl, hq _⟩
end
end Kx

set_option Elab.async false
set_option linter.all false
set_option maxRecDepth 100000
set_option maxHeartbeats 2000000
namespace Dl
open PySem L2 PySem.HandSPX
def fileB (file : Str) (vs : Array Value) : Bool := match (vs[2]? : Option Value) with
  | some (Value.str f _) => file == f
  | _ => false
def xiB (file : Str) (K : PySem.W.Frag) (C fI cda : Addr) (qual p : Str) (ps : List Str) (bm : List Value) (vs : Array Value) : Bool :=
  refsVE bm && (decide (PySem.W.findIn K (.ref C) "__setattr__" = some (some (.builtin "object.__setattr__"))) && (decide (PySem.W.subIn K (.ref C) (.type "BaseException") = some true) && (decide (PySem.W.typeIn K (.ref C) = some (.type "type")) && (PySem.W.keepIn K (.ref C) &&
  (decide (PySem.W.typeIn K (.ref fI) = some (.type "function")) && (PySem.W.codeIn K (.ref cda) qual && (fileB file vs && ((p :: ps).all (fun x => decide (PySem.W.findIn K (.ref C) x = some none)) &&
  (decide (PySem.W.ks_superIn K C C "__init__" = some (some (.builtin "ValueError.__init__"))) && (decide (PySem.W.subIn K (.ref C) (.type "ValueError") = some true) && xfB K C))))))))))
theorem exn_mk {P : Program} {K : PySem.W.Frag} {h : Heap} {mg : Str → Option Value} {x qual p : Str} {ps : List Str} {st : Stmt} {C fI cc cda N : Addr} {nm q : Str} {bs bm sub : List Value} {sn : List Str} {ab : Bool} {col : Option Bool} {dd od an cld cdd : Option Addr} {m0 m1 m2 m3 m5 : Option Value}
    {oc kV doc pm ct cl ccl : Value} {osl csl ccs : Array (Option Value)} {vs : Array Value} (KX : K.In h) (G : h.Ns mainGlobals mg) (sp : mg "super" = none) (tp : PySem.W.nsIn K cStatics "thirdparty.any" = some none) (top : (P.main.scope.names.lookup ("super" : Str)).isSome = false)
    (S : XSt st p ps) (sm : ps.length ≤ 1)
    (a : PySem.W.nsIn K mainGlobals x = some (some (.ref C)))
    (l0 : K.lookup C = some (excClassObj nm q C N bs bm true sn sub ab col dd m0 m1 m2 m3 m5 "ValueError.__new__"))
    (i : PySem.W.findIn K (.ref C) "__init__" = some (some (.ref fI)))
    (l : K.lookup fI = some ⟨oc, od, .func (PySem.W.ksFn "__init__" qual (defArgs st) (defBody st) (defScope st) .none kV doc pm an (.ref cda) ct cc), osl⟩)
    (lc : K.lookup cc = some ⟨cl, cld, .cell (some (.ref C)), csl⟩)
    (ld : K.lookup cda = some ⟨ccl, cdd, .fields vs, ccs⟩)
    (b : xiB P.main.file K C fI cda qual p ps bm vs = true) : Exn P K mg x st p ps := by
  simp only [xiB, Bool.and_eq_true, decide_eq_true_eq, List.all_eq_true] at b
  obtain ⟨b1, b2, b3, b4, b5, b6, b7, b8, b9, b10, b11, b12⟩ := b
  obtain ⟨file, tf, e1, e2⟩ : ∃ file tf, vs[2]? = some (.str file tf) ∧ ((P.main.file : Str) == file) = true := by
    unfold fileB at b8
    split at b8
    · rename_i f t ht
      exact ⟨f, t, ht, b8⟩
    · cases b8
  refine ⟨⟨C, fI, _, ⟨⟨⟨nm, q, N, bs, bm, sn, sub, ab, col, dd, m0, m1, m2, m3, m5, l0, b1⟩, b2, b3, b4, b5⟩, i, b6, ⟨cc, cda, qual, oc, od, kV, doc, pm, an, ct, osl, cl, cld, csl, ccl, cdd, vs, ccs, file, tf, rfl, l, b7, lc, ld, e1, e2⟩, sp, top, b9, b10, b11, tp, S⟩, PySem.W.mg_of KX G a, xfB_ok b12⟩, sm⟩
theorem ex0_mk {K : PySem.W.Frag} {h : Heap} {mg : Str → Option Value} {x : Str} {C : Addr} (KX : K.In h) (G : h.Ns mainGlobals mg) (a : PySem.W.nsIn K mainGlobals x = some (some (.ref C)))
    (b : (PySem.W.excIn K C [.type "ValueError", .type "Exception", .type "BaseException", .type "object"] "ValueError.__new__" && PySem.W.keepIn K (.ref C)) = true) : Ex0 K mg x := by
  simp only [Bool.and_eq_true] at b
  exact ⟨C, PySem.W.mg_of KX G a, b.1, b.2⟩
theorem isC_mk {K : PySem.W.Frag} {h : Heap} {mg : Str → Option Value} {cs : List (Str × List Str)} {ts : List Str} {bs : List String} {t : Str} {C : Addr} (KX : K.In h) (G : h.Ns mainGlobals mg) (A : isAll K cs ts bs = true) (ht : t ∈ ts) (a : PySem.W.nsIn K mainGlobals t = some (some (.ref C))) : IsC K mg (underX cs t) t :=
  ⟨C, PySem.W.mg_of KX G a, under_all KX G A ht (PySem.W.mg_of KX G a)⟩
theorem tp_of {K : PySem.W.Frag} {h : Heap} (KX : K.In h) (e : PySem.W.nsIn K cStatics "thirdparty.any" = some none) : PySem.W.nsIn K cStatics "thirdparty.any" = some none := e
theorem all_of {K : PySem.W.Frag} {h : Heap} (KX : K.In h) (cs : List (Str × List Str)) (ts : List Str) (bs : List String) (A : isAll K cs ts bs = true) : isAll K cs ts bs = true := A
theorem isV_mk {K : PySem.W.Frag} {h : Heap} {mg : Str → Option Value} {cs : List (Str × List Str)} {ts : List Str} {bs : List String} (KX : K.In h) (G : h.Ns mainGlobals mg) (A : isAll K cs ts bs = true) (ht : "ValueError" ∈ bs) :
    ∀ c C b, underB cs true c = some b → mg c = some (.ref C) → XkC K C ∧ PySem.W.kitOne K (.ref C) (.type "ValueError") = some b := underB_one KX G A ht
end Dl

set_option Elab.async false
set_option linter.all false
set_option maxRecDepth 100000
set_option maxHeartbeats 4000000
namespace Kx
open PySem L2 Dl
theorem law_is : SpLaw sp_law := fun ns q hl hq => ⟨ns, rfl, hl, rfl, hq⟩
def tns : List Str := ["CountError", "BadInput", "Refused", "NoAnswer", "BadBag", "BadBase", "BadBook", "BadBounds", "BadCounts", "BadForm", "BadLine", "BadName", "BadNumber", "BadPlan", "BadQuestion", "BadRewrite", "BadRow", "BadRule", "BadStore", "BadTest", "BadText", "Breaks", "NoColumn", "NoFit", "NoPlace", "NoRow", "NoTable", "TooMany", "Unlike", "NoDeed", "AtRow"]
theorem all_mk {P : Program} {w : World} {K : PySem.W.Frag} {h : Heap} {mg : Str → Option Value} {fa f1 f2 f3 f4 f5 f6 f7 f8 f9 : Addr} (X : K.In h) (G : h.Ns mainGlobals mg) (hfa : mg "law" = some (.ref fa)) {od1 an1 od2 an2 od3 an3 od4 an4 od5 an5 od6 an6 od7 an7 od8 an8 od9 an9 : Option Addr} {sl1 sl2 sl3 sl4 sl5 sl6 sl7 sl8 sl9 : Array (Option Value)} {oc1 kV1 dc1 pm1 cd1 ct1 oc2 kV2 dc2 pm2 cd2 ct2 oc3 kV3 dc3 pm3 cd3 ct3 oc4 kV4 dc4 pm4 cd4 ct4 oc5 kV5 dc5 pm5 cd5 ct5 oc6 kV6 dc6 pm6 cd6 ct6 oc7 kV7 dc7 pm7 cd7 ct7 oc8 kV8 dc8 pm8 cd8 ct8 oc9 kV9 dc9 pm9 cd9 ct9 : Value}
    (a1 : PySem.W.nsIn K mainGlobals "_law_pen" = some (some (.ref f1)))
    (l1 : K.lookup f1 = some ⟨oc1, od1, .func (PySem.W.fnOf "_law_pen" "_law_pen" (defArgs s_law_pen) (defBody s_law_pen) (defScope s_law_pen) .none kV1 dc1 pm1 an1 cd1 ct1), sl1⟩)
    (c1 : PySem.W.codeIn K cd1 "_law_pen" = true) (k1 : PySem.W.keepIn K (.ref f1) = true)
    (a2 : PySem.W.nsIn K mainGlobals "_law_draw" = some (some (.ref f2)))
    (l2 : K.lookup f2 = some ⟨oc2, od2, .func (PySem.W.fnOf "_law_draw" "_law_draw" (defArgs s_law_draw) (defBody s_law_draw) (defScope s_law_draw) .none kV2 dc2 pm2 an2 cd2 ct2), sl2⟩)
    (c2 : PySem.W.codeIn K cd2 "_law_draw" = true) (k2 : PySem.W.keepIn K (.ref f2) = true)
    (a3 : PySem.W.nsIn K mainGlobals "_law_pick" = some (some (.ref f3)))
    (l3 : K.lookup f3 = some ⟨oc3, od3, .func (PySem.W.fnOf "_law_pick" "_law_pick" (defArgs s_law_pick) (defBody s_law_pick) (defScope s_law_pick) .none kV3 dc3 pm3 an3 cd3 ct3), sl3⟩)
    (c3 : PySem.W.codeIn K cd3 "_law_pick" = true) (k3 : PySem.W.keepIn K (.ref f3) = true)
    (a4 : PySem.W.nsIn K mainGlobals "_law_value" = some (some (.ref f4)))
    (l4 : K.lookup f4 = some ⟨oc4, od4, .func (PySem.W.fnOf "_law_value" "_law_value" (defArgs s_law_value) (defBody s_law_value) (defScope s_law_value) .none kV4 dc4 pm4 an4 cd4 ct4), sl4⟩)
    (c4 : PySem.W.codeIn K cd4 "_law_value" = true) (k4 : PySem.W.keepIn K (.ref f4) = true)
    (a5 : PySem.W.nsIn K mainGlobals "_law_single" = some (some (.ref f5)))
    (l5 : K.lookup f5 = some ⟨oc5, od5, .func (PySem.W.fnOf "_law_single" "_law_single" (defArgs s_law_single) (defBody s_law_single) (defScope s_law_single) .none kV5 dc5 pm5 an5 cd5 ct5), sl5⟩)
    (c5 : PySem.W.codeIn K cd5 "_law_single" = true) (k5 : PySem.W.keepIn K (.ref f5) = true)
    (a6 : PySem.W.nsIn K mainGlobals "_law_groups" = some (some (.ref f6)))
    (l6 : K.lookup f6 = some ⟨oc6, od6, .func (PySem.W.fnOf "_law_groups" "_law_groups" (defArgs s_law_groups) (defBody s_law_groups) (defScope s_law_groups) .none kV6 dc6 pm6 an6 cd6 ct6), sl6⟩)
    (c6 : PySem.W.codeIn K cd6 "_law_groups" = true) (k6 : PySem.W.keepIn K (.ref f6) = true)
    (a7 : PySem.W.nsIn K mainGlobals "_law_kinds" = some (some (.ref f7)))
    (l7 : K.lookup f7 = some ⟨oc7, od7, .func (PySem.W.fnOf "_law_kinds" "_law_kinds" (defArgs s_law_kinds) (defBody s_law_kinds) (defScope s_law_kinds) .none kV7 dc7 pm7 an7 cd7 ct7), sl7⟩)
    (c7 : PySem.W.codeIn K cd7 "_law_kinds" = true) (k7 : PySem.W.keepIn K (.ref f7) = true)
    (a8 : PySem.W.nsIn K mainGlobals "_law_fields_right" = some (some (.ref f8)))
    (l8 : K.lookup f8 = some ⟨oc8, od8, .func (PySem.W.fnOf "_law_fields_right" "_law_fields_right" (defArgs s_law_fields_right) (defBody s_law_fields_right) (defScope s_law_fields_right) .none kV8 dc8 pm8 an8 cd8 ct8), sl8⟩)
    (c8 : PySem.W.codeIn K cd8 "_law_fields_right" = true) (k8 : PySem.W.keepIn K (.ref f8) = true)
    (a9 : PySem.W.nsIn K mainGlobals "law" = some (some (.ref f9)))
    (l9 : K.lookup f9 = some ⟨oc9, od9, .func (PySem.W.fnOf "law" "law" (defArgs s_law) (defBody s_law) (defScope s_law) .none kV9 dc9 pm9 an9 cd9 ct9), sl9⟩)
    (c9 : PySem.W.codeIn K cd9 "law" = true) (k9 : PySem.W.keepIn K (.ref f9) = true)
    (z_int : PySem.W.nsIn K mainGlobals "int" = some none)
    (z_len : PySem.W.nsIn K mainGlobals "len" = some none)
    (z_abs : PySem.W.nsIn K mainGlobals "abs" = some none)
    (z_list : PySem.W.nsIn K mainGlobals "list" = some none)
    (z_isinstance : PySem.W.nsIn K mainGlobals "isinstance" = some none)
    (z_range : PySem.W.nsIn K mainGlobals "range" = some none)
    (z_repr : PySem.W.nsIn K mainGlobals "repr" = some none)
    (z_ValueError : PySem.W.nsIn K mainGlobals "ValueError" = some none)
    (z_LookupError : PySem.W.nsIn K mainGlobals "LookupError" = some none)
    (z_AttributeError : PySem.W.nsIn K mainGlobals "AttributeError" = some none)
    (z_ArithmeticError : PySem.W.nsIn K mainGlobals "ArithmeticError" = some none)
    (z_RuntimeError : PySem.W.nsIn K mainGlobals "RuntimeError" = some none)
    (E : Exs P K mg) :
    ∃ fd : FuncData, (∀ (s : Shared) (v : Value), BindsTo s fd ⟨[v], []⟩ [("_law_script", v)]) ∧ ∀ base : Heap, K.In base → base.Ns mainGlobals mg → FnDG P w K mg base 5 fa fd ["_law_script"] sp_law := by
  have e := hfa.symm.trans (PySem.W.mg_of X G a9)
  cases e
  have T : Bl mg := { int := PySem.W.mg_none_of X G z_int, len := PySem.W.mg_none_of X G z_len, abs := PySem.W.mg_none_of X G z_abs, list := PySem.W.mg_none_of X G z_list, isinstance := PySem.W.mg_none_of X G z_isinstance, range := PySem.W.mg_none_of X G z_range, repr := PySem.W.mg_none_of X G z_repr, ValueError := PySem.W.mg_none_of X G z_ValueError, LookupError := PySem.W.mg_none_of X G z_LookupError, AttributeError := PySem.W.mg_none_of X G z_AttributeError, ArithmeticError := PySem.W.mg_none_of X G z_ArithmeticError, RuntimeError := PySem.W.mg_none_of X G z_RuntimeError }
  refine ⟨PySem.W.fnOf "law" "law" (defArgs s_law) (defBody s_law) (defScope s_law) .none kV9 dc9 pm9 an9 cd9 ct9, fun s v => .of_eq rfl, fun base _ _ => ?_⟩
  have F1 := fun_mk (st := s_law_pen) l1 c1 k1
  have C_law_pen : Cal P w K mg base "_law_pen" s_law_pen ["_law_script"] 1 sp_law_pen := ⟨f1, _, F1, ok_law_pen F1 T.toBlt , PySem.W.mg_of X G a1, F1.binds (ps := ["_law_script"]) fun _ _ _ _ _ _ us hl => match us, hl with | [_], _ => rfl⟩
  have F2 := fun_mk (st := s_law_draw) l2 c2 k2
  have C_law_draw : Cal P w K mg base "_law_draw" s_law_draw ["_law_pen_here", "_law_many"] 1 sp_law_draw := ⟨f2, _, F2, ok_law_draw F2 T.toBlt , PySem.W.mg_of X G a2, F2.binds (ps := ["_law_pen_here", "_law_many"]) fun _ _ _ _ _ _ us hl => match us, hl with | [_, _], _ => rfl⟩
  have F3 := fun_mk (st := s_law_pick) l3 c3 k3
  have C_law_pick : Cal P w K mg base "_law_pick" s_law_pick ["_law_pen_here", "_law_some"] 2 sp_law_pick := ⟨f3, _, F3, ok_law_pick F3 T E C_law_draw, PySem.W.mg_of X G a3, F3.binds (ps := ["_law_pen_here", "_law_some"]) fun _ _ _ _ _ _ us hl => match us, hl with | [_, _], _ => rfl⟩
  have F4 := fun_mk (st := s_law_value) l4 c4 k4
  have C_law_value : Cal P w K mg base "_law_value" s_law_value ["_law_pen_here"] 3 sp_law_value := ⟨f4, _, F4, ok_law_value F4 T E C_law_pick, PySem.W.mg_of X G a4, F4.binds (ps := ["_law_pen_here"]) fun _ _ _ _ _ _ us hl => match us, hl with | [_], _ => rfl⟩
  have F5 := fun_mk (st := s_law_single) l5 c5 k5
  have C_law_single : Cal P w K mg base "_law_single" s_law_single ["_law_pen_here", "_law_mine"] 2 sp_law_single := ⟨f5, _, F5, ok_law_single F5 T E , PySem.W.mg_of X G a5, F5.binds (ps := ["_law_pen_here", "_law_mine"]) fun _ _ _ _ _ _ us hl => match us, hl with | [_, _], _ => rfl⟩
  have F6 := fun_mk (st := s_law_groups) l6 c6 k6
  have C_law_groups : Cal P w K mg base "_law_groups" s_law_groups ["_law_error"] 2 sp_law_groups := ⟨f6, _, F6, ok_law_groups F6 T E , PySem.W.mg_of X G a6, F6.binds (ps := ["_law_error"]) fun _ _ _ _ _ _ us hl => match us, hl with | [_], _ => rfl⟩
  have F7 := fun_mk (st := s_law_kinds) l7 c7 k7
  have C_law_kinds : Cal P w K mg base "_law_kinds" s_law_kinds ["_law_error"] 2 sp_law_kinds := ⟨f7, _, F7, ok_law_kinds F7 T E , PySem.W.mg_of X G a7, F7.binds (ps := ["_law_error"]) fun _ _ _ _ _ _ us hl => match us, hl with | [_], _ => rfl⟩
  have F8 := fun_mk (st := s_law_fields_right) l8 c8 k8
  have C_law_fields_right : CalG P w K mg base "_law_fields_right" s_law_fields_right ["_law_pen_here"] 4 sp_law_fields_right := ⟨f8, _, F8, ok_law_fields_right F8 T E C_law_value C_law_single C_law_groups C_law_kinds, PySem.W.mg_of X G a8, F8.binds (ps := ["_law_pen_here"]) fun _ _ _ _ _ _ us hl => match us, hl with | [_], _ => rfl⟩
  have F9 := fun_mk (st := s_law) l9 c9 k9
  exact ok_law F9 T E C_law_pen C_law_fields_right C_law_groups C_law_kinds
theorem xs_BadBag : XSt (inClass (top 5) 0) "part" [] := ⟨⟨_, _, _, _, _, _, [], [(_, _, _, _)], rfl, rfl, rfl, by decide +kernel⟩, rfl, rfl, rfl, by decide +kernel, by decide +kernel, by decide +kernel, by decide +kernel, by decide +kernel, by decide +kernel, by decide +kernel⟩
theorem xs_BadBase : XSt (inClass (top 6) 0) "part" [] := ⟨⟨_, _, _, _, _, _, [], [(_, _, _, _)], rfl, rfl, rfl, by decide +kernel⟩, rfl, rfl, rfl, by decide +kernel, by decide +kernel, by decide +kernel, by decide +kernel, by decide +kernel, by decide +kernel, by decide +kernel⟩
theorem xs_BadBook : XSt (inClass (top 7) 0) "at" [] := ⟨⟨_, _, _, _, _, _, [], [(_, _, _, _)], rfl, rfl, rfl, by decide +kernel⟩, rfl, rfl, rfl, by decide +kernel, by decide +kernel, by decide +kernel, by decide +kernel, by decide +kernel, by decide +kernel, by decide +kernel⟩
theorem xs_BadBounds : XSt (inClass (top 8) 0) "at" [] := ⟨⟨_, _, _, _, _, _, [], [(_, _, _, _)], rfl, rfl, rfl, by decide +kernel⟩, rfl, rfl, rfl, by decide +kernel, by decide +kernel, by decide +kernel, by decide +kernel, by decide +kernel, by decide +kernel, by decide +kernel⟩
theorem xs_BadCounts : XSt (inClass (top 9) 0) "part" [] := ⟨⟨_, _, _, _, _, _, [], [(_, _, _, _)], rfl, rfl, rfl, by decide +kernel⟩, rfl, rfl, rfl, by decide +kernel, by decide +kernel, by decide +kernel, by decide +kernel, by decide +kernel, by decide +kernel, by decide +kernel⟩
theorem xs_BadForm : XSt (inClass (top 10) 0) "part" [] := ⟨⟨_, _, _, _, _, _, [], [(_, _, _, _)], rfl, rfl, rfl, by decide +kernel⟩, rfl, rfl, rfl, by decide +kernel, by decide +kernel, by decide +kernel, by decide +kernel, by decide +kernel, by decide +kernel, by decide +kernel⟩
theorem xs_BadLine : XSt (inClass (top 11) 0) "word" [] := ⟨⟨_, _, _, _, _, _, [], [(_, _, _, _)], rfl, rfl, rfl, by decide +kernel⟩, rfl, rfl, rfl, by decide +kernel, by decide +kernel, by decide +kernel, by decide +kernel, by decide +kernel, by decide +kernel, by decide +kernel⟩
theorem xs_BadName : XSt (inClass (top 12) 0) "value" [] := ⟨⟨_, _, _, _, _, _, [], [(_, _, _, _)], rfl, rfl, rfl, by decide +kernel⟩, rfl, rfl, rfl, by decide +kernel, by decide +kernel, by decide +kernel, by decide +kernel, by decide +kernel, by decide +kernel, by decide +kernel⟩
theorem xs_BadNumber : XSt (inClass (top 13) 0) "value" [] := ⟨⟨_, _, _, _, _, _, [], [(_, _, _, _)], rfl, rfl, rfl, by decide +kernel⟩, rfl, rfl, rfl, by decide +kernel, by decide +kernel, by decide +kernel, by decide +kernel, by decide +kernel, by decide +kernel, by decide +kernel⟩
theorem xs_BadPlan : XSt (inClass (top 14) 0) "part" [] := ⟨⟨_, _, _, _, _, _, [], [(_, _, _, _)], rfl, rfl, rfl, by decide +kernel⟩, rfl, rfl, rfl, by decide +kernel, by decide +kernel, by decide +kernel, by decide +kernel, by decide +kernel, by decide +kernel, by decide +kernel⟩
theorem xs_BadQuestion : XSt (inClass (top 15) 0) "part" [] := ⟨⟨_, _, _, _, _, _, [], [(_, _, _, _)], rfl, rfl, rfl, by decide +kernel⟩, rfl, rfl, rfl, by decide +kernel, by decide +kernel, by decide +kernel, by decide +kernel, by decide +kernel, by decide +kernel, by decide +kernel⟩
theorem xs_BadRewrite : XSt (inClass (top 16) 0) "part" [] := ⟨⟨_, _, _, _, _, _, [], [(_, _, _, _)], rfl, rfl, rfl, by decide +kernel⟩, rfl, rfl, rfl, by decide +kernel, by decide +kernel, by decide +kernel, by decide +kernel, by decide +kernel, by decide +kernel, by decide +kernel⟩
theorem xs_BadRow : XSt (inClass (top 17) 0) "part" [] := ⟨⟨_, _, _, _, _, _, [], [(_, _, _, _)], rfl, rfl, rfl, by decide +kernel⟩, rfl, rfl, rfl, by decide +kernel, by decide +kernel, by decide +kernel, by decide +kernel, by decide +kernel, by decide +kernel, by decide +kernel⟩
theorem xs_BadRule : XSt (inClass (top 18) 0) "part" [] := ⟨⟨_, _, _, _, _, _, [], [(_, _, _, _)], rfl, rfl, rfl, by decide +kernel⟩, rfl, rfl, rfl, by decide +kernel, by decide +kernel, by decide +kernel, by decide +kernel, by decide +kernel, by decide +kernel, by decide +kernel⟩
theorem xs_BadStore : XSt (inClass (top 19) 0) "part" [] := ⟨⟨_, _, _, _, _, _, [], [(_, _, _, _)], rfl, rfl, rfl, by decide +kernel⟩, rfl, rfl, rfl, by decide +kernel, by decide +kernel, by decide +kernel, by decide +kernel, by decide +kernel, by decide +kernel, by decide +kernel⟩
theorem xs_BadTest : XSt (inClass (top 20) 0) "part" [] := ⟨⟨_, _, _, _, _, _, [], [(_, _, _, _)], rfl, rfl, rfl, by decide +kernel⟩, rfl, rfl, rfl, by decide +kernel, by decide +kernel, by decide +kernel, by decide +kernel, by decide +kernel, by decide +kernel, by decide +kernel⟩
theorem xs_BadText : XSt (inClass (top 21) 0) "line" ["word"] := ⟨⟨_, _, _, _, _, _, [_], [(_, _, _, _), (_, _, _, _)], rfl, rfl, rfl, by decide +kernel⟩, rfl, rfl, rfl, by decide +kernel, by decide +kernel, by decide +kernel, by decide +kernel, by decide +kernel, by decide +kernel, by decide +kernel⟩
theorem xs_Breaks : XSt (inClass (top 22) 0) "rule" [] := ⟨⟨_, _, _, _, _, _, [], [(_, _, _, _)], rfl, rfl, rfl, by decide +kernel⟩, rfl, rfl, rfl, by decide +kernel, by decide +kernel, by decide +kernel, by decide +kernel, by decide +kernel, by decide +kernel, by decide +kernel⟩
theorem xs_NoColumn : XSt (inClass (top 23) 0) "name" [] := ⟨⟨_, _, _, _, _, _, [], [(_, _, _, _)], rfl, rfl, rfl, by decide +kernel⟩, rfl, rfl, rfl, by decide +kernel, by decide +kernel, by decide +kernel, by decide +kernel, by decide +kernel, by decide +kernel, by decide +kernel⟩
theorem xs_NoFit : XSt (inClass (top 24) 0) "place" [] := ⟨⟨_, _, _, _, _, _, [], [(_, _, _, _)], rfl, rfl, rfl, by decide +kernel⟩, rfl, rfl, rfl, by decide +kernel, by decide +kernel, by decide +kernel, by decide +kernel, by decide +kernel, by decide +kernel, by decide +kernel⟩
theorem xs_NoPlace : XSt (inClass (top 25) 0) "place" [] := ⟨⟨_, _, _, _, _, _, [], [(_, _, _, _)], rfl, rfl, rfl, by decide +kernel⟩, rfl, rfl, rfl, by decide +kernel, by decide +kernel, by decide +kernel, by decide +kernel, by decide +kernel, by decide +kernel, by decide +kernel⟩
theorem xs_NoRow : XSt (inClass (top 26) 0) "row" [] := ⟨⟨_, _, _, _, _, _, [], [(_, _, _, _)], rfl, rfl, rfl, by decide +kernel⟩, rfl, rfl, rfl, by decide +kernel, by decide +kernel, by decide +kernel, by decide +kernel, by decide +kernel, by decide +kernel, by decide +kernel⟩
theorem xs_NoTable : XSt (inClass (top 27) 0) "name" [] := ⟨⟨_, _, _, _, _, _, [], [(_, _, _, _)], rfl, rfl, rfl, by decide +kernel⟩, rfl, rfl, rfl, by decide +kernel, by decide +kernel, by decide +kernel, by decide +kernel, by decide +kernel, by decide +kernel, by decide +kernel⟩
theorem xs_TooMany : XSt (inClass (top 28) 0) "what" ["most"] := ⟨⟨_, _, _, _, _, _, [_], [(_, _, _, _), (_, _, _, _)], rfl, rfl, rfl, by decide +kernel⟩, rfl, rfl, rfl, by decide +kernel, by decide +kernel, by decide +kernel, by decide +kernel, by decide +kernel, by decide +kernel, by decide +kernel⟩
theorem xs_Unlike : XSt (inClass (top 29) 0) "paper" [] := ⟨⟨_, _, _, _, _, _, [], [(_, _, _, _)], rfl, rfl, rfl, by decide +kernel⟩, rfl, rfl, rfl, by decide +kernel, by decide +kernel, by decide +kernel, by decide +kernel, by decide +kernel, by decide +kernel, by decide +kernel⟩
theorem xs_AtRow : XSt (inClass (top 31) 0) "row" [] := ⟨⟨_, _, _, _, _, _, [], [(_, _, _, _)], rfl, rfl, rfl, by decide +kernel⟩, rfl, rfl, rfl, by decide +kernel, by decide +kernel, by decide +kernel, by decide +kernel, by decide +kernel, by decide +kernel, by decide +kernel⟩
end Kx
open PySem PySem.W PyProof.Rows in
set_option maxRecDepth 100000 in
set_option maxHeartbeats 0 in
theorem PySem.Challenge.cw_rowcounts_k01_errors_and_their_fields_holds : PySem.Challenge.rw_rowcounts_k01_errors_and_their_fields.Holds := by
  w_on; o_law; k_head; (case hw => w_witness2)
  k_fill
  refine Dl.walkD (l := PySem.Challenge.rw_rowcounts_k01_errors_and_their_fields) (k := 5) (x := "_law_script") Kx.law_is rfl rfl ⟨rfl, by decide, by decide⟩ (fun w h Y => PySem.W.kIn_of Y) ?F
  case F =>
    intro w mg fa h KX G hmg
    refine' Kx.all_mk KX G hmg ?a1 ?l1 ?c1 ?k1 ?a2 ?l2 ?c2 ?k2 ?a3 ?l3 ?c3 ?k3 ?a4 ?l4 ?c4 ?k4 ?a5 ?l5 ?c5 ?k5 ?a6 ?l6 ?c6 ?k6 ?a7 ?l7 ?c7 ?k7 ?a8 ?l8 ?c8 ?k8 ?a9 ?l9 ?c9 ?k9 ?z_int ?z_len ?z_abs ?z_list ?z_isinstance ?z_range ?z_repr ?z_ValueError ?z_LookupError ?z_AttributeError ?z_ArithmeticError ?z_RuntimeError ?E
    (case a1 => k_is)
    (case l1 => k_is)
    (case c1 => k_is)
    (case k1 => k_is)
    (case a2 => k_is)
    (case l2 => k_is)
    (case c2 => k_is)
    (case k2 => k_is)
    (case a3 => k_is)
    (case l3 => k_is)
    (case c3 => k_is)
    (case k3 => k_is)
    (case a4 => k_is)
    (case l4 => k_is)
    (case c4 => k_is)
    (case k4 => k_is)
    (case a5 => k_is)
    (case l5 => k_is)
    (case c5 => k_is)
    (case k5 => k_is)
    (case a6 => k_is)
    (case l6 => k_is)
    (case c6 => k_is)
    (case k6 => k_is)
    (case a7 => k_is)
    (case l7 => k_is)
    (case c7 => k_is)
    (case k7 => k_is)
    (case a8 => k_is)
    (case l8 => k_is)
    (case c8 => k_is)
    (case k8 => k_is)
    (case a9 => k_is)
    (case l9 => k_is)
    (case c9 => k_is)
    (case k9 => k_is)
    (case z_int => k_is)
    (case z_len => k_is)
    (case z_abs => k_is)
    (case z_list => k_is)
    (case z_isinstance => k_is)
    (case z_range => k_is)
    (case z_repr => k_is)
    (case z_ValueError => k_is)
    (case z_LookupError => k_is)
    (case z_AttributeError => k_is)
    (case z_ArithmeticError => k_is)
    (case z_RuntimeError => k_is)
    have hsup := PySem.W.mg_none_of KX G (n := "super") (by k_is)
    have htp := Dl.tp_of KX (by k_is)
    have A := Dl.all_of KX Kx.tbl Kx.tns Kx.bts (by kernel_rfl)
    refine' { e_BadBag := ?e_BadBag, e_BadBase := ?e_BadBase, e_BadBook := ?e_BadBook, e_BadBounds := ?e_BadBounds, e_BadCounts := ?e_BadCounts, e_BadForm := ?e_BadForm, e_BadLine := ?e_BadLine, e_BadName := ?e_BadName, e_BadNumber := ?e_BadNumber, e_BadPlan := ?e_BadPlan, e_BadQuestion := ?e_BadQuestion, e_BadRewrite := ?e_BadRewrite, e_BadRow := ?e_BadRow, e_BadRule := ?e_BadRule, e_BadStore := ?e_BadStore, e_BadTest := ?e_BadTest, e_BadText := ?e_BadText, e_Breaks := ?e_Breaks, e_NoColumn := ?e_NoColumn, e_NoFit := ?e_NoFit, e_NoPlace := ?e_NoPlace, e_NoRow := ?e_NoRow, e_NoTable := ?e_NoTable, e_TooMany := ?e_TooMany, e_Unlike := ?e_Unlike, e_AtRow := ?e_AtRow, z_CountError := ?z_CountError, z_BadInput := ?z_BadInput, z_Refused := ?z_Refused, z_NoAnswer := ?z_NoAnswer, z_NoDeed := ?z_NoDeed, i_CountError := ?i_CountError, i_BadInput := ?i_BadInput, i_Refused := ?i_Refused, i_NoAnswer := ?i_NoAnswer, i_BadBag := ?i_BadBag, i_BadBase := ?i_BadBase, i_BadBook := ?i_BadBook, i_BadBounds := ?i_BadBounds, i_BadCounts := ?i_BadCounts, i_BadForm := ?i_BadForm, i_BadLine := ?i_BadLine, i_BadName := ?i_BadName, i_BadNumber := ?i_BadNumber, i_BadPlan := ?i_BadPlan, i_BadQuestion := ?i_BadQuestion, i_BadRewrite := ?i_BadRewrite, i_BadRow := ?i_BadRow, i_BadRule := ?i_BadRule, i_BadStore := ?i_BadStore, i_BadTest := ?i_BadTest, i_BadText := ?i_BadText, i_Breaks := ?i_Breaks, i_NoColumn := ?i_NoColumn, i_NoFit := ?i_NoFit, i_NoPlace := ?i_NoPlace, i_NoRow := ?i_NoRow, i_NoTable := ?i_NoTable, i_TooMany := ?i_TooMany, i_Unlike := ?i_Unlike, i_NoDeed := ?i_NoDeed, i_AtRow := ?i_AtRow, i_ValueError := Dl.isV_mk KX G A (by decide), i_any := fun hl => Dl.underB_any KX G A hl }
    (case e_BadBag => refine' Dl.exn_mk KX G hsup htp ?top Kx.xs_BadBag (by decide) ?a ?l0 ?i ?l ?lc ?ld ?b; (case top => kernel_rfl); (case a => k_is); (case l0 => k_is); (case i => k_is); (case l => k_is); (case lc => k_is); (case ld => k_is); (case b => kernel_rfl))
    (case e_BadBase => refine' Dl.exn_mk KX G hsup htp ?top Kx.xs_BadBase (by decide) ?a ?l0 ?i ?l ?lc ?ld ?b; (case top => kernel_rfl); (case a => k_is); (case l0 => k_is); (case i => k_is); (case l => k_is); (case lc => k_is); (case ld => k_is); (case b => kernel_rfl))
    (case e_BadBook => refine' Dl.exn_mk KX G hsup htp ?top Kx.xs_BadBook (by decide) ?a ?l0 ?i ?l ?lc ?ld ?b; (case top => kernel_rfl); (case a => k_is); (case l0 => k_is); (case i => k_is); (case l => k_is); (case lc => k_is); (case ld => k_is); (case b => kernel_rfl))
    (case e_BadBounds => refine' Dl.exn_mk KX G hsup htp ?top Kx.xs_BadBounds (by decide) ?a ?l0 ?i ?l ?lc ?ld ?b; (case top => kernel_rfl); (case a => k_is); (case l0 => k_is); (case i => k_is); (case l => k_is); (case lc => k_is); (case ld => k_is); (case b => kernel_rfl))
    (case e_BadCounts => refine' Dl.exn_mk KX G hsup htp ?top Kx.xs_BadCounts (by decide) ?a ?l0 ?i ?l ?lc ?ld ?b; (case top => kernel_rfl); (case a => k_is); (case l0 => k_is); (case i => k_is); (case l => k_is); (case lc => k_is); (case ld => k_is); (case b => kernel_rfl))
    (case e_BadForm => refine' Dl.exn_mk KX G hsup htp ?top Kx.xs_BadForm (by decide) ?a ?l0 ?i ?l ?lc ?ld ?b; (case top => kernel_rfl); (case a => k_is); (case l0 => k_is); (case i => k_is); (case l => k_is); (case lc => k_is); (case ld => k_is); (case b => kernel_rfl))
    (case e_BadLine => refine' Dl.exn_mk KX G hsup htp ?top Kx.xs_BadLine (by decide) ?a ?l0 ?i ?l ?lc ?ld ?b; (case top => kernel_rfl); (case a => k_is); (case l0 => k_is); (case i => k_is); (case l => k_is); (case lc => k_is); (case ld => k_is); (case b => kernel_rfl))
    (case e_BadName => refine' Dl.exn_mk KX G hsup htp ?top Kx.xs_BadName (by decide) ?a ?l0 ?i ?l ?lc ?ld ?b; (case top => kernel_rfl); (case a => k_is); (case l0 => k_is); (case i => k_is); (case l => k_is); (case lc => k_is); (case ld => k_is); (case b => kernel_rfl))
    (case e_BadNumber => refine' Dl.exn_mk KX G hsup htp ?top Kx.xs_BadNumber (by decide) ?a ?l0 ?i ?l ?lc ?ld ?b; (case top => kernel_rfl); (case a => k_is); (case l0 => k_is); (case i => k_is); (case l => k_is); (case lc => k_is); (case ld => k_is); (case b => kernel_rfl))
    (case e_BadPlan => refine' Dl.exn_mk KX G hsup htp ?top Kx.xs_BadPlan (by decide) ?a ?l0 ?i ?l ?lc ?ld ?b; (case top => kernel_rfl); (case a => k_is); (case l0 => k_is); (case i => k_is); (case l => k_is); (case lc => k_is); (case ld => k_is); (case b => kernel_rfl))
    (case e_BadQuestion => refine' Dl.exn_mk KX G hsup htp ?top Kx.xs_BadQuestion (by decide) ?a ?l0 ?i ?l ?lc ?ld ?b; (case top => kernel_rfl); (case a => k_is); (case l0 => k_is); (case i => k_is); (case l => k_is); (case lc => k_is); (case ld => k_is); (case b => kernel_rfl))
    (case e_BadRewrite => refine' Dl.exn_mk KX G hsup htp ?top Kx.xs_BadRewrite (by decide) ?a ?l0 ?i ?l ?lc ?ld ?b; (case top => kernel_rfl); (case a => k_is); (case l0 => k_is); (case i => k_is); (case l => k_is); (case lc => k_is); (case ld => k_is); (case b => kernel_rfl))
    (case e_BadRow => refine' Dl.exn_mk KX G hsup htp ?top Kx.xs_BadRow (by decide) ?a ?l0 ?i ?l ?lc ?ld ?b; (case top => kernel_rfl); (case a => k_is); (case l0 => k_is); (case i => k_is); (case l => k_is); (case lc => k_is); (case ld => k_is); (case b => kernel_rfl))
    (case e_BadRule => refine' Dl.exn_mk KX G hsup htp ?top Kx.xs_BadRule (by decide) ?a ?l0 ?i ?l ?lc ?ld ?b; (case top => kernel_rfl); (case a => k_is); (case l0 => k_is); (case i => k_is); (case l => k_is); (case lc => k_is); (case ld => k_is); (case b => kernel_rfl))
    (case e_BadStore => refine' Dl.exn_mk KX G hsup htp ?top Kx.xs_BadStore (by decide) ?a ?l0 ?i ?l ?lc ?ld ?b; (case top => kernel_rfl); (case a => k_is); (case l0 => k_is); (case i => k_is); (case l => k_is); (case lc => k_is); (case ld => k_is); (case b => kernel_rfl))
    (case e_BadTest => refine' Dl.exn_mk KX G hsup htp ?top Kx.xs_BadTest (by decide) ?a ?l0 ?i ?l ?lc ?ld ?b; (case top => kernel_rfl); (case a => k_is); (case l0 => k_is); (case i => k_is); (case l => k_is); (case lc => k_is); (case ld => k_is); (case b => kernel_rfl))
    (case e_BadText => refine' Dl.exn_mk KX G hsup htp ?top Kx.xs_BadText (by decide) ?a ?l0 ?i ?l ?lc ?ld ?b; (case top => kernel_rfl); (case a => k_is); (case l0 => k_is); (case i => k_is); (case l => k_is); (case lc => k_is); (case ld => k_is); (case b => kernel_rfl))
    (case e_Breaks => refine' Dl.exn_mk KX G hsup htp ?top Kx.xs_Breaks (by decide) ?a ?l0 ?i ?l ?lc ?ld ?b; (case top => kernel_rfl); (case a => k_is); (case l0 => k_is); (case i => k_is); (case l => k_is); (case lc => k_is); (case ld => k_is); (case b => kernel_rfl))
    (case e_NoColumn => refine' Dl.exn_mk KX G hsup htp ?top Kx.xs_NoColumn (by decide) ?a ?l0 ?i ?l ?lc ?ld ?b; (case top => kernel_rfl); (case a => k_is); (case l0 => k_is); (case i => k_is); (case l => k_is); (case lc => k_is); (case ld => k_is); (case b => kernel_rfl))
    (case e_NoFit => refine' Dl.exn_mk KX G hsup htp ?top Kx.xs_NoFit (by decide) ?a ?l0 ?i ?l ?lc ?ld ?b; (case top => kernel_rfl); (case a => k_is); (case l0 => k_is); (case i => k_is); (case l => k_is); (case lc => k_is); (case ld => k_is); (case b => kernel_rfl))
    (case e_NoPlace => refine' Dl.exn_mk KX G hsup htp ?top Kx.xs_NoPlace (by decide) ?a ?l0 ?i ?l ?lc ?ld ?b; (case top => kernel_rfl); (case a => k_is); (case l0 => k_is); (case i => k_is); (case l => k_is); (case lc => k_is); (case ld => k_is); (case b => kernel_rfl))
    (case e_NoRow => refine' Dl.exn_mk KX G hsup htp ?top Kx.xs_NoRow (by decide) ?a ?l0 ?i ?l ?lc ?ld ?b; (case top => kernel_rfl); (case a => k_is); (case l0 => k_is); (case i => k_is); (case l => k_is); (case lc => k_is); (case ld => k_is); (case b => kernel_rfl))
    (case e_NoTable => refine' Dl.exn_mk KX G hsup htp ?top Kx.xs_NoTable (by decide) ?a ?l0 ?i ?l ?lc ?ld ?b; (case top => kernel_rfl); (case a => k_is); (case l0 => k_is); (case i => k_is); (case l => k_is); (case lc => k_is); (case ld => k_is); (case b => kernel_rfl))
    (case e_TooMany => refine' Dl.exn_mk KX G hsup htp ?top Kx.xs_TooMany (by decide) ?a ?l0 ?i ?l ?lc ?ld ?b; (case top => kernel_rfl); (case a => k_is); (case l0 => k_is); (case i => k_is); (case l => k_is); (case lc => k_is); (case ld => k_is); (case b => kernel_rfl))
    (case e_Unlike => refine' Dl.exn_mk KX G hsup htp ?top Kx.xs_Unlike (by decide) ?a ?l0 ?i ?l ?lc ?ld ?b; (case top => kernel_rfl); (case a => k_is); (case l0 => k_is); (case i => k_is); (case l => k_is); (case lc => k_is); (case ld => k_is); (case b => kernel_rfl))
    (case e_AtRow => refine' Dl.exn_mk KX G hsup htp ?top Kx.xs_AtRow (by decide) ?a ?l0 ?i ?l ?lc ?ld ?b; (case top => kernel_rfl); (case a => k_is); (case l0 => k_is); (case i => k_is); (case l => k_is); (case lc => k_is); (case ld => k_is); (case b => kernel_rfl))
    (case z_CountError => refine' Dl.ex0_mk KX G ?a ?b; (case a => k_is); (case b => kernel_rfl))
    (case z_BadInput => refine' Dl.ex0_mk KX G ?a ?b; (case a => k_is); (case b => kernel_rfl))
    (case z_Refused => refine' Dl.ex0_mk KX G ?a ?b; (case a => k_is); (case b => kernel_rfl))
    (case z_NoAnswer => refine' Dl.ex0_mk KX G ?a ?b; (case a => k_is); (case b => kernel_rfl))
    (case z_NoDeed => refine' Dl.ex0_mk KX G ?a ?b; (case a => k_is); (case b => kernel_rfl))
    (case i_CountError => refine' Dl.isC_mk KX G A (by decide +kernel) ?a; (case a => k_is))
    (case i_BadInput => refine' Dl.isC_mk KX G A (by decide +kernel) ?a; (case a => k_is))
    (case i_Refused => refine' Dl.isC_mk KX G A (by decide +kernel) ?a; (case a => k_is))
    (case i_NoAnswer => refine' Dl.isC_mk KX G A (by decide +kernel) ?a; (case a => k_is))
    (case i_BadBag => refine' Dl.isC_mk KX G A (by decide +kernel) ?a; (case a => k_is))
    (case i_BadBase => refine' Dl.isC_mk KX G A (by decide +kernel) ?a; (case a => k_is))
    (case i_BadBook => refine' Dl.isC_mk KX G A (by decide +kernel) ?a; (case a => k_is))
    (case i_BadBounds => refine' Dl.isC_mk KX G A (by decide +kernel) ?a; (case a => k_is))
    (case i_BadCounts => refine' Dl.isC_mk KX G A (by decide +kernel) ?a; (case a => k_is))
    (case i_BadForm => refine' Dl.isC_mk KX G A (by decide +kernel) ?a; (case a => k_is))
    (case i_BadLine => refine' Dl.isC_mk KX G A (by decide +kernel) ?a; (case a => k_is))
    (case i_BadName => refine' Dl.isC_mk KX G A (by decide +kernel) ?a; (case a => k_is))
    (case i_BadNumber => refine' Dl.isC_mk KX G A (by decide +kernel) ?a; (case a => k_is))
    (case i_BadPlan => refine' Dl.isC_mk KX G A (by decide +kernel) ?a; (case a => k_is))
    (case i_BadQuestion => refine' Dl.isC_mk KX G A (by decide +kernel) ?a; (case a => k_is))
    (case i_BadRewrite => refine' Dl.isC_mk KX G A (by decide +kernel) ?a; (case a => k_is))
    (case i_BadRow => refine' Dl.isC_mk KX G A (by decide +kernel) ?a; (case a => k_is))
    (case i_BadRule => refine' Dl.isC_mk KX G A (by decide +kernel) ?a; (case a => k_is))
    (case i_BadStore => refine' Dl.isC_mk KX G A (by decide +kernel) ?a; (case a => k_is))
    (case i_BadTest => refine' Dl.isC_mk KX G A (by decide +kernel) ?a; (case a => k_is))
    (case i_BadText => refine' Dl.isC_mk KX G A (by decide +kernel) ?a; (case a => k_is))
    (case i_Breaks => refine' Dl.isC_mk KX G A (by decide +kernel) ?a; (case a => k_is))
    (case i_NoColumn => refine' Dl.isC_mk KX G A (by decide +kernel) ?a; (case a => k_is))
    (case i_NoFit => refine' Dl.isC_mk KX G A (by decide +kernel) ?a; (case a => k_is))
    (case i_NoPlace => refine' Dl.isC_mk KX G A (by decide +kernel) ?a; (case a => k_is))
    (case i_NoRow => refine' Dl.isC_mk KX G A (by decide +kernel) ?a; (case a => k_is))
    (case i_NoTable => refine' Dl.isC_mk KX G A (by decide +kernel) ?a; (case a => k_is))
    (case i_TooMany => refine' Dl.isC_mk KX G A (by decide +kernel) ?a; (case a => k_is))
    (case i_Unlike => refine' Dl.isC_mk KX G A (by decide +kernel) ?a; (case a => k_is))
    (case i_NoDeed => refine' Dl.isC_mk KX G A (by decide +kernel) ?a; (case a => k_is))
    (case i_AtRow => refine' Dl.isC_mk KX G A (by decide +kernel) ?a; (case a => k_is))
