import PyProof.Rows.All
import Wide.All
import OpenK.AllK
import Wide.FinOn
import HandS.Base
import HandS.Call
import HandS.List
import HandS.Comp
import HandS.Ends
import HandS.Dict
import HandS.Iter
import HandS.Text
import HandS.Words
import HandS.WordsList
import HandS.Exc
import HandS.TryOnly
import HandS.ExcOwn
import HandS.ExcInit
import HandS.Strs
import HandS.Wide
import HandS.Deep
import HandS.WordsExc
import HandS.IsInst
import PyProof.ReprRoads
import HandS.TupAny
import HandS.Style
import KE.KExcSuper
import KE.KExcIs
import HandS.DictComp
import HandS.OwnEq
import HandS.More
import PyProof.NeKinds
import KE.KExcLine
import PySem.Challenge.RW_flowtells_k00_errors_keep_their_fields
set_option Elab.async false
set_option linter.all false
set_option maxRecDepth 100000
set_option maxHeartbeats 4000000
/-! VL: the value layer: data, the state, the judgements VE, VS. -/
namespace VL
open PySem PySem.Spec PyProof.Rows L2

abbrev St := L2.St
/-- data -/
inductive D where
  | non | bl (b : Bool) | int (i : Int) | str (x : Str)
  | lst (xs : List D) | tup (xs : List D) | lro (xs : List D)
  | dct (ks : List Key) (xs : List D) | dtt (ks : List (List Key)) (xs : List D)
  | set (ns : List Int)
  | ins (C : Addr) (ns : List Str) (xs : List D)
  | exn (x : Str) (ns : List Str) (xs : List D)
  | ref (a : Addr)

/-- what the judgements hang on besides the heap -/
structure Pm where
  K : PySem.W.Frag
  w : World
  mg : Str → Option Value
abbrev pm (X : Cx) : Pm := ⟨X.K, X.w, X.mg⟩
def setS (ns : List Int) : Int → Bool := fun k => decide (k ∈ ns)

mutual
/-- v is the datum, all of it in F -/
inductive Rep (p : Pm) (F : Hp) : V → D → Prop
  | non : Rep p F .non .non
  | bl (b : Bool) : Rep p F (.bl b) (.bl b)
  | int (i : Int) : Rep p F (.int i) (.int i)
  | str (x : Str) : Rep p F (.str x) (.str x)
  | lst {a : Addr} {vs : List V} {xs : List D} : F a = some (.lst vs) → Reps p F vs xs → Rep p F (.ref a) (.lst xs)
  | tup {a : Addr} {vs : List V} {xs : List D} : SqT p.K F a vs → Reps p F vs xs → Rep p F (.ref a) (.tup xs)
  | lro {a : Addr} {vs : List V} {xs : List D} : SqL p.K F a vs → Reps p F vs xs → Rep p F (.ref a) (.lro xs)
  | dct {a : Addr} {ks : List Key} {vs : List V} {xs : List D} : F a = some (.dK (ks.zip vs)) → ks.length = vs.length → Reps p F vs xs → Rep p F (.ref a) (.dct ks xs)
  | dtt {a : Addr} {ks : List (List Key)} {vs : List V} {xs : List D} : F a = some (.dT (ks.zip vs)) → ks.length = vs.length → Reps p F vs xs → Rep p F (.ref a) (.dtt ks xs)
  | set {a : Addr} {ns : List Int} : F a = some (SetO p.w a (setS ns) ns.length) → Rep p F (.ref a) (.set ns)
  | ins {a C dx : Addr} {ns : List Str} {vs : List V} {xs : List D} : F a = some (.ins C dx (ns.zip vs)) → F dx = some (.own a) → ns.length = vs.length → Reps p F vs xs → Rep p F (.ref a) (.ins C ns xs)
  | exn {x : Str} {a C dx : Addr} {ns : List Str} {vs : List V} {xs : List D} : p.mg x = some (.ref C) → F a = some (exo a C (some dx)) → F dx = some (exd dx (ns.zip vs)) → ns.length = vs.length → Reps p F vs xs → Rep p F (.ref a) (.exn x ns xs)
  | ref (a : Addr) : Rep p F (.ref a) (.ref a)
inductive Reps (p : Pm) (F : Hp) : List V → List D → Prop
  | nil : Reps p F [] []
  | cons {v : V} {vs : List V} {x : D} {xs : List D} : Rep p F v x → Reps p F vs xs → Reps p F (v :: vs) (x :: xs)
end

theorem Same.seqT {K : PySem.W.Frag} {H H' : Hp} {a : Addr} {xs : List V} (e : Same H H') (h : SqT K H a xs) : SqT K H' a xs := by
  rcases h with (h | ⟨o, h⟩) | h
  · exact .inl (.inl (e _ _ h))
  · exact .inl (.inr ⟨o, e _ _ h⟩)
  · exact .inr h
section
variable {p : Pm} {F F' H : Hp} {v : V} {vs : List V} {x : D} {xs : List D}
mutual
theorem Rep.mono (e : Same F F') : ∀ {v : V} {x : D}, Rep p F v x → Rep p F' v x
  | _, _, .non => .non
  | _, _, .bl b => .bl b
  | _, _, .int i => .int i
  | _, _, .str z => .str z
  | _, _, .lst h r => .lst (e _ _ h) (Reps.mono e r)
  | _, _, .tup h r => .tup (Same.seqT e h) (Reps.mono e r)
  | _, _, .lro h r => .lro (e.seq h) (Reps.mono e r)
  | _, _, .dct h l r => .dct (e _ _ h) l (Reps.mono e r)
  | _, _, .dtt h l r => .dtt (e _ _ h) l (Reps.mono e r)
  | _, _, .set h => .set (e _ _ h)
  | _, _, .ins h h2 l r => .ins (e _ _ h) (e _ _ h2) l (Reps.mono e r)
  | _, _, .exn g h h2 l r => .exn g (e _ _ h) (e _ _ h2) l (Reps.mono e r)
  | _, _, .ref a => .ref a
theorem Reps.mono (e : Same F F') : ∀ {vs : List V} {xs : List D}, Reps p F vs xs → Reps p F' vs xs
  | _, _, .nil => .nil
  | _, _, .cons h r => .cons (Rep.mono e h) (Reps.mono e r)
end
theorem Reps.length : ∀ {vs : List V} {xs : List D}, Reps p F vs xs → vs.length = xs.length
  | _, _, .nil => rfl
  | _, _, .cons _ r => by simp [Reps.length r]
theorem Reps.app : ∀ {vs ws : List V} {xs ys : List D}, Reps p F vs xs → Reps p F ws ys → Reps p F (vs ++ ws) (xs ++ ys)
  | _, _, _, _, .nil, s => s
  | _, _, _, _, .cons h r, s => .cons h (Reps.app r s)
theorem Reps.get : ∀ {vs : List V} {xs : List D} {i : Nat} {x : D}, Reps p F vs xs → xs[i]? = some x → ∃ v, vs[i]? = some v ∧ Rep p F v x
  | _, _, i, x, .nil, e => by simp at e
  | _, _, 0, x, .cons h r, e => by simp at e; subst e; exact ⟨_, rfl, h⟩
  | _, _, i + 1, x, .cons h r, e => by
    obtain ⟨v, h1, h2⟩ := Reps.get (i := i) (x := x) r (by simpa using e)
    exact ⟨v, by simpa using h1, h2⟩
theorem Reps.getV : ∀ {vs : List V} {xs : List D} {i : Nat} {v : V}, Reps p F vs xs → vs[i]? = some v → ∃ x, xs[i]? = some x ∧ Rep p F v x
  | _, _, i, x, .nil, e => by simp at e
  | _, _, 0, x, .cons h r, e => by simp at e; subst e; exact ⟨_, rfl, h⟩
  | _, _, i + 1, x, .cons h r, e => by
    obtain ⟨v, h1, h2⟩ := Reps.getV (i := i) (v := x) r (by simpa using e)
    exact ⟨v, by simpa using h1, h2⟩
theorem Reps.take : ∀ {vs : List V} {xs : List D} (n : Nat), Reps p F vs xs → Reps p F (vs.take n) (xs.take n)
  | _, _, 0, _ => .nil
  | _, _, _ + 1, .nil => .nil
  | _, _, n + 1, .cons h r => .cons h (Reps.take n r)
theorem Reps.drop : ∀ {vs : List V} {xs : List D} (n : Nat), Reps p F vs xs → Reps p F (vs.drop n) (xs.drop n)
  | _, _, 0, r => r
  | _, _, _ + 1, .nil => .nil
  | _, _, n + 1, .cons h r => Reps.drop n r
theorem Reps.set {v : V} {x : D} (h : Rep p F v x) : ∀ {vs : List V} {xs : List D} (i : Nat), Reps p F vs xs → Reps p F (vs.set i v) (xs.set i x)
  | _, _, _, .nil => .nil
  | _, _, 0, .cons _ r => .cons h r
  | _, _, i + 1, .cons h' r => .cons h' (Reps.set h i r)
theorem Reps.eraseIdx : ∀ {vs : List V} {xs : List D} (i : Nat), Reps p F vs xs → Reps p F (vs.eraseIdx i) (xs.eraseIdx i)
  | _, _, _, .nil => .nil
  | _, _, 0, .cons _ r => r
  | _, _, i + 1, .cons h r => .cons h (Reps.eraseIdx i r)
theorem Reps.rev (h : Reps p F vs xs) : Reps p F vs.reverse xs.reverse := by
  induction vs generalizing xs with
  | nil => cases h; exact .nil
  | cons v vs ih =>
    cases h with
    | cons h r =>
      rw [List.reverse_cons, List.reverse_cons]
      exact Reps.app (ih r) (.cons h .nil)
theorem Reps.rep (h : Reps p F vs xs) : ∀ k : Nat, Reps p F (List.replicate k vs).flatten (List.replicate k xs).flatten
  | 0 => .nil
  | k + 1 => by
    rw [List.replicate_succ, List.replicate_succ, List.flatten_cons, List.flatten_cons]
    exact Reps.app h (Reps.rep h k)
theorem Reps.dropLast (h : Reps p F vs xs) : Reps p F vs.dropLast xs.dropLast := by
  rw [List.dropLast_eq_take, List.dropLast_eq_take, h.length]
  exact Reps.take _ h
theorem Reps.ints : ∀ {vs : List V} {ns : List Int}, Reps p F vs (ns.map D.int) → vs = ns.map V.int
  | [], [], _ => rfl
  | _ :: _, [], h => nomatch h
  | [], _ :: _, h => nomatch h
  | _ :: _, n :: ns, .cons h r => by
    cases h
    rw [Reps.ints r]
    rfl
theorem reps_ints : ∀ ns : List Int, Reps p F (ns.map V.int) (ns.map D.int)
  | [] => .nil
  | n :: ns => .cons (.int n) (reps_ints ns)
end

/-! ### the top of a datum, its parts elsewhere -/
def TopR (p : Pm) (F H : Hp) (R : List V → List D → Prop) (v : V) : D → Prop
  | .non => v = .non
  | .bl b => v = .bl b
  | .int i => v = .int i
  | .str x => v = .str x
  | .lst xs => ∃ a vs, v = .ref a ∧ H a = some (.lst vs) ∧ R vs xs
  | .tup xs => ∃ a vs, v = .ref a ∧ SqT p.K F a vs ∧ R vs xs
  | .lro xs => ∃ a vs, v = .ref a ∧ SqL p.K F a vs ∧ R vs xs
  | .dct ks xs => ∃ a vs, v = .ref a ∧ H a = some (.dK (ks.zip vs)) ∧ ks.length = vs.length ∧ R vs xs
  | .dtt ks xs => ∃ a vs, v = .ref a ∧ H a = some (.dT (ks.zip vs)) ∧ ks.length = vs.length ∧ R vs xs
  | .set ns => ∃ a, v = .ref a ∧ H a = some (SetO p.w a (setS ns) ns.length)
  | .ins C ns xs => ∃ a dx vs, v = .ref a ∧ H a = some (.ins C dx (ns.zip vs)) ∧ H dx = some (.own a) ∧ ns.length = vs.length ∧ R vs xs
  | .exn x ns xs => ∃ a dx vs C, v = .ref a ∧ p.mg x = some (.ref C) ∧ H a = some (exo a C (some dx)) ∧ H dx = some (exd dx (ns.zip vs)) ∧ ns.length = vs.length ∧ R vs xs
  | .ref a => v = .ref a
abbrev Top (p : Pm) (F H : Hp) (v : V) (x : D) : Prop := TopR p F H (Reps p F) v x
section
variable {p : Pm} {F F' H H' : Hp} {v : V} {x : D}
theorem Rep.top (h : Rep p F v x) (e : Same F H) : Top p F H v x := by
  cases h with
  | non => rfl
  | bl b => rfl
  | int i => rfl
  | str z => rfl
  | lst h r => exact ⟨_, _, rfl, e _ _ h, r⟩
  | tup h r => exact ⟨_, _, rfl, h, r⟩
  | lro h r => exact ⟨_, _, rfl, h, r⟩
  | dct h l r => exact ⟨_, _, rfl, e _ _ h, l, r⟩
  | dtt h l r => exact ⟨_, _, rfl, e _ _ h, l, r⟩
  | set h => exact ⟨_, rfl, e _ _ h⟩
  | ins h h2 l r => exact ⟨_, _, _, rfl, e _ _ h, e _ _ h2, l, r⟩
  | exn g h h2 l r => exact ⟨_, _, _, _, rfl, g, e _ _ h, e _ _ h2, l, r⟩
  | ref a => rfl
/-- all of it, at H -/
theorem Top.rep (h : Top p F H v x) (e : Same F H) : Rep p H v x := by
  cases x with
  | non => cases h; exact .non
  | bl b => cases h; exact .bl b
  | int i => cases h; exact .int i
  | str z => cases h; exact .str z
  | lst xs => obtain ⟨a, vs, rfl, h, r⟩ := h; exact .lst h (r.mono e)
  | tup xs => obtain ⟨a, vs, rfl, h, r⟩ := h; exact .tup (Same.seqT e h) (r.mono e)
  | lro xs => obtain ⟨a, vs, rfl, h, r⟩ := h; exact .lro (e.seq h) (r.mono e)
  | dct ks xs => obtain ⟨a, vs, rfl, h, l, r⟩ := h; exact .dct h l (r.mono e)
  | dtt ks xs => obtain ⟨a, vs, rfl, h, l, r⟩ := h; exact .dtt h l (r.mono e)
  | set ns => obtain ⟨a, rfl, h⟩ := h; exact .set h
  | ins C ns xs => obtain ⟨a, dx, vs, rfl, h, h2, l, r⟩ := h; exact .ins h h2 l (r.mono e)
  | exn C ns xs => obtain ⟨a, dx, vs, C', rfl, g, h, h2, l, r⟩ := h; exact .exn g h h2 l (r.mono e)
  | ref a => cases h; exact .ref a
end

/-! ### the state -/
/-- a value: a datum, or a region -/
inductive W where
  | d (x : D) | r (n : Nat)
/-- an object that may be changed; fz: it was let go, and stands still from then on -/
inductive O where
  | fz (x : D)
  | lst (xs : List D)
  | dct (ks : List Key) (xs : List D) | dtt (ks : List (List Key)) (xs : List D)
  | set (ns : List Int)
  | ins (C : Addr) (ns : List Str) (xs : List D)
def O.toD : O → D
  | .fz x => x
  | .lst xs => .lst xs
  | .dct ks xs => .dct ks xs
  | .dtt ks xs => .dtt ks xs
  | .set ns => .set ns
  | .ins C ns xs => .ins C ns xs
structure S where
  vs : List (Option W)
  os : List O
/-- where all that stands: F what stands still, the regions' roots and objects -/
structure Wd where
  F : Hp
  root : Nat → Addr
  own : Nat → Hp
def hp0 : Hp := fun _ => none
abbrev one (a : Addr) (o : HO) : Hp := upd hp0 a o
def RepO (p : Pm) (F : Hp) (a : Addr) (own : Hp) : O → Prop
  | .fz x => (∀ b, own b = none) ∧ Rep p F (.ref a) x
  | .lst xs => ∃ vs, own = one a (.lst vs) ∧ Reps p F vs xs
  | .dct ks xs => ∃ vs, own = one a (.dK (ks.zip vs)) ∧ ks.length = vs.length ∧ Reps p F vs xs
  | .dtt ks xs => ∃ vs, own = one a (.dT (ks.zip vs)) ∧ ks.length = vs.length ∧ Reps p F vs xs
  | .set ns => own = one a (SetO p.w a (setS ns) ns.length)
  | .ins C ns xs => ∃ dx vs, dx ≠ a ∧ own = upd (one a (.ins C dx (ns.zip vs))) dx (.own a) ∧ ns.length = vs.length ∧ Reps p F vs xs
def RepW (p : Pm) (g : Wd) (N : Nat) (v : V) : W → Prop
  | .d x => Rep p g.F v x
  | .r n => n < N ∧ v = .ref (g.root n)
def S.pk (s : S) : W → Option D
  | .d x => some x
  | .r n => (s.os[n]?).map O.toD
/-- the state stands in the heap: U is the callers' -/
structure Cfg (p : Pm) (U : Hp) (g : Wd) (H : Hp) (σ : St) (s : S) : Prop where
  hF : Same g.F H
  hU : Same U H
  hO : ∀ n, n < s.os.length → Same (g.own n) H
  dFU : ∀ a, g.F a ≠ none → U a = none
  dO : ∀ n a, n < s.os.length → g.own n a ≠ none → g.F a = none ∧ U a = none
  dOO : ∀ m n a, m < s.os.length → n < s.os.length → m ≠ n → g.own m a ≠ none → g.own n a = none
  ln : s.vs.length ≤ σ.length
  vs : ∀ (i : Nat) (x : W), s.vs[i]? = some (some x) → ∃ v, σ[i]? = some (some v) ∧ RepW p g s.os.length v x
  os : ∀ (n : Nat) (o : O), s.os[n]? = some o → RepO p g.F (g.root n) (g.own n) o
/-- later -/
structure Le (s s' : S) (g g' : Wd) : Prop where
  F : Same g.F g'.F
  rt : ∀ n, n < s.os.length → g'.root n = g.root n
  len : s.os.length ≤ s'.os.length
theorem Le.refl {s : S} {g : Wd} : Le s s g g := ⟨Same.refl _, fun _ _ => rfl, Nat.le_refl _⟩
theorem Le.trans {s s1 s2 : S} {g g1 g2 : Wd} (a : Le s s1 g g1) (b : Le s1 s2 g1 g2) : Le s s2 g g2 :=
  ⟨a.F.trans b.F, fun n h => (b.rt n (Nat.lt_of_lt_of_le h a.len)).trans (a.rt n h), Nat.le_trans a.len b.len⟩
theorem RepW.le {p : Pm} {s s' : S} {g g' : Wd} {v : V} {x : W} (h : RepW p g s.os.length v x) (l : Le s s' g g') : RepW p g' s'.os.length v x := by
  cases x with
  | d x => exact Rep.mono l.F h
  | r n => exact ⟨Nat.lt_of_lt_of_le h.1 l.len, by rw [l.rt n h.1]; exact h.2⟩
theorem RepO.mono {p : Pm} {F F' : Hp} {a : Addr} {own : Hp} {o : O} (h : RepO p F a own o) (e : Same F F') : RepO p F' a own o := by
  cases o with
  | fz x => exact ⟨h.1, h.2.mono e⟩
  | lst xs => obtain ⟨vs, e1, r⟩ := h; exact ⟨vs, e1, r.mono e⟩
  | dct ks xs => obtain ⟨vs, e1, l, r⟩ := h; exact ⟨vs, e1, l, r.mono e⟩
  | dtt ks xs => obtain ⟨vs, e1, l, r⟩ := h; exact ⟨vs, e1, l, r.mono e⟩
  | set ns => exact h
  | ins C ns xs => obtain ⟨dx, vs, n, e1, l, r⟩ := h; exact ⟨dx, vs, n, e1, l, r.mono e⟩
theorem one_at {a : Addr} {o : HO} : one a o a = some o := upd_same
theorem one_ne {a b : Addr} {o : HO} (h : b ≠ a) : one a o b = none := upd_ne h
theorem one_some {a b : Addr} {o u : HO} (h : one a o b = some u) : b = a ∧ u = o := by
  by_cases e : b = a
  · subst e
    rw [one_at] at h
    exact ⟨rfl, (Option.some.inj h).symm⟩
  · rw [one_ne e] at h
    cases h
section
variable {p : Pm} {U : Hp} {g : Wd} {H : Hp} {σ : St} {s : S} {v : V} {x : W} {d : D}
theorem Cfg.topO (c : Cfg p U g H σ s) {n : Nat} {o : O} (h : s.os[n]? = some o) : Top p g.F H (.ref (g.root n)) o.toD := by
  have hn : n < s.os.length := (List.getElem?_eq_some_iff.mp h).1
  have r := c.os n o h
  have hO := c.hO n hn
  cases o with
  | fz x => exact r.2.top c.hF
  | lst xs => obtain ⟨vs, e1, r⟩ := r; exact ⟨_, vs, rfl, hO _ _ (by rw [e1, one_at]), r⟩
  | dct ks xs => obtain ⟨vs, e1, l, r⟩ := r; exact ⟨_, vs, rfl, hO _ _ (by rw [e1, one_at]), l, r⟩
  | dtt ks xs => obtain ⟨vs, e1, l, r⟩ := r; exact ⟨_, vs, rfl, hO _ _ (by rw [e1, one_at]), l, r⟩
  | set ns => exact ⟨_, rfl, hO _ _ (by rw [show g.own n = _ from r, one_at])⟩
  | ins C ns xs =>
    obtain ⟨dx, vs, nd, e1, l, r⟩ := r
    exact ⟨_, dx, vs, rfl, hO _ _ (by rw [e1, upd_ne nd.symm, one_at]), hO _ _ (by rw [e1, upd_same]), l, r⟩
theorem Cfg.pk (c : Cfg p U g H σ s) (r : RepW p g s.os.length v x) (h : s.pk x = some d) : Top p g.F H v d := by
  cases x with
  | d y => cases h; exact Rep.top r c.hF
  | r n =>
    obtain ⟨hn, rfl⟩ := r
    have e : s.os[n]? = some s.os[n] := List.getElem?_eq_getElem hn
    have h' : (s.os[n]?).map O.toD = some d := h
    rw [e] at h'
    cases h'
    exact c.topO e
/-- what is new is not in F, U, own -/
theorem Cfg.freshF (c : Cfg p U g H σ s) {a : Addr} (n : H a = none) : g.F a = none := c.hF.free n
theorem Cfg.freshU (c : Cfg p U g H σ s) {a : Addr} (n : H a = none) : U a = none := c.hU.free n
theorem Cfg.freshO (c : Cfg p U g H σ s) {a : Addr} {k : Nat} (hk : k < s.os.length) (n : H a = none) : g.own k a = none := (c.hO k hk).free n
end
theorem same_upd {F H : Hp} {a : Addr} {o : HO} (e : Same F H) (n : F a = none) : Same F (upd H a o) := fun b u h => by
  rw [upd_ne (ne_of_none h n)]
  exact e b u h
theorem same_upd2 {F H : Hp} {a : Addr} {o : HO} (e : Same F H) : Same (upd F a o) (upd H a o) := fun b u h => by
  by_cases q : b = a
  · subst q; rw [upd_same] at h ⊢; exact h
  · rw [upd_ne q] at h ⊢; exact e b u h
theorem same_new {F : Hp} {a : Addr} {o : HO} (n : F a = none) : Same F (upd F a o) := same_upd (Same.refl F) n
section
variable {p : Pm} {U : Hp} {g : Wd} {H : Hp} {σ : St} {s : S}
/-- a new object that stands still -/
theorem Cfg.newF (c : Cfg p U g H σ s) {a : Addr} {o : HO} (n : H a = none) : Cfg p U ⟨upd g.F a o, g.root, g.own⟩ (upd H a o) σ s ∧ Le s s g ⟨upd g.F a o, g.root, g.own⟩ := by
  have nF := c.freshF n
  have sF : Same g.F (upd g.F a o) := same_new nF
  refine ⟨⟨same_upd2 c.hF, same_upd c.hU (c.freshU n), fun k hk => same_upd (c.hO k hk) (c.freshO hk n), fun b h => ?_, fun k b hk h => ?_, c.dOO, c.ln, fun i x h => ?_, fun k y h => (c.os k y h).mono sF⟩, ⟨sF, fun _ _ => rfl, Nat.le_refl _⟩⟩
  · by_cases q : b = a
    · subst q; exact c.freshU n
    · exact c.dFU b (by rw [← upd_ne (H := g.F) (o := o) q]; exact h)
  · obtain ⟨h1, h2⟩ := c.dO k b hk h
    have q : b ≠ a := fun q => h (by rw [q]; exact c.freshO hk n)
    exact ⟨by show upd g.F a o b = none; rw [upd_ne q]; exact h1, h2⟩
  · obtain ⟨v, h1, h2⟩ := c.vs i x h
    exact ⟨v, h1, RepW.le (s := s) (s' := s) h2 ⟨sF, fun _ _ => rfl, Nat.le_refl _⟩⟩
/-- the heap grew, nothing of ours -/
theorem Cfg.heap (c : Cfg p U g H σ s) {H' : Hp} (e : Same H H') : Cfg p U g H' σ s :=
  ⟨c.hF.trans e, c.hU.trans e, fun n h => (c.hO n h).trans e, c.dFU, c.dO, c.dOO, c.ln, c.vs, c.os⟩
theorem lt_app {α : Type} {l : List α} {x : α} {k : Nat} (h : k < (l ++ [x]).length) : k < l.length ∨ k = l.length := by
  rw [List.length_append, List.length_singleton] at h
  omega
/-- a new region -/
theorem Cfg.newO (c : Cfg p U g H σ s) {a : Addr} {o : HO} {y : O} (n : H a = none) (r : RepO p g.F a (one a o) y) :
    Cfg p U ⟨g.F, fun k => if k = s.os.length then a else g.root k, fun k => if k = s.os.length then one a o else g.own k⟩ (upd H a o) σ ⟨s.vs, s.os ++ [y]⟩ ∧
    Le s ⟨s.vs, s.os ++ [y]⟩ g ⟨g.F, fun k => if k = s.os.length then a else g.root k, fun k => if k = s.os.length then one a o else g.own k⟩ := by
  have le : Le s ⟨s.vs, s.os ++ [y]⟩ g ⟨g.F, fun k => if k = s.os.length then a else g.root k, fun k => if k = s.os.length then one a o else g.own k⟩ :=
    ⟨Same.refl _, fun k hk => if_neg (Nat.ne_of_lt hk), by rw [List.length_append]; exact Nat.le_add_right _ _⟩
  have old : ∀ {k}, k < s.os.length → (if k = s.os.length then one a o else g.own k) = g.own k := fun hk => if_neg (Nat.ne_of_lt hk)
  refine ⟨⟨same_upd c.hF (c.freshF n), same_upd c.hU (c.freshU n), fun k hk => ?_, c.dFU, fun k b hk h => ?_, fun m k b hm hk hmk h => ?_, c.ln, fun i x h => ?_, fun k u h => ?_⟩, le⟩
  · rcases lt_app hk with hk | hk
    · show Same (if k = s.os.length then one a o else g.own k) _
      rw [old hk]
      exact same_upd (c.hO k hk) (c.freshO hk n)
    · show Same (if k = s.os.length then one a o else g.own k) _
      rw [if_pos hk]
      intro b u h
      obtain ⟨rfl, rfl⟩ := one_some h
      exact upd_same
  · have h' : (if k = s.os.length then one a o else g.own k) b ≠ none := h
    rcases lt_app hk with hk | hk
    · rw [old hk] at h'
      exact c.dO k b hk h'
    · rw [if_pos hk] at h'
      by_cases q : b = a
      · subst q; exact ⟨c.freshF n, c.freshU n⟩
      · exact absurd (one_ne q) h'
  · have h' : (if m = s.os.length then one a o else g.own m) b ≠ none := h
    show (if k = s.os.length then one a o else g.own k) b = none
    rcases lt_app hm with hm | hm
    · rw [old hm] at h'
      rcases lt_app hk with hk | hk
      · rw [old hk]; exact c.dOO m k b hm hk hmk h'
      · rw [if_pos hk]
        refine one_ne fun q => h' ?_
        rw [q]; exact c.freshO hm n
    · rw [if_pos hm] at h'
      rcases lt_app hk with hk | hk
      · rw [old hk]
        by_cases q : b = a
        · rw [q]; exact c.freshO hk n
        · exact absurd (one_ne q) h'
      · exact absurd (hm.trans hk.symm) hmk
  · obtain ⟨v, h1, h2⟩ := c.vs i x h
    exact ⟨v, h1, h2.le le⟩
  · by_cases hk : k < s.os.length
    · have h' : s.os[k]? = some u := by rw [← h]; exact (List.getElem?_append_left hk).symm
      show RepO p g.F (if k = s.os.length then a else g.root k) (if k = s.os.length then one a o else g.own k) u
      rw [old hk, if_neg (Nat.ne_of_lt hk)]
      exact c.os k u h'
    · have hk2 : k < (s.os ++ [y]).length := (List.getElem?_eq_some_iff.mp h).1
      rcases lt_app hk2 with q | q
      · exact absurd q hk
      · subst q
        have h' : (s.os ++ [y])[s.os.length]? = some u := h
        rw [List.getElem?_append_right (Nat.le_refl _), Nat.sub_self] at h'
        cases h'
        show RepO p g.F (if s.os.length = s.os.length then a else _) (if s.os.length = s.os.length then one a o else _) y
        rw [if_pos rfl, if_pos rfl]
        exact r
/-- a region with one object is written; F may have grown meanwhile -/
theorem Cfg.setO (c : Cfg p U g H σ s) {n : Nat} {o : HO} {y : O} (hn : n < s.os.length) (hown : ∃ u, g.own n = one (g.root n) u) (r : RepO p g.F (g.root n) (one (g.root n) o) y) :
    Cfg p U ⟨g.F, g.root, fun k => if k = n then one (g.root n) o else g.own k⟩ (upd H (g.root n) o) σ ⟨s.vs, s.os.set n y⟩ ∧
    Le s ⟨s.vs, s.os.set n y⟩ g ⟨g.F, g.root, fun k => if k = n then one (g.root n) o else g.own k⟩ := by
  obtain ⟨u, hu⟩ := hown
  have le : Le s ⟨s.vs, s.os.set n y⟩ g ⟨g.F, g.root, fun k => if k = n then one (g.root n) o else g.own k⟩ := ⟨Same.refl _, fun k hk => rfl, by rw [List.length_set]; exact Nat.le_refl _⟩
  have at_ : g.own n (g.root n) ≠ none := by rw [hu, one_at]; simp
  obtain ⟨nF, nU⟩ := c.dO n _ hn at_
  have nO : ∀ k, k < s.os.length → k ≠ n → g.own k (g.root n) = none := fun k hk q => c.dOO n k _ hn hk q.symm at_
  have len : ∀ {k}, k < (s.os.set n y).length → k < s.os.length := fun h => by rw [List.length_set] at h; exact h
  refine ⟨⟨same_upd c.hF nF, same_upd c.hU nU, fun k hk => ?_, c.dFU, fun k b hk h => ?_, fun m k b hm hk hmk h => ?_, c.ln, fun i x h => ?_, fun k z h => ?_⟩, le⟩
  · show Same (if k = n then one (g.root n) o else g.own k) _
    by_cases q : k = n
    · rw [if_pos q]
      intro b z h
      obtain ⟨rfl, rfl⟩ := one_some h
      exact upd_same
    · rw [if_neg q]; exact same_upd (c.hO k (len hk)) (nO k (len hk) q)
  · have h' : (if k = n then one (g.root n) o else g.own k) b ≠ none := h
    by_cases q : k = n
    · rw [if_pos q] at h'
      by_cases qb : b = g.root n
      · rw [qb]; exact ⟨nF, nU⟩
      · exact absurd (one_ne qb) h'
    · rw [if_neg q] at h'; exact c.dO k b (len hk) h'
  · have h' : (if m = n then one (g.root n) o else g.own m) b ≠ none := h
    show (if k = n then one (g.root n) o else g.own k) b = none
    by_cases q : m = n
    · rw [if_pos q] at h'
      have qb : b = g.root n := by
        by_cases qb : b = g.root n
        · exact qb
        · exact absurd (one_ne qb) h'
      have qk : k ≠ n := fun e => hmk (q.trans e.symm)
      rw [if_neg qk, qb]
      exact nO k (len hk) qk
    · rw [if_neg q] at h'
      by_cases qk : k = n
      · rw [if_pos qk]
        refine one_ne fun qb => h' ?_
        rw [qb]; exact nO m (len hm) q
      · rw [if_neg qk]; exact c.dOO m k b (len hm) (len hk) hmk h'
  · obtain ⟨v, h1, h2⟩ := c.vs i x h
    exact ⟨v, h1, h2.le le⟩
  · show RepO p g.F (g.root k) (if k = n then one (g.root n) o else g.own k) z
    by_cases q : k = n
    · subst q
      have h' : (s.os.set k y)[k]? = some z := h
      rw [List.getElem?_set_self hn] at h'
      cases h'
      rw [if_pos rfl]
      exact r
    · rw [if_neg q]
      refine c.os k z ?_
      have h' : (s.os.set n y)[k]? = some z := h
      rw [List.getElem?_set_ne (Ne.symm q)] at h'
      exact h'
/-- a region is let go -/
theorem Cfg.letgo (c : Cfg p U g H σ s) {n : Nat} {o : O} (h : s.os[n]? = some o) :
    ∃ g', Cfg p U g' H σ ⟨s.vs, s.os.set n (.fz o.toD)⟩ ∧ Le s ⟨s.vs, s.os.set n (.fz o.toD)⟩ g g' ∧ Rep p g'.F (.ref (g.root n)) o.toD := by
  have hn : n < s.os.length := (List.getElem?_eq_some_iff.mp h).1
  let F' : Hp := fun b => match g.own n b with
    | some u => some u
    | none => g.F b
  have own_none : ∀ {b u}, g.F b = some u → g.own n b = none := fun {b u} e => by
    cases q : g.own n b with
    | none => rfl
    | some z =>
      have := (c.dO n b hn (by rw [q]; simp)).1
      rw [e] at this; cases this
  have sF : Same g.F F' := fun b u e => by
    show (match g.own n b with | some u => some u | none => g.F b) = some u
    rw [own_none e]; exact e
  have sO : Same (g.own n) F' := fun b u e => by
    show (match g.own n b with | some u => some u | none => g.F b) = some u
    rw [e]
  have sH : Same F' H := fun b u e => by
    have e' : (match g.own n b with | some u => some u | none => g.F b) = some u := e
    cases q : g.own n b with
    | none => rw [q] at e'; exact c.hF b u e'
    | some z =>
      rw [q] at e'
      have e2 : z = u := Option.some.inj e'
      rw [← e2]; exact c.hO n hn b z q
  have inF : ∀ {b}, F' b ≠ none → g.own n b ≠ none ∨ g.F b ≠ none := fun {b} e => by
    cases q : g.own n b with
    | none =>
      refine .inr fun z => e ?_
      show (match g.own n b with | some u => some u | none => g.F b) = none
      rw [q]; exact z
    | some z => exact .inl (by simp)
  have rep : Rep p F' (.ref (g.root n)) o.toD := by
    have r := c.os n o h
    cases o with
    | fz x => exact r.2.mono sF
    | lst xs => obtain ⟨vs, e1, r⟩ := r; exact .lst (sO _ _ (by rw [e1, one_at])) (r.mono sF)
    | dct ks xs => obtain ⟨vs, e1, l, r⟩ := r; exact .dct (sO _ _ (by rw [e1, one_at])) l (r.mono sF)
    | dtt ks xs => obtain ⟨vs, e1, l, r⟩ := r; exact .dtt (sO _ _ (by rw [e1, one_at])) l (r.mono sF)
    | set ns => exact .set (sO _ _ (by rw [show g.own n = _ from r, one_at]))
    | ins C ns xs =>
      obtain ⟨dx, vs, nd, e1, l, r⟩ := r
      exact .ins (sO _ _ (by rw [e1, upd_ne nd.symm, one_at])) (sO _ _ (by rw [e1, upd_same])) l (r.mono sF)
  have len : ∀ {k}, k < (s.os.set n (.fz o.toD)).length → k < s.os.length := fun h => by rw [List.length_set] at h; exact h
  have le : Le s ⟨s.vs, s.os.set n (.fz o.toD)⟩ g ⟨F', g.root, fun k => if k = n then hp0 else g.own k⟩ := ⟨sF, fun _ _ => rfl, by rw [List.length_set]; exact Nat.le_refl _⟩
  refine ⟨⟨F', g.root, fun k => if k = n then hp0 else g.own k⟩, ⟨sH, c.hU, fun k hk => ?_, fun b e => ?_, fun k b hk e => ?_, fun m k b hm hk hmk e => ?_, c.ln, fun i x e => ?_, fun k z e => ?_⟩, le, rep⟩
  · show Same (if k = n then hp0 else g.own k) H
    by_cases q : k = n
    · rw [if_pos q]
      exact fun b u e => nomatch (show (none : Option HO) = some u from e)
    · rw [if_neg q]; exact c.hO k (len hk)
  · rcases inF e with e | e
    · exact (c.dO n b hn e).2
    · exact c.dFU b e
  · have e' : (if k = n then hp0 else g.own k) b ≠ none := e
    by_cases q : k = n
    · rw [if_pos q] at e'; exact absurd rfl e'
    · rw [if_neg q] at e'
      refine ⟨?_, (c.dO k b (len hk) e').2⟩
      show (match g.own n b with | some u => some u | none => g.F b) = none
      rw [c.dOO k n b (len hk) hn q e']
      exact (c.dO k b (len hk) e').1
  · have e' : (if m = n then hp0 else g.own m) b ≠ none := e
    show (if k = n then hp0 else g.own k) b = none
    by_cases q : m = n
    · rw [if_pos q] at e'; exact absurd rfl e'
    · rw [if_neg q] at e'
      by_cases qk : k = n
      · rw [if_pos qk]; rfl
      · rw [if_neg qk]; exact c.dOO m k b (len hm) (len hk) hmk e'
  · obtain ⟨v, h1, h2⟩ := c.vs i x e
    exact ⟨v, h1, h2.le le⟩
  · show RepO p F' (g.root k) (if k = n then hp0 else g.own k) z
    by_cases q : k = n
    · subst q
      have e' : (s.os.set k (.fz o.toD))[k]? = some z := e
      rw [List.getElem?_set_self hn] at e'
      cases e'
      rw [if_pos rfl]
      exact ⟨fun _ => rfl, rep⟩
    · rw [if_neg q]
      have e' : (s.os.set n (.fz o.toD))[k]? = some z := e
      rw [List.getElem?_set_ne (Ne.symm q)] at e'
      exact (c.os k z e').mono sF
/-- a slot is stored -/
theorem Cfg.store (c : Cfg p U g H σ s) {i : Nat} {v : V} {x : W} (r : RepW p g s.os.length v x) : Cfg p U g H (σ.set i (some v)) ⟨s.vs.set i (some x), s.os⟩ :=
  ⟨c.hF, c.hU, c.hO, c.dFU, c.dO, c.dOO, by rw [List.length_set, List.length_set]; exact c.ln, fun j y h => by
    have h' : (s.vs.set i (some x))[j]? = some (some y) := h
    by_cases q : j = i
    · subst q
      have hj : j < s.vs.length := by
        have := (List.getElem?_eq_some_iff.mp h').1
        rw [List.length_set] at this; exact this
      rw [List.getElem?_set_self hj] at h'
      cases h'
      exact ⟨v, List.getElem?_set_self (Nat.lt_of_lt_of_le hj c.ln), r⟩
    · rw [List.getElem?_set_ne (Ne.symm q)] at h'
      obtain ⟨u, h1, h2⟩ := c.vs j y h'
      exact ⟨u, by rw [List.getElem?_set_ne (Ne.symm q)]; exact h1, h2⟩, c.os⟩
/-- other slots -/
theorem Cfg.slots (c : Cfg p U g H σ s) {σ' : St} {vs : List (Option W)} (hl : vs.length ≤ σ'.length) (h : ∀ (i : Nat) (x : W), vs[i]? = some (some x) → ∃ v, σ'[i]? = some (some v) ∧ RepW p g s.os.length v x) : Cfg p U g H σ' ⟨vs, s.os⟩ :=
  ⟨c.hF, c.hU, c.hO, c.dFU, c.dO, c.dOO, hl, h, c.os⟩
end
end VL
/-! VL: the judgements, expressions, statements. -/
namespace VL
open PySem PySem.Spec PyProof.Rows L2

/-! ### what a piece of code computes -/
inductive R (α : Type) where
  | ok (a : α) (s : S) | err (C : Addr) (ns : List Str) (xs : List D) (s : S) | no
def R.bind {α β : Type} (r : R α) (f : α → S → R β) : R β := match r with
  | .ok a s => f a s
  | .err C ns xs s => .err C ns xs s
  | .no => .no
def ErrAt (p : Pm) (g : Wd) (H : Hp) (dx : Addr) (ns : List Str) (xs : List D) : Prop := ∃ vs, H dx = some (.xd (ns.zip vs)) ∧ ns.length = vs.length ∧ Reps p g.F vs xs
def Post {α : Type} (p : Pm) (U : Hp) (s : S) (g : Wd) (σ : St) (Wx : WX) (T : Wd → S → Hp → α → Prop) : R α → Prop
  | .ok x s' => ∀ g' H', Le s s' g g' → Cfg p U g' H' σ s' → T g' s' H' x
  | .err C ns xs s' => ∀ g' H' dx, Le s s' g g' → Cfg p U g' H' σ s' → ErrAt p g' H' dx ns xs → Wx (.ref C) (some dx) σ H'
  | .no => False
section
variable {α β : Type} {p : Pm} {U : Hp} {s : S} {g : Wd} {H : Hp} {σ : St} {Wx : WX} {T T' : Wd → S → Hp → α → Prop} {r : R α}
theorem Post.mono (h : Post p U s g σ Wx T r) (k : ∀ g' s' H' x, Le s s' g g' → Cfg p U g' H' σ s' → T g' s' H' x → T' g' s' H' x) : Post p U s g σ Wx T' r := by
  cases r with
  | ok x s' => exact fun g' H' l c => k g' s' H' x l c (h g' H' l c)
  | err C ns xs s' => exact h
  | no => exact h
theorem Post.le {s1 : S} {g1 : Wd} (h : Post p U s g σ Wx T r) (l : Le s s1 g g1) : Post p U s1 g1 σ Wx T r := by
  cases r with
  | ok x s' => exact fun g' H' l' c => h g' H' (l.trans l') c
  | err C ns xs s' => exact fun g' H' dx l' c => h g' H' dx (l.trans l') c
  | no => exact h
theorem Post.seq {k : α → S → R β} {T : Wd → S → Hp → β → Prop} (h : Post p U s g σ Wx T (r.bind k))
    (hk : ∀ g' s' H' x, Le s s' g g' → Cfg p U g' H' σ s' → Post p U s' g' σ Wx T (k x s') → T' g' s' H' x) : Post p U s g σ Wx T' r := by
  cases r with
  | ok x s' => exact fun g' H' l c => hk g' s' H' x l c (Post.le (show Post p U s g σ Wx T (k x s') from h) l)
  | err C ns xs s' => exact h
  | no => exact h
theorem Post.here {x : α} (h : Post p U s g σ Wx T (.ok x s)) (c : Cfg p U g H σ s) : T g s H x := h g H Le.refl c
end
abbrev RWs (p : Pm) (g : Wd) (N : Nat) : List V → List W → Prop := Paired (RepW p g N)
theorem RWs.le {p : Pm} {s s' : S} {g g' : Wd} (l : Le s s' g g') : ∀ {vs : List V} {ws : List W}, RWs p g s.os.length vs ws → RWs p g' s'.os.length vs ws
  | _, _, .nil => .nil
  | _, _, .cons h r => .cons (h.le l) (RWs.le l r)
abbrev TV (p : Pm) (Q : VK) : Wd → S → Hp → W → Prop := fun g s H x => ∀ v, RepW p g s.os.length v x → Q v H
abbrev TL (p : Pm) (Q : List V → Hp → Prop) : Wd → S → Hp → List W → Prop := fun g s H x => ∀ vs, RWs p g s.os.length vs x → Q vs H
abbrev TB (Q : Bool → Hp → Prop) : Wd → S → Hp → Bool → Prop := fun _ _ H x => Q x H
def tV (p : Pm) (Wx : WX) (f : S → R W) : TE := fun σ H Q => ∃ U g s, Cfg p U g H σ s ∧ Post p U s g σ Wx (TV p Q) (f s)
def tL (p : Pm) (Wx : WX) (f : S → R (List W)) : TA := fun σ H Q => ∃ U g s, Cfg p U g H σ s ∧ Post p U s g σ Wx (TL p Q) (f s)
def tT (p : Pm) (Wx : WX) (f : S → R Bool) : TT := fun σ H Q => ∃ U g s, Cfg p U g H σ s ∧ Post p U s g σ Wx (TB Q) (f s)
/-- an expression, an argument list, a test -/
structure VE (X : Cx) (Wx : WX) (e : Expr) (f : S → R W) : Prop where
  pe : PE X e (tV (pm X) Wx f)
structure VA (X : Cx) (Wx : WX) (es : List Expr) (f : S → R (List W)) : Prop where
  pa : PA X es (tL (pm X) Wx f)
structure VT (X : Cx) (Wx : WX) (e : Expr) (f : S → R Bool) : Prop where
  pt : PT X e (tT (pm X) Wx f)
section
variable {X : Cx} {e : Expr} {es : List Expr}
theorem PE.weak {t t' : TE} (h : PE X e t) (w : ∀ σ H Q, t' σ H Q → t σ H Q) : PE X e t' := ⟨fun pins s σ H Q I q => h.run pins s σ H Q I (w _ _ _ q)⟩
theorem PT.weak {t t' : TT} (h : PT X e t) (w : ∀ σ H Q, t' σ H Q → t σ H Q) : PT X e t' := ⟨fun pins s σ H Q I q => h.run pins s σ H Q I (w _ _ _ q)⟩
theorem PA.weak {t t' : TA} (h : PA X es t) (w : ∀ σ H Q, t' σ H Q → t σ H Q) : PA X es t' := ⟨fun pos pins s σ H Q I q => h.run pos pins s σ H Q I (w _ _ _ q)⟩
end

/-! ### names, constants -/
def mVar (i : Nat) (s : S) : R W := match s.vs[i]? with
  | some (some x) => .ok x s
  | _ => .no
def mC (d : D) (s : S) : R W := .ok (.d d) s
/-- the value, let go if it was a region -/
def S.fr (s : S) : W → R W
  | .d x => .ok (.d x) s
  | .r n => match s.os[n]? with
    | some o => .ok (.d o.toD) ⟨s.vs, s.os.set n (.fz o.toD)⟩
    | none => .no
def mFz (f : S → R W) (s : S) : R W := (f s).bind fun x s1 => s1.fr x
section
variable {X : Cx} {Wx : WX} {e : Expr} {f : S → R W} {pos : Pos}
theorem ve_pe (h : PE X e (tVar i)) : VE X Wx e (mVar i) := ⟨PE.weak h fun σ H Q ⟨U, g, s, c, q⟩ => by
  cases hx : s.vs[i]? with
  | none => simp only [mVar, hx] at q; exact q.elim
  | some o =>
    cases o with
    | none => simp only [mVar, hx] at q; exact q.elim
    | some x =>
      simp only [mVar, hx] at q
      obtain ⟨v, h1, h2⟩ := c.vs i x hx
      exact ⟨v, h1, q.here c v h2⟩⟩
theorem ve_var (i : Nat) {x : Str} (hN : X.N[i]? = some x := by rfl) (hv : Vis X.env.scope x := by first | exact Or.inl rfl | exact Or.inr (Or.inl rfl) | exact Or.inr (Or.inr rfl)) (hd : (x == ("__debug__" : Str)) = false := by decide)
    (hcd : (x == ("__classdict__" : Str)) = false := by decide) : VE X Wx (.Name x pos) (mVar i) := ve_pe (pe_var hN hv hd hcd)
theorem ve_c {v : V} {d : D} (h : PE X e (tC v)) (r : ∀ F, Rep (pm X) F v d) : VE X Wx e (mC d) := ⟨PE.weak h fun σ H Q ⟨U, g, s, c, q⟩ => q.here c v (r g.F)⟩
theorem ve_int {i : Int} {j} : VE X Wx (.Constant (.int i) j pos) (mC (.int i)) := ve_c pe_int fun _ => .int i
theorem ve_bl {b : Bool} {j} : VE X Wx (.Constant (.bool b) j pos) (mC (.bl b)) := ve_c pe_bl fun _ => .bl b
theorem ve_non {j} : VE X Wx (.Constant .none j pos) (mC .non) := ve_c pe_non fun _ => .non
theorem ve_str {x : Str} {j} : VE X Wx (.Constant (.str x) j pos) (mC (.str x)) := ve_c pe_str fun _ => .str x
theorem ve_fz (h : VE X Wx e f) : VE X Wx e (mFz f) := ⟨PE.weak h.pe fun σ H Q ⟨U, g, s, c, q⟩ => ⟨U, g, s, c, Post.seq q fun g' s' H' x l c' q' v r => by
  cases x with
  | d x => exact q'.here c' v r
  | r n =>
    cases ho : s'.os[n]? with
    | none => simp only [S.fr, ho] at q'; exact q'.elim
    | some o =>
      simp only [S.fr, ho] at q'
      obtain ⟨g2, c2, l2, r2⟩ := c'.letgo ho
      have e : v = V.ref (g'.root n) := r.2
      subst e
      exact q' g2 H' l2 c2 _ r2⟩⟩
end

/-! ### operators -/
/-- what an operation by values gives: a datum, or a new object -/
inductive Z where
  | v (d : D) | n (o : O)
/-- the new object is let go (false), or is a region (true) -/
def S.put (s : S) (rg : Bool) : Z → R W
  | .v d => .ok (.d d) s
  | .n o => if rg then .ok (.r s.os.length) ⟨s.vs, s.os ++ [o]⟩ else .ok (.d o.toD) s
def S.puts (s : S) (rg : Bool) : Option Z → R W
  | some z => s.put rg z
  | none => .no
/-- what a rule by values has to bring about -/
def Want (p : Pm) (U : Hp) (g : Wd) (H : Hp) (σ : St) (s : S) (Q : VK) : Z → Prop
  | .v d => ∀ g' H' v, Le s s g g' → Cfg p U g' H' σ s → Rep p g'.F v d → Q v H'
  | .n o => ∀ a ho, H a = none → RepO p g.F a (one a ho) o → Q (.ref a) (upd H a ho)
theorem RepO.rep {p : Pm} {F : Hp} {a : Addr} {ho : HO} {o : O} (n : F a = none) (r : RepO p F a (one a ho) o) : Rep p (upd F a ho) (.ref a) o.toD := by
  have sF : Same F (upd F a ho) := same_new n
  have at_ : ∀ {u : HO}, one a ho = one a u → (upd F a ho) a = some u := fun {u} e => by
    have e2 := congrFun e a
    rw [one_at, one_at] at e2
    rw [upd_same]; exact e2
  cases o with
  | fz x => exact absurd (r.1 a) (by rw [one_at]; simp)
  | lst xs => obtain ⟨vs, e1, r⟩ := r; exact .lst (at_ e1) (r.mono sF)
  | dct ks xs => obtain ⟨vs, e1, l, r⟩ := r; exact .dct (at_ e1) l (r.mono sF)
  | dtt ks xs => obtain ⟨vs, e1, l, r⟩ := r; exact .dtt (at_ e1) l (r.mono sF)
  | set ns => exact .set (at_ r)
  | ins C ns xs =>
    obtain ⟨dx, vs, nd, e1, l, r⟩ := r
    have e2 := congrFun e1 dx
    rw [one_ne nd, upd_same] at e2
    cases e2
theorem want_put {X : Cx} {Wx : WX} {U : Hp} {g : Wd} {H : Hp} {σ : St} {s : S} {Q : VK} {rg : Bool} {z : Z} (c : Cfg (pm X) U g H σ s) (q : Post (pm X) U s g σ Wx (TV (pm X) Q) (s.put rg z)) : Want (pm X) U g H σ s Q z := by
  cases z with
  | v d => exact fun g' H' v l c' r => q g' H' l c' v r
  | n o =>
    intro a ho n r
    cases rg with
    | false =>
      obtain ⟨c', l'⟩ := c.newF (o := ho) n
      exact q _ _ l' c' _ (r.rep (c.freshF n))
    | true =>
      obtain ⟨c', l'⟩ := c.newO n r
      refine q _ _ l' c' _ ⟨?_, ?_⟩
      · show s.os.length < (s.os ++ [o]).length
        rw [List.length_append]; exact Nat.lt_succ_self _
      · show V.ref a = V.ref (if s.os.length = s.os.length then a else _)
        rw [if_pos rfl]
theorem want_puts {X : Cx} {Wx : WX} {U : Hp} {g : Wd} {H : Hp} {σ : St} {s : S} {Q : VK} {rg : Bool} {z : Option Z} (c : Cfg (pm X) U g H σ s) (q : Post (pm X) U s g σ Wx (TV (pm X) Q) (s.puts rg z)) : ∃ z', z = some z' ∧ Want (pm X) U g H σ s Q z' := by
  cases z with
  | none => exact q.elim
  | some z => exact ⟨z, rfl, want_put c q⟩
/-- an operator by values -/
def BinR (X : Cx) (r : R2) (op : D → D → Option Z) : Prop :=
  ∀ (U : Hp) (g : Wd) (H : Hp) (σ : St) (s : S) (x y : V) (a b : D) (z : Z) (Q : VK), Cfg (pm X) U g H σ s → Top (pm X) g.F H x a → Top (pm X) g.F H y b → op a b = some z → Want (pm X) U g H σ s Q z → r x y H Q
def UnaR (X : Cx) (r : V → Hp → VK → Prop) (op : D → Option Z) : Prop :=
  ∀ (U : Hp) (g : Wd) (H : Hp) (σ : St) (s : S) (x : V) (a : D) (z : Z) (Q : VK), Cfg (pm X) U g H σ s → Top (pm X) g.F H x a → op a = some z → Want (pm X) U g H σ s Q z → r x H Q
def op2 (rg : Bool) (op : D → D → Option Z) (s : S) (x y : W) : R W := match s.pk x, s.pk y with
  | some a, some b => s.puts rg (op a b)
  | _, _ => .no
def op1 (rg : Bool) (op : D → Option Z) (s : S) (x : W) : R W := match s.pk x with
  | some a => s.puts rg (op a)
  | _ => .no
def mOp (rg : Bool) (op : D → D → Option Z) (f1 f2 : S → R W) (s : S) : R W := (f1 s).bind fun x s1 => (f2 s1).bind fun y s2 => op2 rg op s2 x y
def mUn (rg : Bool) (op : D → Option Z) (f1 : S → R W) (s : S) : R W := (f1 s).bind fun x s1 => op1 rg op s1 x
section
variable {X : Cx} {Wx : WX} {a b e : Expr} {f f1 f2 : S → R W} {pos : Pos} {op : D → D → Option Z} {r : R2} {rg : Bool}
theorem op2_use {U : Hp} {g : Wd} {H : Hp} {σ : St} {s : S} {x y : V} {wx wy : W} {Q : VK} (hb : BinR X r op) (c : Cfg (pm X) U g H σ s) (rx : RepW (pm X) g s.os.length x wx) (ry : RepW (pm X) g s.os.length y wy)
    (q : Post (pm X) U s g σ Wx (TV (pm X) Q) (op2 rg op s wx wy)) : r x y H Q := by
  unfold op2 at q
  split at q
  · rename_i u w e1 e2
    obtain ⟨z, e3, q⟩ := want_puts c q
    exact hb U g H σ s x y u w z Q c (c.pk rx e1) (c.pk ry e2) e3 q
  · exact q.elim
theorem op1_use {r : V → Hp → VK → Prop} {op : D → Option Z} {U : Hp} {g : Wd} {H : Hp} {σ : St} {s : S} {x : V} {wx : W} {Q : VK} (hb : UnaR X r op) (c : Cfg (pm X) U g H σ s) (rx : RepW (pm X) g s.os.length x wx)
    (q : Post (pm X) U s g σ Wx (TV (pm X) Q) (op1 rg op s wx)) : r x H Q := by
  unfold op1 at q
  split at q
  · rename_i u e1
    obtain ⟨z, e3, q⟩ := want_puts c q
    exact hb U g H σ s x u z Q c (c.pk rx e1) e3 q
  · exact q.elim
theorem two_use (hb : BinR X r op) {σ : St} {H : Hp} {Q : VK} (h : tV (pm X) Wx (mOp rg op f1 f2) σ H Q) : tOp r (tV (pm X) Wx f1) (tV (pm X) Wx f2) σ H Q := by
  obtain ⟨U, g, s, c, q⟩ := h
  refine ⟨U, g, s, c, Post.seq q fun g1 s1 H1 x l1 c1 q1 v rv => ?_⟩
  refine ⟨U, g1, s1, c1, Post.seq q1 fun g2 s2 H2 y l2 c2 q2 w rw => ?_⟩
  exact op2_use hb c2 (rv.le l2) rw q2
theorem ve_op {o : Operator} (ho : OpR X (binaryOp o) r) (hb : BinR X r op) (h1 : VE X Wx a f1) (h2 : VE X Wx b f2) : VE X Wx (.BinOp a o b pos) (mOp rg op f1 f2) :=
  ⟨PE.weak (pe_op ho h1.pe h2.pe) fun _ _ _ h => two_use hb h⟩
theorem ve_cmp {o : CmpOp} (ho : OpR X (compareOp o) r) (hb : BinR X r op) (h1 : VE X Wx a f1) (h2 : VE X Wx b f2) (hm : behindInMarks o b = false) : VE X Wx (.Compare a [o] [b] pos) (mOp false op f1 f2) :=
  ⟨PE.weak (pe_cmpR ho h1.pe h2.pe hm) fun _ _ _ h => two_use hb h⟩
theorem ve_un {o : UnaryOp} {r : V → Hp → VK → Prop} {op : D → Option Z} (ho : UnR X (unaryOp o) r) (hb : UnaR X r op) (h1 : VE X Wx a f1) : VE X Wx (.UnaryOp o a pos) (mUn rg op f1) :=
  ⟨PE.weak (pe_un ho h1.pe) fun σ H Q ⟨U, g, s, c, q⟩ => ⟨U, g, s, c, Post.seq q fun g1 s1 H1 x l1 c1 q1 v rv => op1_use hb c1 rv q1⟩⟩
/-- o[i], i no slice -/
theorem ve_ix (hr : IxR X r) (hb : BinR X r op) (h1 : VE X Wx a f1) (h2 : VE X Wx b f2) (hs : PlainIx b) : VE X Wx (.Subscript a b pos) (mOp false op f1 f2) :=
  ⟨PE.weak (pe_ix hr h1.pe h2.pe hs) fun _ _ _ h => two_use hb h⟩
end

/-! ### sizes -/
def okMul (i j : Int) : Bool := decide ((-(2 ^ 64) < i ∧ i < 2 ^ 64) ∨ (-(2 ^ 64) < j ∧ j < 2 ^ 64) ∨ i.natAbs.log2 + j.natAbs.log2 < 1000000)
def okDiv (j : Int) : Bool := decide ((j ≠ 0 ∧ j.natAbs < 1073741824) ∨ (0 < j ∧ j.natAbs.log2 < 9000))
def okPow (i j : Int) : Bool := decide (0 ≤ j ∧ j ≤ 1000000 ∧ i.natAbs < 2 ^ 64)
abbrev fits (n : Nat) : Bool := decide (n ≤ sizeLine)
theorem okMul_l {i j : Int} (h1 : -(2 ^ 64) < i) (h2 : i < 2 ^ 64) : okMul i j = true := decide_eq_true (.inl ⟨h1, h2⟩)
theorem okMul_r {i j : Int} (h1 : -(2 ^ 64) < j) (h2 : j < 2 ^ 64) : okMul i j = true := decide_eq_true (.inr (.inl ⟨h1, h2⟩))
theorem okDiv_s {j : Int} (h1 : 0 < j) (h2 : j < 1073741824) : okDiv j = true := decide_eq_true (.inl ⟨by omega, by omega⟩)
theorem okPow_s {i j : Int} (h0 : 0 ≤ j) (h1 : j ≤ 1000000) (h2 : 0 ≤ i) (h3 : i < 2 ^ 64) : okPow i j = true := decide_eq_true ⟨h0, h1, by omega⟩

/-! ### arithmetic by values -/
def b2z (b : Bool) : Int := if b then 1 else 0
def zi (i : Int) : Option Z := some (.v (.int i))
def zb (b : Bool) : Option Z := some (.v (.bl b))
def dAdd : D → D → Option Z
  | .int i, .int j => zi (i + j)
  | .str x, .str y => if fits (x.length + y.length) then some (.v (.str (x ++ y))) else none
  | .lst x, .lst y => if fits (x.length + y.length) then some (.n (.lst (x ++ y))) else none
  | _, _ => none
def dSub : D → D → Option Z
  | .int i, .int j => zi (i - j)
  | _, _ => none
def dMul : D → D → Option Z
  | .int i, .int j => if okMul i j then zi (i * j) else none
  | .lst x, .int k => if -(2 ^ 63) ≤ k ∧ k < 2 ^ 63 ∧ fits (x.length * k.toNat) then some (.n (.lst (List.replicate k.toNat x).flatten)) else none
  | _, _ => none
def dDiv : D → D → Option Z
  | .int i, .int j => if okDiv j then zi (i.fdiv j) else none
  | _, _ => none
def dMod : D → D → Option Z
  | .int i, .int j => if j = 0 then none else zi (i.fmod j)
  | _, _ => none
def dPow : D → D → Option Z
  | .int i, .int j => if okPow i j then zi (i ^ j.toNat) else none
  | _, _ => none
def dNeg : D → Option Z
  | .int i => zi (-i)
  | _ => none
section
variable {X : Cx}
theorem OpR.or3 {f : Value → Value → Sem Value} {r1 r2 r3 : R2} (h1 : OpR X f r1) (h2 : OpR X f r2) (h3 : OpR X f r3) : OpR X f (fun x y H Q => r1 x y H Q ∨ r2 x y H Q ∨ r3 x y H Q) := OpR.or h1 (OpR.or h2 h3)
theorem wi {p : Pm} {U : Hp} {g : Wd} {H : Hp} {σ : St} {s : S} {Q : VK} {z : Z} {i : Int} (c : Cfg p U g H σ s) (q : Want p U g H σ s Q z) (e : zi i = some z) : Q (.int i) H := by
  cases e; exact q g H _ Le.refl c (.int _)
theorem wb {p : Pm} {U : Hp} {g : Wd} {H : Hp} {σ : St} {s : S} {Q : VK} {z : Z} {b : Bool} (c : Cfg p U g H σ s) (q : Want p U g H σ s Q z) (e : zb b = some z) : Q (.bl b) H := by
  cases e; exact q g H _ Le.refl c (.bl _)
def rStrA : R2 := fun x y H Q => ∃ i j, x = .str i ∧ y = .str j ∧ i.length + j.length ≤ sizeLine ∧ Q (.str (i ++ j)) H
def rAddA : R2 := fun x y H Q => rI0 (fun i j => .int (i + j)) x y H Q ∨ rStrA x y H Q ∨ rCat x y H Q
theorem op_addA : OpR X (binaryOp .Add) rAddA := OpR.or3 op_add op_add_str op_cat
theorem br_add : BinR X rAddA dAdd := by
  intro U g H σ s x y a b z Q c ta tb e q
  unfold dAdd at e
  split at e
  · cases ta; cases tb
    exact .inl ⟨_, _, rfl, rfl, wi c q e⟩
  · cases ta; cases tb
    split at e
    · rename_i hf
      cases e
      exact .inr (.inl ⟨_, _, rfl, rfl, of_decide_eq_true hf, q g H _ Le.refl c (.str _)⟩)
    · cases e
  · obtain ⟨l, vs, rfl, h1, r1⟩ := ta
    obtain ⟨m, ws, rfl, h2, r2⟩ := tb
    split at e
    · rename_i hf
      cases e
      exact .inr (.inr ⟨l, m, vs, ws, rfl, rfl, h1, h2, by rw [r1.length, r2.length]; exact of_decide_eq_true hf, fun pa hn => q pa _ hn ⟨_, rfl, r1.app r2⟩⟩)
    · cases e
  · cases e
theorem br_sub : BinR X (rI0 fun i j => .int (i - j)) dSub := by
  intro U g H σ s x y a b d Q c ta tb e q
  unfold dSub at e
  split at e
  · cases ta; cases tb
    exact ⟨_, _, rfl, rfl, wi c q e⟩
  · cases e
def rMulA : R2 := fun x y H Q => rI CMul (fun i j => .int (i * j)) x y H Q ∨ rI CMulW (fun i j => .int (i * j)) x y H Q ∨ rRep x y H Q
theorem op_mulA : OpR X (binaryOp .Mult) rMulA := OpR.or3 op_mul op_mulW op_rep
theorem br_mul : BinR X rMulA dMul := by
  intro U g H σ s x y a b d Q c ta tb e q
  unfold dMul at e
  split at e
  · cases ta; cases tb
    split at e
    · rename_i hf
      rcases of_decide_eq_true hf with h | h | h
      · exact .inl ⟨_, _, rfl, rfl, .inl h, wi c q e⟩
      · exact .inl ⟨_, _, rfl, rfl, .inr h, wi c q e⟩
      · exact .inr (.inl ⟨_, _, rfl, rfl, h, wi c q e⟩)
    · cases e
  · obtain ⟨l, vs, rfl, h1, r1⟩ := ta
    cases tb
    split at e
    · rename_i hf
      cases e
      exact .inr (.inr ⟨l, _, vs, rfl, rfl, h1, hf.1, hf.2.1, by rw [r1.length]; exact of_decide_eq_true hf.2.2, fun pa hn => q pa _ hn ⟨_, rfl, r1.rep _⟩⟩)
    · cases e
  · cases e
def rDivA : R2 := fun x y H Q => rI CDivN (fun i j => .int (i.fdiv j)) x y H Q ∨ rI CDivW (fun i j => .int (i / j)) x y H Q
theorem op_divA : OpR X (binaryOp .FloorDiv) rDivA := OpR.or op_fdivN op_fdivW
theorem br_div : BinR X rDivA dDiv := by
  intro U g H σ s x y a b d Q c ta tb e q
  unfold dDiv at e
  split at e
  · cases ta; cases tb
    split at e
    · rename_i i j hf
      rcases of_decide_eq_true hf with h | h
      · exact .inl ⟨_, _, rfl, rfl, h, wi c q e⟩
      · refine .inr ⟨_, _, rfl, rfl, h, ?_⟩
        show Q (V.int (i / j)) H
        rw [← Int.fdiv_eq_ediv_of_nonneg _ (Int.le_of_lt h.1)]
        exact wi c q e
    · cases e
  · cases e
theorem br_mod : BinR X (rI (fun _ j => j ≠ 0) fun i j => .int (i.fmod j)) dMod := by
  intro U g H σ s x y a b d Q c ta tb e q
  unfold dMod at e
  split at e
  · cases ta; cases tb
    split at e
    · cases e
    · rename_i hf
      exact ⟨_, _, rfl, rfl, hf, wi c q e⟩
  · cases e
theorem br_pow : BinR X (rI CPow fun i j => .int (i ^ j.toNat)) dPow := by
  intro U g H σ s x y a b d Q c ta tb e q
  unfold dPow at e
  split at e
  · cases ta; cases tb
    split at e
    · rename_i hf
      unfold okPow at hf
      have h := of_decide_eq_true hf
      exact ⟨_, _, rfl, rfl, h, wi c q e⟩
    · cases e
  · cases e
theorem ur_neg : UnaR X (rU fun i => .int (-i)) dNeg := by
  intro U g H σ s x a d Q c ta e q
  unfold dNeg at e
  split at e
  · cases ta
    exact ⟨_, rfl, wi c q e⟩
  · cases e
end

/-! ### comparisons by values -/
mutual
def D.py : D → Option PyData
  | .non => some .none
  | .bl b => some (.bool b)
  | .int i => some (.int i)
  | .str x => some (.str x)
  | .lst xs => (pys xs).map PyData.list
  | .lro xs => (pys xs).map PyData.list
  | .tup xs => (pys xs).map PyData.tuple
  | _ => none
def pys : List D → Option (List PyData)
  | [] => some []
  | x :: xs => x.py.bind fun d => (pys xs).map fun ds => d :: ds
end
section
variable {p : Pm} {F : Hp}
mutual
theorem Rep.dp : ∀ {v : V} {x : D} {d : PyData}, Rep p F v x → x.py = some d → Dp p.K F v d
  | _, _, _, .non, e => by cases e; exact .non
  | _, _, _, .bl b, e => by cases e; exact .bl b
  | _, _, _, .int b, e => by cases e; exact .int b
  | _, _, _, .str b, e => by cases e; exact .str b
  | _, _, _, .lst (xs := xs) h r, e => by
    simp only [D.py] at e
    cases q : pys xs with
    | none => rw [q] at e; cases e
    | some ds => rw [q] at e; cases e; exact .lst (SqL.of h) (Reps.dp r q)
  | _, _, _, .lro (xs := xs) h r, e => by
    simp only [D.py] at e
    cases q : pys xs with
    | none => rw [q] at e; cases e
    | some ds => rw [q] at e; cases e; exact .lst h (Reps.dp r q)
  | _, _, _, .tup (xs := xs) h r, e => by
    simp only [D.py] at e
    cases q : pys xs with
    | none => rw [q] at e; cases e
    | some ds => rw [q] at e; cases e; exact .tup h (Reps.dp r q)
  | _, _, _, .dct _ _ _, e => by cases e
  | _, _, _, .dtt _ _ _, e => by cases e
  | _, _, _, .set _, e => by cases e
  | _, _, _, .ins _ _ _ _, e => by cases e
  | _, _, _, .exn _ _ _ _ _, e => by cases e
  | _, _, _, .ref _, e => by cases e
theorem Reps.dp : ∀ {vs : List V} {xs : List D} {ds : List PyData}, Reps p F vs xs → pys xs = some ds → DpAll p.K F vs ds
  | _, _, _, .nil, e => by cases e; exact .nil
  | _, _, _, .cons (x := x) (xs := xs) h r, e => by
    simp only [pys] at e
    cases q : x.py with
    | none => rw [q] at e; cases e
    | some d =>
      cases q2 : pys xs with
      | none => rw [q, q2] at e; cases e
      | some ds => rw [q, q2] at e; cases e; exact .cons (Rep.dp h q) (Reps.dp r q2)
end
end
def dEqB (a b : D) : Option Bool := match a.py, b.py with
  | some x, some y => if SeqAt.shaped x && SeqAt.shaped y then some (PyData.eqv x y) else none
  | _, _ => none
def dEq (a b : D) : Option Z := (dEqB a b).bind zb
def dNe (a b : D) : Option Z := (dEqB a b).bind fun k => zb (!k)
def dCmp (p : Int → Int → Bool) : D → D → Option Z
  | .int i, .int j => zb (p i j)
  | _, _ => none
abbrev dLt := dCmp fun i j => decide (i < j)
abbrev dLe := dCmp fun i j => decide (i ≤ j)
abbrev dGt := dCmp fun i j => decide (j < i)
abbrev dGe := dCmp fun i j => decide (j ≤ i)
def D.isNon : D → Bool
  | .non => true
  | _ => false
def dIs (a b : D) : Option Z := if b.isNon then zb a.isNon else none
def dIsNot (a b : D) : Option Z := if b.isNon then zb (!a.isNon) else none
def dInB (a b : D) : Option Bool := match b with
  | .lst ys => match a.py, pys ys with
    | some x, some zs => if SeqAt.shaped x && SeqAt.shaped (.list zs) then some (zs.any fun z => PyData.eqv z x) else none
    | _, _ => none
  | .set ns => match a with
    | .int k => some (decide (k ∈ ns))
    | _ => none
  | _ => none
def dIn (a b : D) : Option Z := (dInB a b).bind zb
def dNotIn (a b : D) : Option Z := (dInB a b).bind fun k => zb (!k)
section
variable {X : Cx}
theorem eqB_use {X : Cx} {U : Hp} {g : Wd} {H : Hp} {σ : St} {s : S} {x y : V} {a b : D} {k : Bool} (c : Cfg (pm X) U g H σ s) (ta : Top (pm X) g.F H x a) (tb : Top (pm X) g.F H y b) (e : dEqB a b = some k) :
    ∃ d e, Dp X.K H x d ∧ Dp X.K H y e ∧ SeqAt.shaped d = true ∧ SeqAt.shaped e = true ∧ k = PyData.eqv d e := by
  unfold dEqB at e
  split at e
  · rename_i u w e1 e2
    split at e
    · rename_i hs
      rw [Bool.and_eq_true] at hs
      exact ⟨u, w, (ta.rep c.hF).dp e1, (tb.rep c.hF).dp e2, hs.1, hs.2, (Option.some.inj e).symm⟩
    · cases e
  · cases e
theorem br_eq : BinR X (rEqD X.K) dEq := by
  intro U g H σ s x y a b d Q c ta tb e q
  unfold dEq at e
  cases h : dEqB a b with
  | none => rw [h] at e; cases e
  | some k =>
    rw [h] at e
    obtain ⟨u, w, h1, h2, h3, h4, rfl⟩ := eqB_use c ta tb h
    exact ⟨u, w, h1, h2, h3, h4, wb c q e⟩
theorem br_ne : BinR X (rNeD X.K) dNe := by
  intro U g H σ s x y a b d Q c ta tb e q
  unfold dNe at e
  cases h : dEqB a b with
  | none => rw [h] at e; cases e
  | some k =>
    rw [h] at e
    obtain ⟨u, w, h1, h2, h3, h4, rfl⟩ := eqB_use c ta tb h
    exact ⟨u, w, h1, h2, h3, h4, wb c q e⟩
theorem br_cmp {f : Int → Int → Bool} : BinR X (rI0 fun i j => .bl (f i j)) (dCmp f) := by
  intro U g H σ s x y a b d Q c ta tb e q
  unfold dCmp at e
  split at e
  · cases ta; cases tb
    exact ⟨_, _, rfl, rfl, wb c q e⟩
  · cases e
theorem top_non {p : Pm} {F H : Hp} {x : V} {a : D} (t : Top p F H x a) : decide (x = .non) = a.isNon := by
  cases a with
  | non => cases t; rfl
  | bl b => cases t; rfl
  | int b => cases t; rfl
  | str b => cases t; rfl
  | lst b => obtain ⟨_, _, rfl, _⟩ := t; rfl
  | tup b => obtain ⟨_, _, rfl, _⟩ := t; rfl
  | lro b => obtain ⟨_, _, rfl, _⟩ := t; rfl
  | dct _ b => obtain ⟨_, _, rfl, _⟩ := t; rfl
  | dtt _ b => obtain ⟨_, _, rfl, _⟩ := t; rfl
  | set b => obtain ⟨_, rfl, _⟩ := t; rfl
  | ins _ _ b => obtain ⟨_, _, _, rfl, _⟩ := t; rfl
  | exn _ _ b => obtain ⟨_, _, _, _, rfl, _⟩ := t; rfl
  | ref b => cases t; rfl
theorem br_is : BinR X (fun x y H Q => y = .non ∧ Q (.bl (decide (x = .non))) H) dIs := by
  intro U g H σ s x y a b d Q c ta tb e q
  unfold dIs at e
  split at e
  · rename_i hb
    have hy := top_non tb
    rw [hb] at hy
    refine ⟨of_decide_eq_true hy, ?_⟩
    rw [top_non ta]
    exact wb c q e
  · cases e
theorem br_isNot : BinR X (fun x y H Q => y = .non ∧ Q (.bl (!decide (x = .non))) H) dIsNot := by
  intro U g H σ s x y a b d Q c ta tb e q
  unfold dIsNot at e
  split at e
  · rename_i hb
    have hy := top_non tb
    rw [hb] at hy
    refine ⟨of_decide_eq_true hy, ?_⟩
    rw [top_non ta]
    exact wb c q e
  · cases e
theorem inB_use {X : Cx} {U : Hp} {g : Wd} {H : Hp} {σ : St} {s : S} {x y : V} {a b : D} {k : Bool} (c : Cfg (pm X) U g H σ s) (ta : Top (pm X) g.F H x a) (tb : Top (pm X) g.F H y b) (e : dInB a b = some k) :
    (∃ d ds, Dp X.K H x d ∧ Dp X.K H y (.list ds) ∧ SeqAt.shaped d = true ∧ SeqAt.shaped (.list ds) = true ∧ k = ds.any fun z => PyData.eqv z d) ∨ ∃ i m S n, x = V.int i ∧ y = V.ref m ∧ H m = some (SetO X.w m S n) ∧ k = S i := by
  unfold dInB at e
  split at e
  · rename_i ys
    split at e
    · rename_i u zs e1 e2
      split at e
      · rename_i hs
        rw [Bool.and_eq_true] at hs
        have hp : D.py (.lst ys) = some (.list zs) := by simp only [D.py, e2, Option.map_some]
        exact .inl ⟨u, zs, (ta.rep c.hF).dp e1, (tb.rep c.hF).dp hp, hs.1, hs.2, (Option.some.inj e).symm⟩
      · cases e
    · cases e
  · split at e
    · cases ta
      obtain ⟨m, rfl, hm⟩ := tb
      exact .inr ⟨_, m, _, _, rfl, rfl, hm, (Option.some.inj e).symm⟩
    · cases e
  · cases e
def rInA (X : Cx) : R2 := fun x y H Q => rInD X.K x y H Q ∨ rSIn X.w x y H Q
def rNotInA (X : Cx) : R2 := fun x y H Q => rNotInD X.K x y H Q ∨ rSNotIn X.w x y H Q
theorem op_inA (hu : X.A.units + 65 < cLine) : OpR X (compareOp .In) (rInA X) := OpR.or (op_inD hu) or_sin
theorem op_notInA (hu : X.A.units + 65 < cLine) : OpR X (compareOp .NotIn) (rNotInA X) := OpR.or (op_notInD hu) or_snotin
theorem br_in : BinR X (rInA X) dIn := by
  intro U g H σ s x y a b d Q c ta tb e q
  unfold dIn at e
  cases h : dInB a b with
  | none => rw [h] at e; cases e
  | some k =>
    rw [h] at e
    rcases inB_use c ta tb h with ⟨u, w, h1, h2, h3, h4, rfl⟩ | ⟨i, m, S, n, rfl, rfl, hm, rfl⟩
    · exact .inl ⟨u, w, h1, h2, h3, h4, wb c q e⟩
    · exact .inr ⟨i, m, S, n, rfl, rfl, hm, wb c q e⟩
theorem br_notIn : BinR X (rNotInA X) dNotIn := by
  intro U g H σ s x y a b d Q c ta tb e q
  unfold dNotIn at e
  cases h : dInB a b with
  | none => rw [h] at e; cases e
  | some k =>
    rw [h] at e
    rcases inB_use c ta tb h with ⟨u, w, h1, h2, h3, h4, rfl⟩ | ⟨i, m, S, n, rfl, rfl, hm, rfl⟩
    · exact .inl ⟨u, w, h1, h2, h3, h4, wb c q e⟩
    · exact .inr ⟨i, m, S, n, rfl, rfl, hm, wb c q e⟩
end
end VL
/-! VL: tests, displays, calls by values, statements, loops, comprehensions. -/
namespace VL
open PySem PySem.Spec PyProof.Rows L2

/-! ### tests -/
def asB : W → Option Bool
  | .d (.bl b) => some b
  | _ => none
def mBl (f : S → R W) (s : S) : R Bool := (f s).bind fun x s1 => match asB x with
  | some b => .ok b s1
  | none => .no
def D.tru : D → Option Bool
  | .non => some false
  | .bl b => some b
  | .int i => some (i != 0)
  | .str x => if fits x.length then some ((x.length : Int) != 0) else none
  | .lst xs => some (!xs.isEmpty)
  | .lro xs => some (!xs.isEmpty)
  | .tup xs => some (!xs.isEmpty)
  | .dct ks xs => some (!xs.isEmpty)
  | _ => none
def mTru (f : S → R W) (s : S) : R Bool := (f s).bind fun x s1 => match s1.pk x with
  | some a => (match a.tru with
    | some b => .ok b s1
    | none => .no)
  | none => .no
def mNot (f : S → R Bool) (s : S) : R Bool := (f s).bind fun b s1 => .ok (!b) s1
def mAndT (f g : S → R Bool) (s : S) : R Bool := (f s).bind fun b s1 => if b then g s1 else .ok false s1
def mOrT (f g : S → R Bool) (s : S) : R Bool := (f s).bind fun b s1 => if b then .ok true s1 else g s1
def mAnd (f g : S → R W) (s : S) : R W := (f s).bind fun x s1 => match asB x with
  | some true => g s1
  | some false => .ok (.d (.bl false)) s1
  | none => .no
def mOr (f g : S → R W) (s : S) : R W := (f s).bind fun x s1 => match asB x with
  | some true => .ok (.d (.bl true)) s1
  | some false => g s1
  | none => .no
def mNotV (f : S → R W) (s : S) : R W := (f s).bind fun x s1 => match asB x with
  | some b => .ok (.d (.bl (!b))) s1
  | none => .no
def mIfE (c : S → R Bool) (f g : S → R W) (s : S) : R W := (c s).bind fun b s1 => if b then f s1 else g s1
def mChain (op op' : D → D → Option Z) (f1 f2 f3 : S → R W) (s : S) : R W := (f1 s).bind fun x s1 => (f2 s1).bind fun y s2 => (op2 false op s2 x y).bind fun z s3 => match asB z with
  | some true => (f3 s3).bind fun u s4 => op2 false op' s4 y u
  | some false => .ok (.d (.bl false)) s3
  | none => .no
theorem asB_use {p : Pm} {g : Wd} {N : Nat} {v : V} {x : W} {b : Bool} (r : RepW p g N v x) (e : asB x = some b) : v = .bl b := by
  unfold asB at e
  split at e
  · cases e; cases r; rfl
  · cases e
theorem isEmpty_reps {p : Pm} {F : Hp} {vs : List V} {xs : List D} (r : Reps p F vs xs) : vs.isEmpty = xs.isEmpty := by
  cases r <;> rfl
theorem tru_use {p : Pm} {F H : Hp} {x : V} {a : D} {b : Bool} (sm : Same F H) (t : Top p F H x a) (e : a.tru = some b) : TruV p.K x H b := by
  cases a with
  | non => cases t; cases e; rfl
  | bl b => cases t; cases e; rfl
  | int b => cases t; cases e; rfl
  | str b =>
    cases t
    simp only [D.tru] at e
    split at e
    · rename_i h
      cases e
      exact ⟨of_decide_eq_true h, rfl⟩
    · cases e
  | lst b => obtain ⟨_, _, rfl, h, r⟩ := t; cases e; exact .inl ⟨_, SqL.of h, by rw [isEmpty_reps r]⟩
  | tup b => obtain ⟨_, _, rfl, h, r⟩ := t; cases e; exact .inr (.inl ⟨_, Same.seqT sm h, by rw [isEmpty_reps r]⟩)
  | lro b => obtain ⟨_, _, rfl, h, r⟩ := t; cases e; exact .inl ⟨_, sm.seq h, by rw [isEmpty_reps r]⟩
  | dct ks b =>
    obtain ⟨_, vs, rfl, h, l, r⟩ := t; cases e
    refine .inr (.inr ⟨_, h, ?_⟩)
    rw [← isEmpty_reps r]
    cases ks with
    | nil => cases vs with
      | nil => rfl
      | cons v vs => cases l
    | cons k ks => cases vs with
      | nil => cases l
      | cons v vs => rfl
  | dtt _ b => cases e
  | set b => cases e
  | ins _ _ b => cases e
  | exn _ _ b => cases e
  | ref b => cases e
structure VW (X : Cx) (Wx : WX) (e : Expr) (f : S → R Bool) : Prop where
  pw : PW X e (tT (pm X) Wx f)
section
variable {X : Cx} {Wx : WX} {a b c e : Expr} {f f1 f2 f3 : S → R W} {c1 c2 : S → R Bool} {pos : Pos} {op op' : D → D → Option Z} {r r' : R2} {rest : List Expr}
theorem bl_use {t : TE} (w : ∀ σ H Q, tV (pm X) Wx f σ H Q → t σ H Q) {σ : St} {H : Hp} {Q : Bool → Hp → Prop} (h : tT (pm X) Wx (mBl f) σ H Q) : t σ H fun x H' => ∃ k, x = .bl k ∧ Q k H' := by
  obtain ⟨U, g, s, c, q⟩ := h
  refine w _ _ _ ⟨U, g, s, c, Post.seq q fun g1 s1 H1 x l1 c1 q1 v rv => ?_⟩
  split at q1
  · rename_i b hb
    exact ⟨b, asB_use rv hb, q1.here c1⟩
  · exact q1.elim
theorem vt_cmp {o : CmpOp} (ho : OpR X (compareOp o) r) (hb : BinR X r op) (h1 : VE X Wx a f1) (h2 : VE X Wx b f2) (hm : behindInMarks o b = false) : VT X Wx (.Compare a [o] [b] pos) (mBl (mOp false op f1 f2)) :=
  ⟨PT.weak (pt_cmpR ho h1.pe h2.pe hm) fun _ _ _ h => bl_use (fun _ _ _ h => two_use hb h) h⟩
theorem vt_tru (h : VE X Wx e f) (he : ∀ whole, isTrue e X.env whole = (do let v ← whole; standAt e.pos; holding [v] (truthy v)) := by intro _; rfl) : VT X Wx e (mTru f) :=
  ⟨PT.weak (pt_truth h.pe he) fun σ H Q ⟨U, g, s, c, q⟩ => ⟨U, g, s, c, Post.seq q fun g1 s1 H1 x l1 c1 q1 v rv => by
    split at q1
    · rename_i d hd
      split at q1
      · rename_i b hb
        exact ⟨b, tru_use c1.hF (c1.pk rv hd) hb, q1.here c1⟩
      · exact q1.elim
    · exact q1.elim⟩⟩
theorem vt_not (h : VT X Wx e c1) : VT X Wx (.UnaryOp .Not e pos) (mNot c1) :=
  ⟨PT.weak (pt_not h.pt) fun σ H Q ⟨U, g, s, c, q⟩ => ⟨U, g, s, c, Post.seq q fun g1 s1 H1 x l1 c1 q1 => q1.here c1⟩⟩
theorem PW.weak {t t' : TT} (h : PW X e t) (w : ∀ σ H Q, t' σ H Q → t σ H Q) : PW X e t' := ⟨fun wh pins s σ H Q I q => h.run wh pins s σ H Q I (w _ _ _ q)⟩
theorem vw_and1 (h : VT X Wx e c1) : VW X Wx (.BoolOp .And [e] pos) c1 := ⟨pw_and1 h.pt⟩
theorem vw_or1 (h : VT X Wx e c1) : VW X Wx (.BoolOp .Or [e] pos) c1 := ⟨pw_or1 h.pt⟩
theorem vw_and (h : VT X Wx a c1) (h2 : VW X Wx (.BoolOp .And (b :: rest) pos) c2) : VW X Wx (.BoolOp .And (a :: b :: rest) pos) (mAndT c1 c2) :=
  ⟨PW.weak (pw_and h.pt h2.pw) fun σ H Q ⟨U, g, s, c, q⟩ => ⟨U, g, s, c, Post.seq q fun g1 s1 H1 x l1 c1 q1 => by
    cases x with
    | true => exact iteT ⟨U, g1, s1, c1, q1⟩
    | false => exact iteF (q1.here c1)⟩⟩
theorem vw_or (h : VT X Wx a c1) (h2 : VW X Wx (.BoolOp .Or (b :: rest) pos) c2) : VW X Wx (.BoolOp .Or (a :: b :: rest) pos) (mOrT c1 c2) :=
  ⟨PW.weak (pw_or h.pt h2.pw) fun σ H Q ⟨U, g, s, c, q⟩ => ⟨U, g, s, c, Post.seq q fun g1 s1 H1 x l1 c1 q1 => by
    cases x with
    | true => exact iteT (q1.here c1)
    | false => exact iteF ⟨U, g1, s1, c1, q1⟩⟩⟩
theorem VW.vt (h : VW X Wx e c1) : VT X Wx e c1 := ⟨h.pw.pt⟩
theorem ve_one {op} (h : VE X Wx a f) : VE X Wx (.BoolOp op [a] pos) f := ⟨pe_one h.pe⟩
theorem ve_and (h : VE X Wx a f1) (h2 : VE X Wx (.BoolOp .And (b :: rest) pos) f2) : VE X Wx (.BoolOp .And (a :: b :: rest) pos) (mAnd f1 f2) :=
  ⟨PE.weak (pe_and h.pe h2.pe) fun σ H Q ⟨U, g, s, c, q⟩ => ⟨U, g, s, c, Post.seq q fun g1 s1 H1 x l1 c1 q1 v rv => by
    split at q1
    · rename_i hb
      exact ⟨true, asB_use rv hb, iteT ⟨U, g1, s1, c1, q1⟩⟩
    · rename_i hb
      exact ⟨false, asB_use rv hb, iteF (q1.here c1 _ (.bl false))⟩
    · exact q1.elim⟩⟩
theorem ve_or (h : VE X Wx a f1) (h2 : VE X Wx (.BoolOp .Or (b :: rest) pos) f2) : VE X Wx (.BoolOp .Or (a :: b :: rest) pos) (mOr f1 f2) :=
  ⟨PE.weak (pe_or h.pe h2.pe) fun σ H Q ⟨U, g, s, c, q⟩ => ⟨U, g, s, c, Post.seq q fun g1 s1 H1 x l1 c1 q1 v rv => by
    split at q1
    · rename_i hb
      exact ⟨true, asB_use rv hb, iteT (q1.here c1 _ (.bl true))⟩
    · rename_i hb
      exact ⟨false, asB_use rv hb, iteF ⟨U, g1, s1, c1, q1⟩⟩
    · exact q1.elim⟩⟩
theorem ve_not (h : VE X Wx a f1) : VE X Wx (.UnaryOp .Not a pos) (mNotV f1) :=
  ⟨PE.weak (pe_not h.pe) fun σ H Q ⟨U, g, s, c, q⟩ => ⟨U, g, s, c, Post.seq q fun g1 s1 H1 x l1 c1 q1 v rv => by
    split at q1
    · rename_i b hb
      exact ⟨b, asB_use rv hb, q1.here c1 _ (.bl _)⟩
    · exact q1.elim⟩⟩
theorem ve_ifE (h : VT X Wx c c1) (ha : VE X Wx a f1) (hb : VE X Wx b f2) : VE X Wx (.IfExp c a b pos) (mIfE c1 f1 f2) :=
  ⟨PE.weak (pe_ifExp h.pt ha.pe hb.pe) fun σ H Q ⟨U, g, s, c, q⟩ => ⟨U, g, s, c, Post.seq q fun g1 s1 H1 x l1 c1 q1 => by
    cases x with
    | true => exact iteT ⟨U, g1, s1, c1, q1⟩
    | false => exact iteF ⟨U, g1, s1, c1, q1⟩⟩⟩
theorem chain_use (hb : BinR X r op) (hb' : BinR X r' op') {σ : St} {H : Hp} {Q : VK} (h : tV (pm X) Wx (mChain op op' f1 f2 f3) σ H Q) : tChain r r' (tV (pm X) Wx f1) (tV (pm X) Wx f2) (tV (pm X) Wx f3) σ H Q := by
  obtain ⟨U, g, s, c, q⟩ := h
  refine ⟨U, g, s, c, Post.seq q fun g1 s1 H1 x l1 c1 q1 v rv => ?_⟩
  refine ⟨U, g1, s1, c1, Post.seq q1 fun g2 s2 H2 y l2 c2 q2 w rw => ?_⟩
  refine op2_use (Wx := Wx) (rg := false) hb c2 (rv.le l2) rw (Post.seq q2 fun g3 s3 H3 z l3 c3 q3 u ru => ?_)
  split at q3
  · rename_i hz
    refine ⟨true, asB_use ru hz, iteT ⟨U, g3, s3, c3, Post.seq q3 fun g4 s4 H4 z4 l4 c4 q4 u4 ru4 => ?_⟩⟩
    exact op2_use (Wx := Wx) (rg := false) hb' c4 (rw.le (l3.trans l4)) ru4 q4
  · rename_i hz
    exact ⟨false, asB_use ru hz, iteF (q3.here c3 _ (.bl false))⟩
  · exact q3.elim
end
section
variable {X : Cx} {Wx : WX} {a b c e : Expr} {f f1 f2 f3 : S → R W} {pos : Pos} {op op' : D → D → Option Z} {r r' : R2}
theorem ve_chain {o o' : CmpOp} (ho : OpR X (compareOp o) r) (hb : BinR X r op) (ho' : OpR X (compareOp o') r') (hb' : BinR X r' op') (h1 : VE X Wx a f1) (h2 : VE X Wx b f2) (h3 : VE X Wx c f3)
    (hm : lastMarks [o, o'] [b, c] = false := by with_unfolding_all rfl) : VE X Wx (.Compare a [o, o'] [b, c] pos) (mChain op op' f1 f2 f3) :=
  ⟨PE.weak (pe_chain ho ho' h1.pe h2.pe h3.pe hm) fun _ _ _ h => chain_use hb hb' h⟩
theorem vt_chain {o o' : CmpOp} (ho : OpR X (compareOp o) r) (hb : BinR X r op) (ho' : OpR X (compareOp o') r') (hb' : BinR X r' op') (h1 : VE X Wx a f1) (h2 : VE X Wx b f2) (h3 : VE X Wx c f3)
    (hm : lastMarks [o, o'] [b, c] = false := by with_unfolding_all rfl) : VT X Wx (.Compare a [o, o'] [b, c] pos) (mBl (mChain op op' f1 f2 f3)) :=
  ⟨PT.weak (pt_chain ho ho' h1.pe h2.pe h3.pe hm) fun _ _ _ h => bl_use (fun _ _ _ h => chain_use hb hb' h) h⟩
end

/-! ### argument lists, displays -/
def mNil (s : S) : R (List W) := .ok [] s
def mCons (f : S → R W) (fs : S → R (List W)) (s : S) : R (List W) := (f s).bind fun x s1 => (fs s1).bind fun xs s2 => .ok (x :: xs) s2
def dsOf : List W → Option (List D)
  | [] => some []
  | .d x :: r => (dsOf r).map fun xs => x :: xs
  | .r _ :: _ => none
def S.pks (s : S) : List W → Option (List D)
  | [] => some []
  | x :: r => match s.pk x, s.pks r with
    | some d, some ds => some (d :: ds)
    | _, _ => none
def zlst (ds : List D) : Option Z := if fits ds.length then some (.n (.lst ds)) else none
def mLst (rg : Bool) (fs : S → R (List W)) (s : S) : R W := (fs s).bind fun ws s1 => match dsOf ws with
  | some ds => s1.puts rg (zlst ds)
  | none => .no
def mTup (fs : S → R (List W)) (s : S) : R W := (fs s).bind fun ws s1 => match dsOf ws with
  | some ds => if fits ds.length then .ok (.d (.tup ds)) s1 else .no
  | none => .no
theorem dsOf_use {p : Pm} {g : Wd} {N : Nat} : ∀ {vs : List V} {ws : List W} {ds : List D}, RWs p g N vs ws → dsOf ws = some ds → Reps p g.F vs ds
  | _, _, _, .nil, e => by cases e; exact .nil
  | _, _, _, .cons (b := .d x) (l₂ := r) h t, e => by
    simp only [dsOf] at e
    cases q : dsOf r with
    | none => rw [q] at e; cases e
    | some ds => rw [q] at e; cases e; exact .cons h (dsOf_use t q)
  | _, _, _, .cons (b := .r n) h t, e => by cases e
abbrev Tops (p : Pm) (F H : Hp) : List V → List D → Prop := Paired (Top p F H)
theorem pks_use {p : Pm} {U : Hp} {g : Wd} {H : Hp} {σ : St} {s : S} (c : Cfg p U g H σ s) : ∀ {vs : List V} {ws : List W} {ds : List D}, RWs p g s.os.length vs ws → s.pks ws = some ds → Tops p g.F H vs ds
  | _, _, _, .nil, e => by cases e; exact .nil
  | _, _, _, .cons (b := x) (l₂ := r) h t, e => by
    simp only [S.pks] at e
    split at e
    · rename_i d ds e1 e2
      cases e
      exact .cons (c.pk h e1) (pks_use c t e2)
    · cases e
section
variable {X : Cx} {Wx : WX} {e : Expr} {es : List Expr} {f : S → R W} {fs : S → R (List W)} {pos : Pos} {rg : Bool}
theorem va_nil : VA X Wx [] mNil := ⟨PA.weak pa_nil fun σ H Q ⟨U, g, s, c, q⟩ => q.here c [] .nil⟩
theorem va_cons (h : VE X Wx e f) (hs : VA X Wx es fs) (hst : starEach (e :: es) X.env = (false, eval e X.env) :: starEach es X.env := by rfl) : VA X Wx (e :: es) (mCons f fs) :=
  ⟨PA.weak (pa_cons h.pe hs.pa hst) fun σ H Q ⟨U, g, s, c, q⟩ => ⟨U, g, s, c, Post.seq q fun g1 s1 H1 x l1 c1 q1 v rv => ⟨U, g1, s1, c1, Post.seq q1 fun g2 s2 H2 ws l2 c2 q2 vs rs => q2.here c2 _ (.cons (rv.le l2) rs)⟩⟩⟩
theorem ve_lst (h : VA X Wx es fs) : VE X Wx (.List es pos) (mLst rg fs) :=
  ⟨PE.weak (pe_lst h.pa) fun σ H Q ⟨U, g, s, c, q⟩ => ⟨U, g, s, c, Post.seq q fun g1 s1 H1 ws l1 c1 q1 vs rs => by
    split at q1
    · rename_i ds hd
      obtain ⟨z, e3, q2⟩ := want_puts c1 q1
      have r := dsOf_use rs hd
      unfold zlst at e3
      split at e3
      · rename_i hf
        cases e3
        exact ⟨by rw [r.length]; exact of_decide_eq_true hf, fun a n => q2 a _ n ⟨_, rfl, r⟩⟩
      · cases e3
    · exact q1.elim⟩⟩
theorem ve_tup {k} (h : VA X Wx es fs) : VE X Wx (.Tuple es k pos) (mTup fs) :=
  ⟨PE.weak (pe_tup h.pa) fun σ H Q ⟨U, g, s, c, q⟩ => ⟨U, g, s, c, Post.seq q fun g1 s1 H1 ws l1 c1 q1 vs rs => by
    split at q1
    · rename_i ds hd
      have r := dsOf_use rs hd
      split at q1
      · rename_i hf
        refine ⟨by rw [r.length]; exact of_decide_eq_true hf, fun a n => ?_⟩
        obtain ⟨c', l'⟩ := c1.newF (o := .tup vs) n
        exact q1 _ _ l' c' _ (.tup (SqT.of upd_same) (r.mono l'.F))
      · exact q1.elim
    · exact q1.elim⟩⟩
end

/-! ### calls of what is built in -/
def CalR (X : Cx) (r : List V → Hp → VK → Prop) (op : List D → Option Z) : Prop :=
  ∀ (U : Hp) (g : Wd) (H : Hp) (σ : St) (s : S) (vs : List V) (ds : List D) (z : Z) (Q : VK), Cfg (pm X) U g H σ s → Tops (pm X) g.F H vs ds → op ds = some z → Want (pm X) U g H σ s Q z → r vs H Q
def opL (rg : Bool) (op : List D → Option Z) (s : S) (ws : List W) : R W := match s.pks ws with
  | some ds => s.puts rg (op ds)
  | none => .no
def mCB (rg : Bool) (op : List D → Option Z) (fs : S → R (List W)) (s : S) : R W := (fs s).bind fun ws s1 => opL rg op s1 ws
section
variable {X : Cx} {Wx : WX} {e : Expr} {es : List Expr} {f : S → R W} {fs : S → R (List W)} {pos p apos cpos : Pos} {rg : Bool} {op : List D → Option Z} {r : List V → Hp → VK → Prop} {id T : String} {x name : Str}
theorem opL_use {U : Hp} {g : Wd} {H : Hp} {σ : St} {s : S} {vs : List V} {ws : List W} {Q : VK} (hb : CalR X r op) (c : Cfg (pm X) U g H σ s) (rs : RWs (pm X) g s.os.length vs ws)
    (q : Post (pm X) U s g σ Wx (TV (pm X) Q) (opL rg op s ws)) : r vs H Q := by
  unfold opL at q
  split at q
  · rename_i ds e1
    obtain ⟨z, e3, q⟩ := want_puts c q
    exact hb U g H σ s vs ds z Q c (pks_use c rs e1) e3 q
  · exact q.elim
theorem cb_use (hb : CalR X r op) {σ : St} {H : Hp} {Q : VK} (h : tV (pm X) Wx (mCB rg op fs) σ H Q) : tCB r (tL (pm X) Wx fs) σ H Q := by
  obtain ⟨U, g, s, c, q⟩ := h
  exact ⟨U, g, s, c, Post.seq q fun g1 s1 H1 ws l1 c1 q1 vs rs => opL_use hb c1 rs q1⟩
theorem ve_cb (hc : CallR X (.builtin id) r) (hb : CalR X r op) (hg : Gl X x) (hm : X.mg x = none) (hv : bootBuiltins x = some (.builtin id)) (ha : VA X Wx (e :: es) fs) (hn : x ≠ "__name__" := by decide) (hdb : (x == ("__debug__" : Str)) = false := by decide)
    (he : starEach (e :: es) X.env = (false, eval e X.env) :: starEach es X.env := by rfl) (hpl : (backTo pos (starEach es X.env)).any (·.1) = false := by rfl) : VE X Wx (.Call (.Name x p) (e :: es) [] pos) (mCB rg op fs) :=
  ⟨PE.weak (pe_callB hc hg hm hv ha.pa hn hdb he hpl) fun _ _ _ h => cb_use hb h⟩
theorem ve_ct (hc : CallR X (.type T) r) (hb : CalR X r op) (hg : Gl X x) (hm : X.mg x = none) (hv : bootBuiltins x = some (.type T)) (ha : VA X Wx (e :: es) fs) (hn : x ≠ "__name__" := by decide) (hdb : (x == ("__debug__" : Str)) = false := by decide)
    (he : starEach (e :: es) X.env = (false, eval e X.env) :: starEach es X.env := by rfl) (hpl : (backTo pos (starEach es X.env)).any (·.1) = false := by rfl) : VE X Wx (.Call (.Name x p) (e :: es) [] pos) (mCB rg op fs) :=
  ⟨PE.weak (pe_callTy hc hg hm hv ha.pa hn hdb he hpl) fun _ _ _ h => cb_use hb h⟩
theorem ve_ct0 (hc : CallR X (.type T) r) (hb : CalR X r op) (hg : Gl X x) (hm : X.mg x = none) (hv : bootBuiltins x = some (.type T)) (hn : x ≠ "__name__" := by decide) (hdb : (x == ("__debug__" : Str)) = false := by decide) :
    VE X Wx (.Call (.Name x p) [] [] pos) (mCB rg op mNil) :=
  ⟨PE.weak (pe_callTy0 hc hg hm hv hn hdb) fun σ H Q h => by
    obtain ⟨U, g, s, c, q⟩ := h
    exact opL_use hb c .nil q⟩

/-! ### methods of what is built in: by values; a change of a region -/
def MutR (X : Cx) (r : V → List V → Hp → VK → Prop) (op : O → List D → Option (O × D)) : Prop :=
  ∀ (U : Hp) (g : Wd) (H : Hp) (σ : St) (s : S) (n : Nat) (vs : List V) (ds : List D) (o o' : O) (d : D) (Q : VK), Cfg (pm X) U g H σ s → s.os[n]? = some o → Reps (pm X) g.F vs ds → op o ds = some (o', d) →
    (∀ g' H' v, Le s ⟨s.vs, s.os.set n o'⟩ g g' → Cfg (pm X) U g' H' σ ⟨s.vs, s.os.set n o'⟩ → Rep (pm X) g'.F v d → Q v H') → r (.ref (g.root n)) vs H Q
def O.isT (T : String) : O → Bool
  | .lst _ => T == "list"
  | .dct _ _ => T == "dict"
  | .dtt _ _ => T == "dict"
  | _ => false
def mMut (T : String) (op : O → List D → Option (O × D)) (f : S → R W) (fs : S → R (List W)) (s : S) : R W := (f s).bind fun x s1 => match x with
  | .r n => (match s1.os[n]? with
    | some o => if o.isT T then (fs s1).bind fun ws s2 => (match dsOf ws, s2.os[n]? with
        | some ds, some o2 => (match op o2 ds with
          | some (o', d) => .ok (.d d) ⟨s2.vs, s2.os.set n o'⟩
          | none => .no)
        | _, _ => .no) else .no
    | none => .no)
  | _ => .no
theorem isT_use {U : Hp} {g : Wd} {H : Hp} {σ : St} {s : S} {n : Nat} {o : O} (c : Cfg (pm X) U g H σ s) (h : s.os[n]? = some o) (e : o.isT T = true) : tyV X.K T (.ref (g.root n)) H := by
  have t := c.topO h
  cases o with
  | lst xs =>
    obtain ⟨a, vs, e1, h1, _⟩ := t
    cases e1
    exact .inl ⟨eq_of_beq e, _, SqL.of h1⟩
  | dct ks xs =>
    obtain ⟨a, vs, e1, h1, _⟩ := t
    cases e1
    exact .inr (.inr (.inl ⟨eq_of_beq e, .inl ⟨_, h1⟩⟩))
  | dtt ks xs =>
    obtain ⟨a, vs, e1, h1, _⟩ := t
    cases e1
    exact .inr (.inr (.inl ⟨eq_of_beq e, .inr ⟨_, h1⟩⟩))
  | _ => cases e
variable {opm : O → List D → Option (O × D)} {rm : V → List V → Hp → VK → Prop}
theorem mut_use (hb : MutR X rm opm) {U : Hp} {g : Wd} {H : Hp} {σ : St} {s : S} {n : Nat} {vs : List V} {ws : List W} {Q : VK} (c : Cfg (pm X) U g H σ s) (rs : RWs (pm X) g s.os.length vs ws)
    (q : Post (pm X) U s g σ Wx (TV (pm X) Q) (match dsOf ws, s.os[n]? with
        | some ds, some o2 => (match opm o2 ds with
          | some (o', d) => .ok (.d d) ⟨s.vs, s.os.set n o'⟩
          | none => .no)
        | _, _ => .no)) : rm (.ref (g.root n)) vs H Q := by
  split at q
  · rename_i ds o2 e1 e2
    split at q
    · rename_i o' d e3
      exact hb U g H σ s n vs ds o2 o' d Q c e2 (dsOf_use rs e1) e3 fun g' H' v l c' r => q g' H' l c' v r
    · exact q.elim
  · exact q.elim
theorem ve_mut (pa : PlainAttrs T) (slot : Slot T name id) (hty : typeOf (.builtin id) = pure (.type "method_descriptor")) (hm : MtR X id rm) (hb : MutR X rm opm) {o : Expr} (ho : VE X Wx o f) (ha : VA X Wx (e :: es) fs)
    (hbase : attributeBase o name X.env (eval o X.env) = eval o X.env := by rfl)
    (hfew : ((backTo cpos (starEach (e :: es) X.env)).all (fun x => !x.1) && (backToKw cpos (keywordEach [] X.env)).all (fun x => x.1.isSome)
      && decide ((e :: es).length + ([] : List Keyword).length + (if ([] : List Keyword).isEmpty then 0 else 1) < 30)) = true := by rfl)
    (hline : (apos.endLine == cpos.line) = true := by rfl) (hs : starEach (e :: es) X.env = (false, eval e X.env) :: starEach es X.env := by rfl) (hplain : (backTo cpos (starEach es X.env)).any (·.1) = false := by rfl) :
    VE X Wx (.Call (.Attribute o name apos) (e :: es) [] cpos) (mMut T opm f fs) :=
  ⟨PE.weak (pe_bm pa slot hty hm ho.pe ha.pa hbase hfew hline hs hplain) fun σ H Q ⟨U, g, s, c, q⟩ => ⟨U, g, s, c, Post.seq q fun g1 s1 H1 x l1 c1 q1 v rv => by
    cases x with
    | d x => exact q1.elim
    | r n =>
      simp only at q1
      split at q1
      · rename_i o1 e1
        split at q1
        · rename_i hT
          obtain ⟨hn, rfl⟩ := rv
          refine ⟨isT_use c1 e1 hT, U, g1, s1, c1, Post.seq q1 fun g2 s2 H2 ws l2 c2 q2 vs rs => ?_⟩
          rw [← l2.rt n hn]
          exact mut_use hb c2 rs q2
        · exact q1.elim
      · exact q1.elim⟩⟩
theorem ve_mut0 (pa : PlainAttrs T) (slot : Slot T name id) (hty : typeOf (.builtin id) = pure (.type "method_descriptor")) (hm : MtR X id rm) (hb : MutR X rm opm) {o : Expr} (ho : VE X Wx o f)
    (hbase : attributeBase o name X.env (eval o X.env) = eval o X.env := by rfl) (hline : (apos.endLine == cpos.line) = true := by rfl) : VE X Wx (.Call (.Attribute o name apos) [] [] cpos) (mMut T opm f mNil) :=
  ⟨PE.weak (pe_bm0 pa slot hty hm ho.pe hbase hline) fun σ H Q ⟨U, g, s, c, q⟩ => ⟨U, g, s, c, Post.seq q fun g1 s1 H1 x l1 c1 q1 v rv => by
    cases x with
    | d x => exact q1.elim
    | r n =>
      simp only at q1
      split at q1
      · rename_i o1 e1
        split at q1
        · rename_i hT
          obtain ⟨hn, rfl⟩ := rv
          refine ⟨isT_use c1 e1 hT, ?_⟩
          exact mut_use (Wx := Wx) (ws := []) hb c1 .nil q1
        · exact q1.elim
      · exact q1.elim⟩⟩
end
end VL
/-! VL: statements, targets, loops, comprehensions. -/
namespace VL
open PySem PySem.Spec PyProof.Rows L2

inductive RS where
  | nx (s : S) | rt (x : W) (s : S) | bk (s : S) | ct (s : S) | err (C : Addr) (ns : List Str) (xs : List D) (s : S) | no
def RS.bind (r : RS) (k : S → RS) : RS := match r with
  | .nx s => k s
  | r => r
def R.toS {α : Type} (r : R α) (k : α → S → RS) : RS := match r with
  | .ok a s => k a s
  | .err C ns xs s => .err C ns xs s
  | .no => .no
def PostS (p : Pm) (U : Hp) (s : S) (g : Wd) (Wx : WX) (D : Ends) : RS → Prop
  | .nx s' => ∀ g' H' σ', Le s s' g g' → Cfg p U g' H' σ' s' → D.nx σ' H'
  | .rt x s' => ∀ g' H' σ' v, Le s s' g g' → Cfg p U g' H' σ' s' → RepW p g' s'.os.length v x → D.rt v H'
  | .bk s' => ∀ g' H' σ', Le s s' g g' → Cfg p U g' H' σ' s' → D.bk σ' H'
  | .ct s' => ∀ g' H' σ', Le s s' g g' → Cfg p U g' H' σ' s' → D.ct σ' H'
  | .err C ns xs s' => ∀ g' H' σ' dx, Le s s' g g' → Cfg p U g' H' σ' s' → ErrAt p g' H' dx ns xs → Wx (.ref C) (some dx) σ' H'
  | .no => False
def tS (p : Pm) (Wx : WX) (f : S → RS) : TS := fun D σ H => ∃ U g s, Cfg p U g H σ s ∧ PostS p U s g Wx D (f s)
structure VS (X : Cx) (Wx : WX) (st : Stmt) (f : S → RS) : Prop where
  ps : PS X st (tS (pm X) Wx f)
structure VSs (X : Cx) (Wx : WX) (st : List Stmt) (f : S → RS) : Prop where
  ps : PSs X st (tS (pm X) Wx f)
section
variable {p : Pm} {U : Hp} {s s1 : S} {g g1 : Wd} {H : Hp} {σ : St} {Wx : WX} {D D' : Ends} {r : RS}
theorem PostS.le (h : PostS p U s g Wx D r) (l : Le s s1 g g1) : PostS p U s1 g1 Wx D r := by
  cases r with
  | nx s' => exact fun g' H' σ' l' c => h g' H' σ' (l.trans l') c
  | rt x s' => exact fun g' H' σ' v l' c => h g' H' σ' v (l.trans l') c
  | bk s' => exact fun g' H' σ' l' c => h g' H' σ' (l.trans l') c
  | ct s' => exact fun g' H' σ' l' c => h g' H' σ' (l.trans l') c
  | err C ns xs s' => exact fun g' H' σ' dx l' c => h g' H' σ' dx (l.trans l') c
  | no => exact h
theorem PostS.ofR {α : Type} {k : α → S → RS} {r : R α} {T : Wd → S → Hp → α → Prop} (h : PostS p U s g Wx D (r.toS k))
    (hk : ∀ g' s' H' x, Le s s' g g' → Cfg p U g' H' σ s' → PostS p U s' g' Wx D (k x s') → T g' s' H' x) : Post p U s g σ Wx T r := by
  cases r with
  | ok x s' => exact fun g' H' l c => hk g' s' H' x l c (PostS.le (show PostS p U s g Wx D (k x s') from h) l)
  | err C ns xs s' => exact fun g' H' dx l c e => h g' H' σ dx l c e
  | no => exact h
theorem PostS.nx (h : PostS p U s g Wx D (.nx s)) (c : Cfg p U g H σ s) : D.nx σ H := h g H σ Le.refl c
end
section
variable {X : Cx} {st : Stmt} {sts : List Stmt}
theorem PS.weak {t t' : TS} (h : PS X st t) (w : ∀ D σ H, t' D σ H → t D σ H) : PS X st t' := ⟨fun pins s σ H D I q => h.run pins s σ H D I (w _ _ _ q)⟩
theorem PSs.weak {t t' : TS} (h : PSs X sts t) (w : ∀ D σ H, t' D σ H → t D σ H) : PSs X sts t' := ⟨fun pins s σ H D I q => h.run pins s σ H D I (w _ _ _ q)⟩
end
def mSkip (s : S) : RS := .nx s
def mSeq (f g : S → RS) (s : S) : RS := (f s).bind g
def mRet (f : S → R W) (s : S) : RS := (f s).toS fun x s1 => .rt x s1
def mRetN (s : S) : RS := .rt (.d .non) s
def mExpr (f : S → R W) (s : S) : RS := (f s).toS fun _ s1 => .nx s1
def mIf (c : S → R Bool) (f g : S → RS) (s : S) : RS := (c s).toS fun b s1 => if b then f s1 else g s1
def mSet (i : Nat) (f : S → R W) (s : S) : RS := (f s).toS fun x s1 => .nx ⟨s1.vs.set i (some x), s1.os⟩
def mPar (i j : Nat) (fs : S → R (List W)) (s : S) : RS := (fs s).toS fun ws s1 => match ws with
  | [x, y] => .nx ⟨(s1.vs.set i (some x)).set j (some y), s1.os⟩
  | _ => .no
section
variable {X : Cx} {Wx : WX} {e a b : Expr} {es : List Expr} {f : S → R W} {fs : S → R (List W)} {c1 : S → R Bool} {m m1 m2 : S → RS} {pos : Pos} {st : Stmt} {sts sts1 sts2 : List Stmt}
theorem vss_nil : VSs X Wx [] mSkip := ⟨PSs.weak pss_nil fun D σ H ⟨U, g, s, c, q⟩ => PostS.nx q c⟩
theorem vss_cons (h : VS X Wx st m1) (h2 : VSs X Wx sts m2) : VSs X Wx (st :: sts) (mSeq m1 m2) :=
  ⟨PSs.weak (pss_cons h.ps h2.ps) fun D σ H ⟨U, g, s, c, q⟩ => ⟨U, g, s, c, by
    unfold mSeq RS.bind at q
    split at q
    · rename_i s1 e1
      rw [e1]
      exact fun g' H' σ' l c' => ⟨U, g', s1, c', PostS.le q l⟩
    · rename_i r hr
      cases e1 : m1 s with
      | nx s1 => exact absurd e1 (hr s1)
      | rt x s1 => rw [e1] at q; exact q
      | bk s1 => rw [e1] at q; exact q
      | ct s1 => rw [e1] at q; exact q
      | err C ns xs s1 => rw [e1] at q; exact q
      | no => rw [e1] at q; exact q⟩⟩
theorem vss_one (h : VS X Wx st m1) : VSs X Wx [st] m1 := ⟨pss_one h.ps⟩
theorem vs_pass : VS X Wx (.Pass pos) mSkip := ⟨PS.weak ps_pass fun D σ H ⟨U, g, s, c, q⟩ => PostS.nx q c⟩
theorem vs_break : VS X Wx (.Break pos) (fun s => .bk s) := ⟨PS.weak ps_break fun D σ H ⟨U, g, s, c, q⟩ => q g H σ Le.refl c⟩
theorem vs_continue : VS X Wx (.Continue pos) (fun s => .ct s) := ⟨PS.weak ps_continue fun D σ H ⟨U, g, s, c, q⟩ => q g H σ Le.refl c⟩
theorem vs_ret (h : VE X Wx e f) : VS X Wx (.Return (some e) pos) (mRet f) :=
  ⟨PS.weak (ps_ret h.pe) fun D σ H ⟨U, g, s, c, q⟩ => ⟨U, g, s, c, PostS.ofR q fun g1 s1 H1 x l1 c1 q1 v rv => q1 g1 H1 σ v Le.refl c1 rv⟩⟩
theorem vs_retN : VS X Wx (.Return none pos) mRetN := ⟨PS.weak ps_retN fun D σ H ⟨U, g, s, c, q⟩ => q g H σ .non Le.refl c .non⟩
theorem vs_expr (h : VE X Wx e f) (hs : swapsWith e none pos.line X.env = pure false := by rfl) : VS X Wx (.Expr e pos) (mExpr f) :=
  ⟨PS.weak (ps_expr h.pe hs) fun D σ H ⟨U, g, s, c, q⟩ => ⟨U, g, s, c, PostS.ofR q fun g1 s1 H1 x l1 c1 q1 v rv => PostS.nx q1 c1⟩⟩
theorem vs_if (h : VT X Wx e c1) (ha : VSs X Wx sts1 m1) (hb : VSs X Wx sts2 m2) : VS X Wx (.If e sts1 sts2 pos) (mIf c1 m1 m2) :=
  ⟨PS.weak (ps_if h.pt ha.ps hb.ps) fun D σ H ⟨U, g, s, c, q⟩ => ⟨U, g, s, c, PostS.ofR q fun g1 s1 H1 x l1 c1 q1 => by
    cases x with
    | true => exact iteT ⟨U, g1, s1, c1, q1⟩
    | false => exact iteF ⟨U, g1, s1, c1, q1⟩⟩⟩
theorem vs_set (i : Nat) {x : Str} {pos' : Pos} (hN : X.N.Nodup) (hi : X.N[i]? = some x) (hx : Loc X.env.scope x) (h : VE X Wx e f) (hs : swapsWith e (some (.Name x pos')) pos.line X.env = pure false := by rfl)
    (hf : X.fn x = true ∨ X.env.scope.names.lookup x = some .local := by first | exact .inl rfl | exact .inr rfl | assumption) : VS X Wx (.Assign [.Name x pos'] e pos) (mSet i f) :=
  ⟨PS.weak (ps_set hN hi hx h.pe hs hf) fun D σ H ⟨U, g, s, c, q⟩ => ⟨U, g, s, c, PostS.ofR q fun g1 s1 H1 x l1 c1 q1 v rv => q1 g1 H1 _ ⟨Same.refl _, fun _ _ => rfl, Nat.le_refl _⟩ (c1.store rv)⟩⟩
theorem vs_par (i j : Nat) {x y : Str} {px py pt : Pos} {kt k2 pt2} (hc : X.calm = true) (hN : X.N.Nodup) (hi : X.N[i]? = some x) (hj : X.N[j]? = some y) (hij : i ≠ j)
    (hx : X.env.scope.names.lookup x = some .local) (hy : X.env.scope.names.lookup y = some .local) (ha : VA X Wx [a, b] fs)
    (hw : swappedStores [.Tuple [.Name x px, .Name y py] kt pt] (.Tuple [a, b] k2 pt2) X.env = pure (some [x, y]))
    (hs : swapsWithSole [.Tuple [.Name x px, .Name y py] kt pt] (.Tuple [a, b] k2 pt2) pos.line X.env = pure false := by rfl) :
    VS X Wx (.Assign [.Tuple [.Name x px, .Name y py] kt pt] (.Tuple [a, b] k2 pt2) pos) (mPar i j fs) :=
  ⟨PS.weak (ps_par hc hN hi hj hij hx hy ha.pa hw hs) fun D σ H ⟨U, g, s, c, q⟩ => ⟨U, g, s, c, PostS.ofR q fun g1 s1 H1 ws l1 c1 q1 vs rs => by
    cases rs with
    | nil => exact q1.elim
    | cons r1 t =>
      cases t with
      | nil => exact q1.elim
      | cons r2 t =>
        cases t with
        | nil => exact ⟨_, _, rfl, q1 g1 H1 _ ⟨Same.refl _, fun _ _ => rfl, Nat.le_refl _⟩ ((c1.store r1).store r2)⟩
        | cons _ _ => exact q1.elim⟩⟩
end

/-! ### targets -/
/-- the slots at is alone have changed -/
def OnlyAt (is : List Nat) (σ σ' : St) : Prop := σ'.length = σ.length ∧ ∀ i, i ∉ is → σ'[i]? = σ[i]?
def PostG (p : Pm) (U : Hp) (s : S) (g : Wd) (H : Hp) (σ : St) (is : List Nat) (Q : St → Hp → Prop) : Option S → Prop
  | some s' => ∀ σ', OnlyAt is σ σ' → Cfg p U g H σ' s' → s'.os = s.os → Q σ' H
  | none => False
def tG (p : Pm) (is : List Nat) (f : W → S → Option S) : TG := fun v σ H Q => ∃ U g s w, Cfg p U g H σ s ∧ RepW p g s.os.length v w ∧ PostG p U s g H σ is Q (f w s)
def tGs (p : Pm) (is : List Nat) (f : List D → S → Option S) : TGs := fun vs σ H Q => ∃ U g s xs, Cfg p U g H σ s ∧ Reps p g.F vs xs ∧ PostG p U s g H σ is Q (f xs s)
structure VG (X : Cx) (e : Expr) (is : List Nat) (f : W → S → Option S) : Prop where
  pg : PG X e (tG (pm X) is f)
structure VGs (X : Cx) (es : List Expr) (is : List Nat) (f : List D → S → Option S) : Prop where
  pg : PGs X es (tGs (pm X) is f)
def gSet (i : Nat) (w : W) (s : S) : Option S := some ⟨s.vs.set i (some w), s.os⟩
def gTupF (fs : List D → S → Option S) (w : W) (s : S) : Option S := match w with
  | .d (.tup xs) => fs xs s
  | _ => none
def gNilF (xs : List D) (s : S) : Option S := match xs with
  | [] => some s
  | _ => none
def gConsF (f : W → S → Option S) (fs : List D → S → Option S) (xs : List D) (s : S) : Option S := match xs with
  | x :: r => (f (.d x) s).bind (fs r)
  | [] => none
def mAsg (f : S → R W) (g : W → S → Option S) (s : S) : RS := (f s).toS fun x s1 => match g x s1 with
  | some s2 => .nx s2
  | none => .no
section
variable {X : Cx} {Wx : WX} {e a b tg : Expr} {es : List Expr} {f : S → R W} {pos : Pos} {is js : List Nat} {gf : W → S → Option S} {gs : List D → S → Option S}
theorem PG.weak {t t' : TG} (h : PG X tg t) (w : ∀ v σ H Q, t' v σ H Q → t v σ H Q) : PG X tg t' := ⟨fun pins s σ H v u Q I r q => h.run pins s σ H v u Q I r (w _ _ _ _ q)⟩
theorem PGs.weak {t t' : TGs} (h : PGs X es t) (w : ∀ v σ H Q, t' v σ H Q → t v σ H Q) : PGs X es t' := ⟨fun pins s σ H v u Q I r q => h.run pins s σ H v u Q I r (w _ _ _ _ q)⟩
theorem onlyAt_set (σ : St) (i : Nat) (v : V) : OnlyAt [i] σ (σ.set i (some v)) := ⟨List.length_set .., fun j hj => List.getElem?_set_ne (fun e => hj (by simp [e]))⟩
theorem vg_name (i : Nat) {x : Str} (hN : X.N.Nodup) (hi : X.N[i]? = some x) (hx : Loc X.env.scope x) (hf : X.fn x = true ∨ X.env.scope.names.lookup x = some .local := by first | exact .inl rfl | exact .inr rfl | assumption) : VG X (.Name x pos) [i] (gSet i) :=
  ⟨PG.weak (pg_name hN hi hx hf) fun v σ H Q ⟨U, g, s, w, c, r, q⟩ => q _ (onlyAt_set σ i v) (c.store r) rfl⟩
theorem vgs_nil : VGs X [] [] gNilF := ⟨PGs.weak pgs_nil fun vs σ H Q ⟨U, g, s, xs, c, r, q⟩ => by
  cases r with
  | nil => exact ⟨rfl, q σ ⟨rfl, fun _ _ => rfl⟩ c rfl⟩
  | cons _ _ => exact q.elim⟩
theorem vgs_cons (h : VG X e is gf) (h2 : VGs X es js gs) (hs : (assignEach (e :: es) X.env).map (·.2) = assign e X.env :: (assignEach es X.env).map (·.2) := by rfl) : VGs X (e :: es) (is ++ js) (gConsF gf gs) :=
  ⟨PGs.weak (pgs_cons h.pg h2.pg hs) fun vs σ H Q ⟨U, g, s, xs, c, r, q⟩ => by
    cases r with
    | nil => exact q.elim
    | @cons v vr x xr r1 r2 =>
      refine ⟨v, vr, rfl, U, g, s, .d x, c, r1, ?_⟩
      cases e1 : gf (.d x) s with
      | none => simp only [gConsF, e1, Option.bind_none] at q; exact q.elim
      | some s1 =>
        simp only [gConsF, e1, Option.bind_some] at q
        refine fun σ1 o1 c1 eo => ⟨U, g, s1, xr, c1, r2, ?_⟩
        cases e2 : gs xr s1 with
        | none => rw [e2] at q; exact q.elim
        | some s2 =>
          rw [e2] at q
          exact fun σ2 o2 c2 eo2 => q σ2 ⟨o2.1.trans o1.1, fun i hi => by
            rw [List.mem_append, not_or] at hi
            exact (o2.2 i hi.2).trans (o1.2 i hi.1)⟩ c2 (eo2.trans eo)⟩
theorem vg_tup {k : Nat} (hc : X.calm = true) (h : VGs X es is gs) (hn : (assignEach es X.env).length = es.length := by rfl) (hst : (assignEach es X.env).findIdx? (·.1) = none := by rfl)
    (hlen : ∀ xs s, (gs xs s).isSome = true → xs.length = es.length) : VG X (.Tuple es k pos) is (gTupF gs) :=
  ⟨PG.weak (pg_tup hc h.pg hn hst) fun v σ H Q ⟨U, g, s, w, c, r, q⟩ => by
    cases w with
    | r n => exact q.elim
    | d x =>
      cases x with
      | tup xs =>
        have q' : PostG (pm X) U s g H σ is Q (gs xs s) := q
        obtain ⟨a, vs, rfl, h1, r1⟩ := Rep.top r c.hF
        refine ⟨a, vs, rfl, Same.seqT c.hF h1, ?_, U, g, s, xs, c, r1, q'⟩
        rw [r1.length]
        refine hlen xs s ?_
        cases e1 : gs xs s with
        | none => rw [e1] at q'; exact q'.elim
        | some s1 => rfl
      | _ => exact q.elim⟩
theorem vs_asg (h : VE X Wx e f) (hg : VG X tg is gf) (hs : swapsWithSole [tg] e pos.line X.env = pure false := by rfl) (hw : swappedStores [tg] e X.env = pure none := by rfl)
    (h1 : (assignEach [tg] X.env).map (·.2) = [assign tg X.env] := by rfl) : VS X Wx (.Assign [tg] e pos) (mAsg f gf) :=
  ⟨PS.weak (ps_asg h.pe hg.pg hs hw h1) fun D σ H ⟨U, g, s, c, q⟩ => ⟨U, g, s, c, PostS.ofR q fun g1 s1 H1 x l1 c1 q1 v rv => ⟨U, g1, s1, x, c1, rv, by
    cases e1 : gf x s1 with
    | none => rw [e1] at q1; exact q1.elim
    | some s2 =>
      rw [e1] at q1
      exact fun σ' o' c' eo => q1 g1 H1 σ' ⟨Same.refl _, fun _ _ => rfl, by rw [eo]; exact Nat.le_refl _⟩ c'⟩⟩⟩
end
theorem gNilF_len {xs : List D} {s : S} (h : (gNilF xs s).isSome = true) : xs.length = 0 := by
  unfold gNilF at h
  split at h
  · rfl
  · cases h
theorem gConsF_len {f : W → S → Option S} {fs : List D → S → Option S} {n : Nat} (hn : ∀ xs s, (fs xs s).isSome = true → xs.length = n) (xs : List D) (s : S) (h : (gConsF f fs xs s).isSome = true) : xs.length = n + 1 := by
  unfold gConsF at h
  split at h
  · rename_i x r
    cases e : f (.d x) s with
    | none => rw [e] at h; cases h
    | some s1 => rw [e] at h; rw [List.length_cons, hn r s1 h]
  · cases h

/-! ### what is walked -/
def ItOk (p : Pm) (g0 : Wd) (xs : List D) (J : It) : Prop := ∀ (U : Hp) (g : Wd) (s : S) (σ : St) (H : Hp) (i : Nat), Same g0.F g.F → Cfg p U g H σ s →
  (∀ x, xs[i]? = some x → J.go i H ∧ ∀ v H', J.yld i H v H' → ∃ g', Cfg p U g' H' σ s ∧ Le s s g g' ∧ Rep p g'.F v x) ∧ (xs.length ≤ i → J.stop i H)
abbrev TIt (p : Pm) (Rr : It → Hp → Prop) : Wd → S → Hp → List D → Prop := fun g s H xs => ∀ J, ItOk p g xs J → Rr J H
def tI (p : Pm) (Wx : WX) (f : S → R (List D)) : TI := fun σ H Rr => ∃ U g s, Cfg p U g H σ s ∧ Post p U s g σ Wx (TIt p Rr) (f s)
structure VI (X : Cx) (Wx : WX) (tg e : Expr) (f : S → R (List D)) : Prop where
  pi : PI X tg e (tI (pm X) Wx f)
section
variable {X : Cx} {Wx : WX} {tg e a b : Expr} {f : S → R W} {fs : S → R (List W)} {pos p : Pos}
theorem PI.weak {t t' : TI} (h : PI X tg e t) (w : ∀ σ H Q, t' σ H Q → t σ H Q) : PI X tg e t' := ⟨fun pins s σ H Q I q => h.run pins s σ H Q I (w _ _ _ q)⟩
theorem PI.or {t t' : TI} (h : PI X tg e t) (h' : PI X tg e t') : PI X tg e (fun σ H Q => t σ H Q ∨ t' σ H Q) := ⟨fun pins s σ H Q I q => q.elim (fun q => h.run pins s σ H Q I q) (fun q => h'.run pins s σ H Q I q)⟩
theorem itOk_list {pp : Pm} {g0 : Wd} {m : Addr} {vs : List V} {xs : List D} (h : SqL pp.K g0.F m vs) (r : Reps pp g0.F vs xs) : ItOk pp g0 xs (Itl pp.K m) := fun U g s σ H i sF c => by
  have hH : SqL pp.K H m vs := c.hF.seq (sF.seq h)
  refine ⟨fun x hx => ?_, fun hl => ⟨vs, hH, by rw [r.length]; exact hl⟩⟩
  obtain ⟨v, hv, rv⟩ := r.get hx
  refine ⟨⟨vs, v, hH, hv⟩, fun v' H' ⟨e1, y⟩ => ?_⟩
  subst e1
  have := y vs hH
  rw [hv] at this
  cases this
  exact ⟨g, c, Le.refl, rv.mono sF⟩
theorem itOk_tup {pp : Pm} {g0 : Wd} {m : Addr} {vs : List V} {xs : List D} (h : SqT pp.K g0.F m vs) (r : Reps pp g0.F vs xs) : ItOk pp g0 xs (Itt pp.K m) := fun U g s σ H i sF c => by
  have hH : SqT pp.K H m vs := Same.seqT c.hF (Same.seqT sF h)
  refine ⟨fun x hx => ?_, fun hl => ⟨vs, hH, by rw [r.length]; exact hl⟩⟩
  obtain ⟨v, hv, rv⟩ := r.get hx
  refine ⟨⟨vs, v, hH, hv⟩, fun v' H' ⟨e1, y⟩ => ?_⟩
  subst e1
  have := y vs hH
  rw [hv] at this
  cases this
  exact ⟨g, c, Le.refl, rv.mono sF⟩
def seqItems : W → Option (List D)
  | .d (.lst xs) => some xs
  | .d (.lro xs) => some xs
  | .d (.tup xs) => some xs
  | _ => none
def mSeqIt (f : S → R W) (s : S) : R (List D) := (f s).bind fun x s1 => match seqItems x with
  | some xs => .ok xs s1
  | none => .no
/-- over a list or a tuple that stands still -/
theorem vi_seq (h : VE X Wx e f) : VI X Wx tg e (mSeqIt f) :=
  ⟨PI.weak (PI.or (pi_list h.pe) (pi_tup h.pe)) fun σ H Rr ⟨U, g, s, c, q⟩ => by
    unfold mSeqIt at q
    cases e1 : f s with
    | no => rw [e1] at q; exact q.elim
    | err C ns xs s1 =>
      refine .inl ⟨U, g, s, c, ?_⟩
      rw [e1] at q ⊢
      exact q
    | ok w s1 =>
      rw [e1] at q
      have q : Post (pm X) U s g σ Wx (TIt (pm X) Rr) (match seqItems w with
        | some xs => .ok xs s1
        | none => .no) := q
      cases w with
      | r n => exact q.elim
      | d x =>
        cases x with
        | lst xs =>
          refine .inl ⟨U, g, s, c, ?_⟩
          rw [e1]
          intro g1 H1 l1 c1 v rv
          have rv' : Rep (pm X) g1.F v (.lst xs) := rv
          cases rv' with
          | lst hF r => exact ⟨_, rfl, ⟨_, c1.hF.seq (SqL.of hF)⟩, q g1 H1 l1 c1 _ (itOk_list (SqL.of hF) r)⟩
        | lro xs =>
          refine .inl ⟨U, g, s, c, ?_⟩
          rw [e1]
          intro g1 H1 l1 c1 v rv
          have rv' : Rep (pm X) g1.F v (.lro xs) := rv
          cases rv' with
          | lro hF r => exact ⟨_, rfl, ⟨_, c1.hF.seq hF⟩, q g1 H1 l1 c1 _ (itOk_list hF r)⟩
        | tup xs =>
          refine .inr ⟨U, g, s, c, ?_⟩
          rw [e1]
          intro g1 H1 l1 c1 v rv
          have rv' : Rep (pm X) g1.F v (.tup xs) := rv
          cases rv' with
          | tup hF r => exact ⟨_, rfl, ⟨_, Same.seqT c1.hF hF⟩, q g1 H1 l1 c1 _ (itOk_tup hF r)⟩
        | _ => exact q.elim⟩
/-- the ints lo, lo + 1, .. n of them -/
def zrange (lo : Int) (n : Nat) : List D := (List.range n).map fun (i : Nat) => D.int (lo + (i : Int))
theorem itOk_range {pp : Pm} {g0 : Wd} {lo : Int} {n : Nat} : ItOk pp g0 (zrange lo n) (Itr lo n) := fun U g s σ H i sF c => by
  have len : (zrange lo n).length = n := by unfold zrange; rw [List.length_map, List.length_range]
  refine ⟨fun x hx => ?_, fun hl => by rw [len] at hl; exact hl⟩
  have hi : i < n := by rw [← len]; exact (List.getElem?_eq_some_iff.mp hx).1
  refine ⟨hi, fun v' H' ⟨e1, e2⟩ => ?_⟩
  subst e1; subst e2
  unfold zrange at hx
  rw [List.getElem?_map, List.getElem?_range hi] at hx
  cases hx
  exact ⟨g, c, Le.refl, .int _⟩
def okR (i : Int) : Bool := decide (-(2 ^ 62) ≤ i ∧ i < 2 ^ 62)
theorem okR_s {i : Int} (h1 : -1000000000 ≤ i) (h2 : i ≤ 1000000000) : okR i = true := decide_eq_true ⟨by omega, by omega⟩
def mRange1 (fs : S → R (List W)) (s : S) : R (List D) := (fs s).bind fun ws s1 => match dsOf ws with
  | some [.int j] => if okR j then .ok (zrange 0 j.toNat) s1 else .no
  | _ => .no
def mRange2 (fs : S → R (List W)) (s : S) : R (List D) := (fs s).bind fun ws s1 => match dsOf ws with
  | some [.int i, .int j] => if okR i && okR j then .ok (zrange i (j - i).toNat) s1 else .no
  | _ => .no
theorem vi_range1 (hg : Gl X "range") (hm : X.mg "range" = none) (ha : VA X Wx [a] fs) (hs : starEach [a] X.env = [(false, eval a X.env)] := by rfl) : VI X Wx tg (.Call (.Name "range" p) [a] [] pos) (mRange1 fs) :=
  ⟨PI.weak (pi_range1 hg hm ha.pa hs) fun σ H Rr ⟨U, g, s, c, q⟩ => ⟨U, g, s, c, Post.seq q fun g1 s1 H1 ws l1 c1 q1 vs rs => by
    split at q1
    · rename_i j e1
      have r := dsOf_use rs e1
      cases r with
      | cons r0 rt =>
        cases rt
        cases r0
        split at q1
        · rename_i hj
          have h := of_decide_eq_true (show decide (-(2 ^ 62) ≤ j ∧ j < 2 ^ 62) = true from hj)
          exact ⟨j, rfl, h.1, h.2, q1.here c1 _ itOk_range⟩
        · exact q1.elim
    · exact q1.elim⟩⟩
theorem vi_range2 (hg : Gl X "range") (hm : X.mg "range" = none) (ha : VA X Wx [a, b] fs) (hs : starEach [a, b] X.env = [(false, eval a X.env), (false, eval b X.env)] := by rfl) (hs2 : starEach [b] X.env = [(false, eval b X.env)] := by rfl) : VI X Wx tg (.Call (.Name "range" p) [a, b] [] pos) (mRange2 fs) :=
  ⟨PI.weak (pi_range2 hg hm ha.pa hs hs2) fun σ H Rr ⟨U, g, s, c, q⟩ => ⟨U, g, s, c, Post.seq q fun g1 s1 H1 ws l1 c1 q1 vs rs => by
    split at q1
    · rename_i i j e1
      have r := dsOf_use rs e1
      cases r with
      | cons r0 rt =>
        cases rt with
        | cons r1 rt =>
          cases rt
          cases r0
          cases r1
          split at q1
          · rename_i hj
            rw [Bool.and_eq_true] at hj
            have h := of_decide_eq_true (show decide (-(2 ^ 62) ≤ i ∧ i < 2 ^ 62) = true from hj.1)
            have h2 := of_decide_eq_true (show decide (-(2 ^ 62) ≤ j ∧ j < 2 ^ 62) = true from hj.2)
            exact ⟨i, j, rfl, ⟨h.1, h.2, h2.1, h2.2⟩, q1.here c1 _ itOk_range⟩
          · exact q1.elim
    · exact q1.elim⟩⟩
end

/-! ### for, while -/
def forL (tg : W → S → Option S) (body : S → RS) : List D → S → RS
  | [], s => .nx s
  | x :: xs, s => match tg (.d x) s with
    | none => .no
    | some s1 => match body s1 with
      | .nx s2 => forL tg body xs s2
      | .ct s2 => forL tg body xs s2
      | .bk s2 => .nx s2
      | .rt w s2 => .rt w s2
      | .err C ns ys s2 => .err C ns ys s2
      | .no => .no
def mFor (it : S → R (List D)) (tg : W → S → Option S) (body : S → RS) (s : S) : RS := (it s).toS fun xs s1 => forL tg body xs s1
def whileL (c : S → R Bool) (b : S → RS) : Nat → S → RS
  | 0, _ => .no
  | n + 1, s => (c s).toS fun k s1 => if k then (match b s1 with
      | .nx s2 => whileL c b n s2
      | .ct s2 => whileL c b n s2
      | .bk s2 => .nx s2
      | .rt w s2 => .rt w s2
      | .err C ns ys s2 => .err C ns ys s2
      | .no => .no) else .nx s1
def mWhile (n : S → Nat) (c : S → R Bool) (b : S → RS) (s : S) : RS := whileL c b (n s) s
section
variable {X : Cx} {Wx : WX} {e tg iter : Expr} {fi : S → R (List D)} {c1 : S → R Bool} {gf : W → S → Option S} {m : S → RS} {pos : Pos} {sts : List Stmt} {is : List Nat}
theorem vs_for (hp : PassesOwn (model X.prog X.w) X.A X.env X.xe) (hc : X.calm = true) (hi : VI X Wx tg iter fi) (hg : VG X tg is gf) (hb : VSs X Wx sts m) (hs : ∀ x, foldedSetIterable iter X.env x = pure x := by intro _; rfl) :
    VS X Wx (.For tg iter sts [] pos) (mFor fi gf m) :=
  ⟨PS.weak (ps_for hp hc hi.pi hg.pg hb.ps hs) fun D σ H ⟨U, g, s, c, q⟩ => ⟨U, g, s, c, PostS.ofR q fun g1 s1 H1 xs l1 c1 q1 J hJ => by
    refine ⟨fun i n σ H => n = xs.length - i ∧ i ≤ xs.length ∧ ∃ g' s', Le s1 s' g1 g' ∧ Cfg (pm X) U g' H σ s' ∧ PostS (pm X) U s' g' Wx D (forL gf m (xs.drop i) s'), ⟨_, rfl, Nat.zero_le _, g1, s1, Le.refl, c1, q1⟩, ?_⟩
    rintro i n σ2 H2 ⟨rfl, hi, g2, s2, l2, c2, q2⟩
    have hj := hJ U g2 s2 σ2 H2 i l2.F c2
    by_cases hlt : i < xs.length
    · have hx : xs[i]? = some xs[i] := List.getElem?_eq_getElem hlt
      obtain ⟨go, yl⟩ := hj.1 _ hx
      rw [List.drop_eq_getElem_cons hlt] at q2
      refine .inr ⟨go, fun σ H => ∃ g' s', Le s1 s' g1 g' ∧ Cfg (pm X) U g' H σ s' ∧ PostS (pm X) U s' g' Wx D (forL gf m (xs.drop (i + 1)) s'), fun σ' H' ⟨g', s', a1, a2, a3⟩ => ⟨xs.length - (i + 1), by omega, rfl, hlt, g', s', a1, a2, a3⟩, fun v H' y => ?_⟩
      obtain ⟨g3, c3, l3, r3⟩ := yl v H' y
      refine ⟨U, g3, s2, .d xs[i], c3, r3, ?_⟩
      have q2 := PostS.le q2 l3
      simp only [forL] at q2
      cases e1 : gf (.d xs[i]) s2 with
      | none => rw [e1] at q2; exact q2.elim
      | some s4 =>
        rw [e1] at q2
        simp only at q2
        intro σ4 o4 c4 eo4
        have l4 : Le s2 s4 g3 g3 := ⟨Same.refl _, fun _ _ => rfl, by rw [eo4]; exact Nat.le_refl _⟩
        refine ⟨U, g3, s4, c4, ?_⟩
        cases e2 : m s4 with
        | no => rw [e2] at q2; exact q2.elim
        | nx s5 =>
          rw [e2] at q2
          exact fun g5 H5 σ5 l5 c5 => ⟨g5, s5, (l2.trans l3).trans (l4.trans l5), c5, PostS.le q2 (l4.trans l5)⟩
        | ct s5 =>
          rw [e2] at q2
          exact fun g5 H5 σ5 l5 c5 => ⟨g5, s5, (l2.trans l3).trans (l4.trans l5), c5, PostS.le q2 (l4.trans l5)⟩
        | bk s5 =>
          rw [e2] at q2
          exact fun g5 H5 σ5 l5 c5 => q2 g5 H5 σ5 (l4.trans l5) c5
        | rt w s5 =>
          rw [e2] at q2
          exact fun g5 H5 σ5 v5 l5 c5 r5 => q2 g5 H5 σ5 v5 (l4.trans l5) c5 r5
        | err C ns ys s5 =>
          rw [e2] at q2
          exact fun g5 H5 σ5 dx l5 c5 r5 => q2 g5 H5 σ5 dx (l4.trans l5) c5 r5
    · have e1 : i = xs.length := by omega
      subst e1
      rw [List.drop_length] at q2
      exact .inl ⟨hj.2 (Nat.le_refl _), PostS.nx q2 c2⟩⟩⟩
theorem vs_while (n : S → Nat) (hp : PassesOwn (model X.prog X.w) X.A X.env X.xe) (hc : VT X Wx e c1) (hb : VSs X Wx sts m) : VS X Wx (.While e sts [] pos) (mWhile n c1 m) :=
  ⟨PS.weak (ps_while hp hc.pt hb.ps) fun D σ H ⟨U, g, s, c, q⟩ => by
    refine ⟨fun k σ H => ∃ g' s', Le s s' g g' ∧ Cfg (pm X) U g' H σ s' ∧ PostS (pm X) U s' g' Wx D (whileL c1 m k s'), ⟨n s, g, s, Le.refl, c, q⟩, ?_⟩
    rintro k σ2 H2 ⟨g2, s2, l2, c2, q2⟩
    cases k with
    | zero => exact q2.elim
    | succ k =>
      refine ⟨U, g2, s2, c2, PostS.ofR q2 fun g3 s3 H3 b l3 c3 q3 => ?_⟩
      cases b with
      | false => exact iteF (PostS.nx q3 c3)
      | true =>
        refine iteT ⟨fun σ H => ∃ g' s', Le s s' g g' ∧ Cfg (pm X) U g' H σ s' ∧ PostS (pm X) U s' g' Wx D (whileL c1 m k s'), fun σ' H' w => ⟨k, Nat.lt_succ_self _, w⟩, U, g3, s3, c3, ?_⟩
        rw [if_pos rfl] at q3
        cases e2 : m s3 with
        | no => rw [e2] at q3; exact q3.elim
        | nx s5 =>
          rw [e2] at q3
          exact fun g5 H5 σ5 l5 c5 => ⟨g5, s5, (l2.trans l3).trans l5, c5, PostS.le q3 l5⟩
        | ct s5 =>
          rw [e2] at q3
          exact fun g5 H5 σ5 l5 c5 => ⟨g5, s5, (l2.trans l3).trans l5, c5, PostS.le q3 l5⟩
        | bk s5 =>
          rw [e2] at q3
          exact fun g5 H5 σ5 l5 c5 => q3 g5 H5 σ5 l5 c5
        | rt w s5 =>
          rw [e2] at q3
          exact fun g5 H5 σ5 v5 l5 c5 r5 => q3 g5 H5 σ5 v5 l5 c5 r5
        | err C ns ys s5 =>
          rw [e2] at q3
          exact fun g5 H5 σ5 dx l5 c5 r5 => q3 g5 H5 σ5 dx l5 c5 r5⟩
end
end VL
/-! VL: list comprehensions. -/
namespace VL
open PySem PySem.Spec PyProof.Rows L2

section
variable {p : Pm} {U : Hp} {g : Wd} {H : Hp} {σ : St} {s : S}
def del (H : Hp) (a : Addr) : Hp := fun b => if b = a then none else H b
theorem del_ne {H : Hp} {a b : Addr} (h : b ≠ a) : del H a b = H b := if_neg h
theorem del_same {H : Hp} {a : Addr} : del H a a = none := if_pos rfl
theorem upd_del {H : Hp} {a : Addr} {o : HO} (h : H a = some o) : upd (del H a) a o = H := by
  funext b
  by_cases q : b = a
  · subst q; rw [upd_same, h]
  · rw [upd_ne q, del_ne q]
theorem same_del {F H : Hp} {a : Addr} (e : Same F H) (n : F a = none) : Same F (del H a) := fun b u h => by
  rw [del_ne (ne_of_none h n)]
  exact e b u h
/-- an object of the callers' more -/
theorem Cfg.lay (c : Cfg p U g H σ s) {a : Addr} {o : HO} (n : H a = none) : Cfg p (upd U a o) g (upd H a o) σ s :=
  ⟨same_upd c.hF (c.freshF n), same_upd2 c.hU, fun k hk => same_upd (c.hO k hk) (c.freshO hk n), fun b h => by
    rw [upd_ne (fun q => h (by rw [q]; exact c.freshF n))]
    exact c.dFU b h, fun k b hk h => by
    refine ⟨(c.dO k b hk h).1, ?_⟩
    rw [upd_ne (fun q => h (by rw [q]; exact c.freshO hk n))]
    exact (c.dO k b hk h).2, c.dOO, c.ln, c.vs, c.os⟩
/-- what is at a belongs to nobody here -/
theorem Cfg.noF (c : Cfg p U g H σ s) {a : Addr} (h : U a ≠ none) : g.F a = none := by
  cases q : g.F a with
  | none => rfl
  | some u => exact absurd (c.dFU a (by rw [q]; simp)) h
theorem Cfg.noO (c : Cfg p U g H σ s) {a : Addr} {k : Nat} (hk : k < s.os.length) (h : U a ≠ none) : g.own k a = none := by
  cases q : g.own k a with
  | none => rfl
  | some u => exact absurd (c.dO k a hk (by rw [q]; simp)).2 h
theorem Cfg.take (c : Cfg p (upd U a o) g H σ s) (n : U a = none) : Cfg p U g (del H a) σ s ∧ upd (del H a) a o = H := by
  have ne : upd U a o a ≠ none := by rw [upd_same]; simp
  refine ⟨⟨same_del c.hF (c.noF ne), fun b u h => ?_, fun k hk => same_del (c.hO k hk) (c.noO hk ne), fun b h => ?_, fun k b hk h => ?_, c.dOO, c.ln, c.vs, c.os⟩, upd_del (c.hU a o upd_same)⟩
  · have q : b ≠ a := ne_of_none h n
    rw [del_ne q]
    exact c.hU b u (by rw [upd_ne q]; exact h)
  · by_cases q : b = a
    · rw [q]; exact n
    · have := c.dFU b h
      rw [upd_ne q] at this; exact this
  · refine ⟨(c.dO k b hk h).1, ?_⟩
    by_cases q : b = a
    · rw [q]; exact n
    · have := (c.dO k b hk h).2
      rw [upd_ne q] at this; exact this
theorem Cfg.relay (c : Cfg p (upd U a o) g H σ s) (n : U a = none) (o' : HO) : Cfg p (upd U a o') g (upd H a o') σ s := by
  have q := (c.take n).1.lay (a := a) (o := o') del_same
  have e : upd (del H a) a o' = upd H a o' := by
    funext b
    by_cases q : b = a
    · subst q; rw [upd_same, upd_same]
    · rw [upd_ne q, upd_ne q, del_ne q]
  rw [e] at q
  exact q
end

/-! ### the slots of a block -/
def wipeW (vs : List (Option W)) : List Nat → List (Option W)
  | [] => vs
  | i :: is => (wipeW vs is).set i none
theorem wipeW_len (vs : List (Option W)) : ∀ is, (wipeW vs is).length = vs.length
  | [] => rfl
  | i :: is => by unfold wipeW; rw [List.length_set, wipeW_len vs is]
theorem wipeW_some {vs : List (Option W)} {i : Nat} {x : W} : ∀ {is : List Nat}, (wipeW vs is)[i]? = some (some x) → vs[i]? = some (some x) ∧ i ∉ is
  | [], h => ⟨h, by simp⟩
  | j :: is, h => by
    unfold wipeW at h
    by_cases hi : j = i
    · subst hi
      by_cases hv : j < (wipeW vs is).length
      · rw [List.getElem?_set_self hv] at h; cases h
      · rw [List.getElem?_eq_none (by simpa using hv)] at h; cases h
    · rw [List.getElem?_set_ne hi] at h
      obtain ⟨h1, h2⟩ := wipeW_some h
      exact ⟨h1, by simp only [List.mem_cons, not_or]; exact ⟨fun e => hi e.symm, h2⟩⟩
theorem wipe_gone {σ : St} {i : Nat} (hi : i < σ.length) : ∀ {is : List Nat}, i ∈ is → (wipe σ is)[i]? = some none
  | j :: is, h => by
    unfold wipe
    by_cases e : j = i
    · subst e
      exact List.getElem?_set_self (by rw [wipe_length]; exact hi)
    · rw [List.getElem?_set_ne e]
      rcases List.mem_cons.mp h with q | q
      · exact absurd q.symm e
      · exact wipe_gone hi q
theorem wipe_stay {σ : St} {i : Nat} : ∀ {is : List Nat}, i ∉ is → (wipe σ is)[i]? = σ[i]?
  | [], _ => rfl
  | j :: is, h => by
    unfold wipe
    have h1 : j ≠ i := fun e => h (by simp [e])
    have h2 : i ∉ is := fun e => h (by simp [e])
    rw [List.getElem?_set_ne h1]
    exact wipe_stay h2
theorem wipe_eq {σ σ2 : St} {is own : List Nat} (o : OnlyAt is (wipe σ own) σ2) (hs : ∀ i ∈ is, i ∈ own) : wipe σ2 own = wipe σ own := by
  have hl : σ2.length = σ.length := by rw [o.1, wipe_length]
  apply List.ext_getElem?
  intro i
  by_cases hi : i ∈ own
  · by_cases hlt : i < σ.length
    · rw [wipe_gone hlt hi, wipe_gone (by rw [hl]; exact hlt) hi]
    · rw [List.getElem?_eq_none (by rw [wipe_length, hl]; omega), List.getElem?_eq_none (by rw [wipe_length]; omega)]
  · rw [wipe_stay hi, o.2 i (fun e => hi (hs i e))]
theorem Cfg.wiped {p : Pm} {U : Hp} {g : Wd} {H : Hp} {σ : St} {s : S} (c : Cfg p U g H σ s) (own : List Nat) : Cfg p U g H (wipe σ own) ⟨wipeW s.vs own, s.os⟩ :=
  c.slots (by rw [wipeW_len, wipe_length]; exact c.ln) fun i x h => by
    obtain ⟨h1, h2⟩ := wipeW_some h
    obtain ⟨v, h3, h4⟩ := c.vs i x h1
    exact ⟨v, by rw [wipe_stay h2]; exact h3, h4⟩

/-! ### [elt for target in iter if test] -/
def lcL (vs0 : List (Option W)) (own : List Nat) (tg : W → S → Option S) (tt : S → R Bool) (te : S → R W) : List D → List D → List O → R (List D)
  | [], acc, os => .ok acc ⟨vs0, os⟩
  | x :: xs, acc, os => match tg (.d x) ⟨wipeW vs0 own, os⟩ with
    | none => .no
    | some s1 => match tt s1 with
      | .ok false s2 => lcL vs0 own tg tt te xs acc s2.os
      | .ok true s2 => (match te s2 with
        | .ok (.d y) s3 => if fits (acc.length + 1) then lcL vs0 own tg tt te xs (acc ++ [y]) s3.os else .no
        | _ => .no)
      | _ => .no
def mLc (rg : Bool) (fi : S → R (List D)) (own : List Nat) (tg : W → S → Option S) (tt : S → R Bool) (te : S → R W) (s : S) : R W :=
  (fi s).bind fun xs s1 => (lcL s1.vs own tg tt te xs [] s1.os).bind fun ds s2 => s2.put rg (.n (.lst ds))
def mYes (s : S) : R Bool := .ok true s
structure VTs (X : Cx) (Wx : WX) (es : List Expr) (f : S → R Bool) : Prop where
  pt : PTs X es (tT (pm X) Wx f)
theorem PTs.weak {X : Cx} {es : List Expr} {t t' : TT} (h : PTs X es t) (w : ∀ σ H Q, t' σ H Q → t σ H Q) : PTs X es t' := ⟨fun pins s σ H Q I q => h.run pins s σ H Q I (w _ _ _ q)⟩
section
variable {X : Cx} {Wx Wb : WX} {e tg iter : Expr} {fi : S → R (List D)} {tt : S → R Bool} {te : S → R W} {gf : W → S → Option S} {pos : Pos} {is : List Nat} {ifs : List Expr} {scope : Scope} {own : List (Str × Nat)} {rg : Bool}
theorem vts_nil : VTs X Wx [] mYes := ⟨PTs.weak pts_nil fun σ H Q ⟨U, g, s, c, q⟩ => q.here c⟩
theorem vts_one (h : VT X Wx e tt) : VTs X Wx [e] tt := ⟨pts_one h.pt⟩
theorem lc_red (hi : ∀ i ∈ is, i ∈ own.map (·.2)) {σ : St} {H : Hp} {Q : VK} (h : tV (pm X) Wx (mLc rg fi (own.map (·.2)) gf tt te) σ H Q) :
    tLc (tI (pm X) Wx fi) (tG (pm X) is gf) (tT (pm X) Wb tt) (tV (pm X) Wb te) (own.map (·.2)) σ H Q := by
  obtain ⟨U, g, s, c, q⟩ := h
  refine ⟨U, g, s, c, Post.seq q fun g1 s1 H1 xs l1 c1 q1 J hJ Dd nD => ?_⟩
  refine ⟨fun i n H => n = xs.length - i ∧ i ≤ xs.length ∧ ∃ g' os acc vs, Le s1 ⟨s1.vs, os⟩ g1 g' ∧ Cfg (pm X) (upd U Dd (.lst vs)) g' H σ ⟨s1.vs, os⟩ ∧ Reps (pm X) g'.F vs acc ∧
    Post (pm X) U ⟨s1.vs, os⟩ g' σ Wx (TV (pm X) Q) ((lcL s1.vs (own.map (·.2)) gf tt te (xs.drop i) acc os).bind fun ds s2 => s2.put rg (.n (.lst ds))),
    ⟨_, rfl, Nat.zero_le _, g1, s1.os, [], [], Le.refl, c1.lay nD, .nil, q1⟩, ?_⟩
  rintro i n H2 ⟨rfl, hi', g2, os, acc, vs, l2, c2, r2, q2⟩
  have nU : U Dd = none := c1.freshU nD
  have hj := hJ _ g2 _ σ H2 i l2.F c2
  by_cases hlt : i < xs.length
  · have hx : xs[i]? = some xs[i] := List.getElem?_eq_getElem hlt
    obtain ⟨go, yl⟩ := hj.1 _ hx
    rw [List.drop_eq_getElem_cons hlt] at q2
    refine .inr ⟨go, fun H => ∃ g' os acc vs, Le s1 ⟨s1.vs, os⟩ g1 g' ∧ Cfg (pm X) (upd U Dd (.lst vs)) g' H σ ⟨s1.vs, os⟩ ∧ Reps (pm X) g'.F vs acc ∧
      Post (pm X) U ⟨s1.vs, os⟩ g' σ Wx (TV (pm X) Q) ((lcL s1.vs (own.map (·.2)) gf tt te (xs.drop (i + 1)) acc os).bind fun ds s2 => s2.put rg (.n (.lst ds))),
      fun H' w => ⟨xs.length - (i + 1), by omega, rfl, hlt, w⟩, fun v H' y => ?_⟩
    obtain ⟨g3, c3, l3, r3⟩ := yl v H' y
    have q2 := Post.le q2 l3
    simp only [lcL] at q2
    refine ⟨_, g3, ⟨wipeW s1.vs (own.map (·.2)), os⟩, .d xs[i], c3.wiped _, r3, ?_⟩
    cases e1 : gf (.d xs[i]) ⟨wipeW s1.vs (own.map (·.2)), os⟩ with
    | none => rw [e1] at q2; exact q2.elim
    | some s4 =>
      rw [e1] at q2
      simp only at q2
      intro σ4 o4 c4 eo4
      refine ⟨wipe_eq o4 hi, ?_⟩
      have l4 : Le ⟨s1.vs, os⟩ s4 g3 g3 := ⟨Same.refl _, fun _ _ => rfl, by rw [eo4]; exact Nat.le_refl _⟩
      refine ⟨_, g3, s4, c4, ?_⟩
      cases e2 : tt s4 with
      | no => rw [e2] at q2; exact q2.elim
      | err C ns ys s5 => rw [e2] at q2; exact q2.elim
      | ok b s5 =>
        rw [e2] at q2
        intro g5 H5 l5 c5
        have back : ∀ {g6 : Wd} {H6 : Hp} {s6 : S} {vs' : List V} {σ6 : St}, Le s5 s6 g5 g6 → Cfg (pm X) (upd U Dd (.lst vs')) g6 H6 σ6 s6 → Cfg (pm X) (upd U Dd (.lst vs')) g6 H6 σ ⟨s1.vs, s6.os⟩ := fun {g6 H6 s6 vs' σ6} l6 c6 =>
          c6.slots c1.ln fun j x hx => by
            obtain ⟨v, h1, h2⟩ := c1.vs j x hx
            exact ⟨v, h1, h2.le (s' := s6) ⟨((l2.F.trans l3.F).trans l5.F).trans l6.F, fun k hk => by
              have k2 : k < os.length := Nat.lt_of_lt_of_le hk l2.len
              have k3 : k < s4.os.length := by rw [eo4]; exact k2
              rw [l6.rt k (Nat.lt_of_lt_of_le k3 l5.len), l5.rt k k3, l3.rt k k2, l2.rt k hk], Nat.le_trans (Nat.le_trans (Nat.le_trans l2.len l4.len) l5.len) l6.len⟩⟩
        have lall : ∀ {g6 : Wd} {s6 : S}, Le s5 s6 g5 g6 → Le s1 ⟨s1.vs, s6.os⟩ g1 g6 ∧ Le ⟨s1.vs, os⟩ ⟨s1.vs, s6.os⟩ g3 g6 := fun {g6 s6} l6 => by
          have k := (l4.trans l5).trans l6
          have k2 : Le (⟨s1.vs, os⟩ : S) ⟨s1.vs, s6.os⟩ g3 g6 := ⟨k.F, k.rt, k.len⟩
          exact ⟨(l2.trans l3).trans k2, k2⟩
        cases b with
        | false =>
          refine iteF ?_
          obtain ⟨la, lb⟩ := lall (Le.refl (s := s5) (g := g5))
          exact ⟨g5, s5.os, acc, vs, la, back Le.refl c5, r2.mono (l3.F.trans l5.F), Post.le q2 lb⟩
        | true =>
          refine iteT ⟨_, g5, s5, c5, ?_⟩
          simp only at q2
          cases e3 : te s5 with
          | no => rw [e3] at q2; exact q2.elim
          | err C ns ys s6 => rw [e3] at q2; exact q2.elim
          | ok y s6 =>
            rw [e3] at q2
            cases y with
            | r k => exact q2.elim
            | d y =>
              simp only at q2
              intro g6 H6 l6 c6 vy ry
              by_cases hf : fits (acc.length + 1) = true
              · rw [if_pos hf] at q2
                obtain ⟨la, lb⟩ := lall l6
                have r6 := r2.mono ((l3.F.trans l5.F).trans l6.F)
                refine ⟨vs, c6.hU _ _ upd_same, ?_, g6, s6.os, acc ++ [y], vs ++ [vy], la, back l6 (c6.relay nU _), r6.app (.cons ry .nil), Post.le q2 lb⟩
                rw [r2.length]
                exact of_decide_eq_true hf
              · rw [if_neg hf] at q2; exact q2.elim
  · have e1 : i = xs.length := by omega
    subst e1
    rw [List.drop_length] at q2
    obtain ⟨ct, eu⟩ := c2.take nU
    refine .inl ⟨hj.2 (Nat.le_refl _), ?_⟩
    have w := want_put (X := X) (Wx := Wx) (Q := Q) (rg := rg) (z := .n (.lst acc)) ct q2
    have := w Dd (.lst vs) del_same ⟨vs, rfl, r2⟩
    rw [eu] at this
    exact this
theorem ve_lc (hc : X.calm = true) (hN : X.N.Nodup) (hit : VI X Wx tg iter fi) (ok : BlkOk X.N X.env.scope scope own) (hi : ∀ i ∈ is, i ∈ own.map (·.2))
    (hg : ∀ (s : Shared) (H : Hp) (C : Addr) (cl : List (Str × Addr)) (fp : List Addr), VG (X.blk s H scope (compEnvC scope cl C X.env) fp) tg is gf)
    (ht : ∀ (s : Shared) (H : Hp) (C : Addr) (cl : List (Str × Addr)) (fp : List Addr), VTs (X.blk s H scope (compEnvC scope cl C X.env) fp) Wb ifs tt)
    (he : ∀ (s : Shared) (H : Hp) (C : Addr) (cl : List (Str × Addr)) (fp : List Addr), VE (X.blk s H scope (compEnvC scope cl C X.env) fp) Wb e te)
    (hs : ∀ x, foldedSetIterable iter X.env x = pure x := by intro _; rfl) : VE X Wx (.ListComp e [⟨tg, iter, ifs, 0⟩] scope pos) (mLc rg fi (own.map (·.2)) gf tt te) :=
  ⟨PE.weak (pe_lc hc hN hit.pi ok (fun s H C cl fp => (hg s H C cl fp).pg) (fun s H C cl fp => (ht s H C cl fp).pt) (fun s H C cl fp => (he s H C cl fp).pe) hs) fun _ _ _ h => lc_red hi h⟩
/-- y = [..] on one line -/
theorem vs_setLc (i : Nat) {y : Str} {py spos : Pos} (hc : X.calm = true) (hN : X.N.Nodup) (hy : X.N[i]? = some y) (hyl : X.env.scope.names.lookup y = some .local)
    (hsw : swapsWith (.ListComp e [⟨tg, iter, ifs, 0⟩] scope pos) (some (.Name y py)) spos.line X.env = pure true) (hit : VI X Wx tg iter fi) (ok : BlkOk X.N X.env.scope scope own) (hi : ∀ i ∈ is, i ∈ own.map (·.2))
    (hg : ∀ (s : Shared) (H : Hp) (C : Addr) (cl : List (Str × Addr)) (fp : List Addr), VG (X.blk s H scope (compEnvC scope cl C X.env) fp) tg is gf)
    (ht : ∀ (s : Shared) (H : Hp) (C : Addr) (cl : List (Str × Addr)) (fp : List Addr), VTs (X.blk s H scope (compEnvC scope cl C X.env) fp) Wb ifs tt)
    (he : ∀ (s : Shared) (H : Hp) (C : Addr) (cl : List (Str × Addr)) (fp : List Addr), VE (X.blk s H scope (compEnvC scope cl C X.env) fp) Wb e te)
    (hs : ∀ x, foldedSetIterable iter X.env x = pure x := by intro _; rfl) : VS X Wx (.Assign [.Name y py] (.ListComp e [⟨tg, iter, ifs, 0⟩] scope pos) spos) (mSet i (mLc rg fi (own.map (·.2)) gf tt te)) :=
  ⟨PS.weak (ps_setLc hc hN hy hyl hsw hit.pi ok (fun s H C cl fp => (hg s H C cl fp).pg) (fun s H C cl fp => (ht s H C cl fp).pt) (fun s H C cl fp => (he s H C cl fp).pe) hs) fun D σ H ⟨U, g, s, c, q⟩ =>
    lc_red (Q := fun x H1 => gName i x σ H1 D.nx) hi ⟨U, g, s, c, PostS.ofR q fun g1 s1 H1 x l1 c1 q1 v rv => q1 g1 H1 _ ⟨Same.refl _, fun _ _ => rfl, Nat.le_refl _⟩ (c1.store rv)⟩⟩
end
end VL
/-! VL: defs, their promises, calls. -/
namespace VL
open PySem PySem.Spec PyProof.Rows L2

/-! ### defs that are called while no repr runs -/
/-- as FnOk, only ever called where no repr is under way -/
structure FnG (P : Program) (w : World) (K : PySem.W.Frag) (mg : Str → Option Value) (base : Heap) (CX : CXT) (k : Nat) (f : Addr) (fd : FuncData) (ps : List Str) (sp : Sp) : Prop where
  len : ∀ vs H Q E, sp vs H Q E → vs.length = ps.length
  go : ∀ (A : Around) (outer : List Env) (s : Shared) (H : Hp) (args : Args) (us : List Value) (vs : List V) (Q : VK) (E : XK), A.guards = some [] → Room k A → Env0 P w K mg base A outer s H →
    BindsTo s fd args (ps.zip us) → Vals vs us → sp vs H Q E → codeAny (model P w) A (.call (.ref f) args) (CR CX outer P w H s Q E) s
theorem FnG.mono {P : Program} {w : World} {K : PySem.W.Frag} {mg : Str → Option Value} {base : Heap} {CX : CXT} {j k : Nat} {f : Addr} {fd : FuncData} {ps : List Str} {sp : Sp} (F : FnG P w K mg base CX j f fd ps sp) (h : j ≤ k) : FnG P w K mg base CX k f fd ps sp :=
  ⟨F.len, fun A outer s H args us vs Q E gd hr => F.go A outer s H args us vs Q E gd (hr.mono h)⟩
theorem FnG.imp {P : Program} {w : World} {K : PySem.W.Frag} {mg : Str → Option Value} {base : Heap} {CX : CXT} {k : Nat} {f : Addr} {fd : FuncData} {ps : List Str} {sp sp' : Sp} (F : FnG P w K mg base CX k f fd ps sp) (h : ∀ vs H Q E, sp' vs H Q E → sp vs H Q E) :
    FnG P w K mg base CX k f fd ps sp' := ⟨fun vs H Q E q => F.len vs H Q E (h _ _ _ _ q), fun A outer s H args us vs Q E gd hr he hb hv hs => F.go A outer s H args us vs Q E gd hr he hb hv (h _ _ _ _ hs)⟩
section
variable {X : Cx} {CX : CXT} {k : Nat} {f : Addr} {fd : FuncData} {ps : List Str} {sp : Sp} {E : XK}
/-- the callee runs: args as they are bound -/
theorem go_fn {pins : List (Addr × Obj)} {σ : St} {H : Hp} {s : Shared} {Q : VK} {us : List Value} {kw : List (Str × Value)} {as : List Value} {vs : List V} (F : FnG X.prog X.w X.K X.mg X.base CX k f fd ps sp) (gd : X.A.guards = some []) (hr : Room k X.A)
    (hb : as.length = ps.length → BindsTo s fd ⟨us, kw⟩ (ps.zip as)) (hx : Passes CX X E) (I : Inv X pins σ H s) (r : Vals vs as) (h : sp vs H Q E) : wpAny (model X.prog X.w) X.A (call (.ref f) us kw) (EP X pins σ Q) X.xe s := by
  have q := F.go X.A X.stack s H ⟨us, kw⟩ as vs Q E gd hr I.env0 (hb (r.length.symm.trans (F.len _ _ _ _ h))) r h
  refine wpAny_call (codeAny_mono q ?_)
  rintro (e | fl) s' hq
  · exact hx pins σ H s e s' I hq
  · cases fl with
    | ret u => exact I.after hq
    | next => cases hq
    | brk => cases hq
    | cont => cases hq
end
section
variable {CX : CXT} {P : Program} {w : World} {K : PySem.W.Frag} {mg : Str → Option Value} {base : Heap} {k : Nat} {f : Addr} {name qual : Str} {params : Arguments} {body : List Stmt} {scope : Scope} {dV kV doc pm cdv ct oc : Value} {an od : Option Addr}
  {osl : Array (Option Value)} {N ps : List Str} {sp : Sp}
/-- a def's promise by its body, where no repr is under way -/
theorem g_of (lk : K.lookup f = some ⟨oc, od, .func (PySem.W.fnOf name qual params body scope dV kV doc pm an cdv ct), osl⟩) (hcd : PySem.W.codeIn K cdv qual = true) (Sc : FnScope N ps scope) (len : ∀ vs H Q E, sp vs H Q E → vs.length = ps.length)
    (hbody : ∀ (A : Around) (outer : List Env) (s : Shared) (H : Hp) (vs : List V) (Q : VK) (E : XK), A.guards = some [] → Room k (A.deeper (envOfC qual scope s.heap.objs.size f cdv)) → sp vs H Q E →
      ∃ t, PSs (cxOf CX P w K mg base N qual scope f cdv A outer s H E) body t ∧ t { nx := fun _ H' => Q .non H', rt := Q } (L2.start N vs) H) :
    FnG P w K mg base CX (k + 1) f (PySem.W.fnOf name qual params body scope dV kV doc pm an cdv ct) ps sp := by
  constructor
  · exact len
  · intro A outer s H args us vs Q E gd hr e0 hb r hsp
    have kin : K.In s.heap := e0.mod.kin.keeps fun b o e => (e0.bs b o e).1
    have nlim : s.heap.NoLimit := e0.mod.nolimit.keeps fun b o e => (e0.bs b o e).1
    have known : ∀ y ∈ ps.zip us, scope.names.lookup y.1 = some .local ∨ (scope.names.lookup y.1 = some .cell ∧ ((cellsFrom (s.heap.objs.size + 1) scope.names []).lookup y.1).isSome = true) := by
      rintro ⟨x, u⟩ hy
      have hx := Sc.par x (List.of_mem_zip hy).1
      exact hx.elim .inl fun q => .inr ⟨q, PySem.W.cellsFrom_some _ _ _ (.inl q)⟩
    obtain ⟨t, ht, hq⟩ := hbody A outer s H vs Q E gd (hr.deeper _) hsp
    refine codeAny_call_function hr.depth (kin _ _ lk) rfl Sc.co Sc.gen rfl (PySem.W.codeRec_of kin hcd) (hb _ _ _ _ (wpAny_newFunctionEnv_cells Sc.kind known ?_))
    rintro env rfl s1 x
    refine ⟨nlim.keeps x.toInCall.keep, codeAny_func ?_⟩
    have I : Inv (cxOf CX P w K mg base N qual scope f cdv A outer s H E) [] (L2.start N vs) H s1 := inv_start Sc hr.hd e0 (len _ _ _ _ hsp) r x
    have ends : ∀ {σ' : St} {H' : Hp} {v : V} {u : Value} {s' : Shared}, Inv (cxOf CX P w K mg base N qual scope f cdv A outer s H E) [] σ' H' s' → RelV v u → Q v H' → CE outer P w H s Q u s' :=
      fun {σ' H' v u s'} J rv q => ⟨v, H', J.os, J.bare, J.base, J.hok, rv, q⟩
    refine wpAny_mono (ht.run [] s1 (L2.start N vs) H _ I hq) ?_ fun e s' hs => hs
    intro fl s' hs
    cases fl with
    | next =>
      obtain ⟨σ', H', J, q⟩ := hs
      exact ends (v := .non) (u := .none) J rfl q
    | ret u =>
      obtain ⟨v, σ', H', J, rv, q⟩ := hs
      exact ends J rv q
    | brk =>
      obtain ⟨_, _, _, q⟩ := hs
      cases q
    | cont =>
      obtain ⟨_, _, _, q⟩ := hs
      cases q
end
abbrev lft (E : XK) : WX := fun c d _ H => E c d H
/-- a def's promise: it computes m of the arguments and the regions among them -/
def spM (p : Pm) (n : Nat) (m : S → R W) : Sp := fun vs H Q E => vs.length = n ∧ ∃ U g s, Cfg p U g H (vs.map some) s ∧ s.vs.length = n ∧ Post p U s g [] (lft E) (TV p Q) (m s)
/-- the end of a body: the regions that came, and what is handed back -/
def fin (n : Nat) (x : W) (os : List O) : R W := match x with
  | .d d => .ok (.d d) ⟨[], os.take n⟩
  | .r k => if k < n then .ok (.r k) ⟨[], os.take n⟩ else match os[k]? with
    | some o => .ok (.r n) ⟨[], os.take n ++ [o]⟩
    | none => .no
def fnB (N : Nat) (body : S → RS) (s : S) : R W := match body ⟨s.vs ++ List.replicate (N - s.vs.length) none, s.os⟩ with
  | .nx s' => fin s.os.length (.d .non) s'.os
  | .rt x s' => fin s.os.length x s'.os
  | .err C ns xs s' => .err C ns xs ⟨[], s'.os.take s.os.length⟩
  | _ => .no
section
variable {p : Pm} {U : Hp} {g : Wd} {H : Hp} {σ : St} {s s' : S}
theorem take_get {α : Type} {l : List α} {n k : Nat} {x : α} (h : (l.take n)[k]? = some x) : k < n ∧ l[k]? = some x := by
  rw [List.getElem?_take] at h
  split at h
  · exact ⟨by assumption, h⟩
  · cases h
theorem Cfg.cut (c : Cfg p U g H σ s) (n : Nat) : Cfg p U g H [] ⟨[], s.os.take n⟩ := by
  have len : ∀ {k}, k < (s.os.take n).length → k < s.os.length := fun h => by rw [List.length_take] at h; omega
  exact ⟨c.hF, c.hU, fun k hk => c.hO k (len hk), c.dFU, fun k b hk => c.dO k b (len hk), fun m k b hm hk => c.dOO m k b (len hm) (len hk), Nat.le_refl _, fun i x h => by simp at h, fun k o h => c.os k o (take_get h).2⟩
/-- .. and one more that is handed back -/
theorem Cfg.cutR (c : Cfg p U g H σ s) {n k : Nat} {o : O} (hk : s.os[k]? = some o) (hn : n ≤ k) :
    Cfg p U ⟨g.F, fun j => if j = n then g.root k else g.root j, fun j => if j = n then g.own k else g.own j⟩ H [] ⟨[], s.os.take n ++ [o]⟩ := by
  have hkl : k < s.os.length := (List.getElem?_eq_some_iff.mp hk).1
  have ln : (s.os.take n).length = n := by rw [List.length_take]; omega
  have cs : ∀ {j}, j < (s.os.take n ++ [o]).length → j < n ∨ j = n := fun h => by rw [List.length_append, ln, List.length_singleton] at h; omega
  have lo : ∀ {j}, j < n → j < s.os.length := fun h => by omega
  refine ⟨c.hF, c.hU, fun j hj => ?_, c.dFU, fun j b hj h => ?_, fun i j b hi hj hij h => ?_, Nat.le_refl _, fun i x h => by simp at h, fun j y h => ?_⟩
  · show Same (if j = n then g.own k else g.own j) H
    rcases cs hj with q | q
    · rw [if_neg (Nat.ne_of_lt q)]; exact c.hO j (lo q)
    · rw [if_pos q]; exact c.hO k hkl
  · have h' : (if j = n then g.own k else g.own j) b ≠ none := h
    rcases cs hj with q | q
    · rw [if_neg (Nat.ne_of_lt q)] at h'; exact c.dO j b (lo q) h'
    · rw [if_pos q] at h'; exact c.dO k b hkl h'
  · have h' : (if i = n then g.own k else g.own i) b ≠ none := h
    show (if j = n then g.own k else g.own j) b = none
    rcases cs hi with q | q
    · rw [if_neg (Nat.ne_of_lt q)] at h'
      rcases cs hj with r | r
      · rw [if_neg (Nat.ne_of_lt r)]; exact c.dOO i j b (lo q) (lo r) hij h'
      · rw [if_pos r]; exact c.dOO i k b (lo q) hkl (by omega) h'
    · rw [if_pos q] at h'
      rcases cs hj with r | r
      · rw [if_neg (Nat.ne_of_lt r)]; exact c.dOO k j b hkl (lo r) (by omega) h'
      · exact absurd (q.trans r.symm) hij
  · show RepO p g.F (if j = n then g.root k else g.root j) (if j = n then g.own k else g.own j) y
    by_cases q : j < n
    · rw [if_neg (Nat.ne_of_lt q), if_neg (Nat.ne_of_lt q)]
      have h' : (s.os.take n ++ [o])[j]? = some y := h
      rw [List.getElem?_append_left (by rw [ln]; exact q)] at h'
      exact c.os j y (take_get h').2
    · have h' : (s.os.take n ++ [o])[j]? = some y := h
      have hj := (List.getElem?_eq_some_iff.mp h').1
      rcases cs hj with r | r
      · exact absurd r q
      · subst r
        rw [List.getElem?_append_right (by rw [ln]; exact Nat.le_refl _), ln, Nat.sub_self] at h'
        cases h'
        rw [if_pos rfl, if_pos rfl]
        exact c.os k o hk
end
section
variable {P : Program} {w : World} {K : PySem.W.Frag} {mg : Str → Option Value} {base : Heap}
/-- THE RULE for a def -/
theorem fn_v {x qual : Str} {st : Stmt} {f : Addr} {fd : FuncData} {N ps : List Str} {k : Nat} {body : S → RS} (F : Fun K x qual st f fd) (Sc : FnScope N ps (defScope st))
    (hb : ∀ (cdv : Value) (A : Around) (outer : List Env) (s : Shared) (H : Hp) (E : XK), A.guards = some [] → Room k (A.deeper (envOfC qual (defScope st) s.heap.objs.size f cdv)) →
      VSs (cxOf (L2.CX P w) P w K mg base N qual (defScope st) f cdv A outer s H E) (lft E) (defBody st) body) : FnG P w K mg base (L2.CX P w) (k + 1) f fd ps (spM ⟨K, w, mg⟩ ps.length (fnB N.length body)) := by
  obtain ⟨oc, od, kV, doc, pm, an, cdv, ct, osl, rfl, lk, hcd⟩ := F.ex
  refine g_of lk hcd Sc (fun vs H Q E h => h.1) (fun A outer s H vs Q E gd hr h => ⟨_, (hb cdv A outer s H E gd hr).ps, ?_⟩)
  obtain ⟨hl, U, g, st0, c, hs, q⟩ := h
  have hpl : ps.length ≤ N.length := by have := congrArg List.length Sc.pre; rw [List.length_take] at this; omega
  have c0 : Cfg ⟨K, w, mg⟩ U g H (start N vs) ⟨st0.vs ++ List.replicate (N.length - st0.vs.length) none, st0.os⟩ := by
    refine c.slots ?_ fun i x h => ?_
    · unfold L2.start
      rw [List.length_append, List.length_append, List.length_replicate, List.length_replicate, List.length_map]
      omega
    · have hi : i < st0.vs.length := by
        by_cases hi : i < st0.vs.length
        · exact hi
        · rw [List.getElem?_append_right (by omega), List.getElem?_replicate] at h
          split at h <;> cases h
      rw [List.getElem?_append_left hi] at h
      obtain ⟨v, h1, h2⟩ := c.vs i x h
      refine ⟨v, ?_, h2⟩
      unfold L2.start
      rw [List.getElem?_append_left (by rw [List.length_map]; omega)]
      exact h1
  have le0 : ∀ {s' : S} {g' : Wd}, Le ⟨st0.vs ++ List.replicate (N.length - st0.vs.length) none, st0.os⟩ s' g g' → Le st0 ⟨[], s'.os.take st0.os.length⟩ g g' := fun {s' g'} l => ⟨l.F, l.rt, by
    show st0.os.length ≤ (s'.os.take st0.os.length).length
    have : st0.os.length ≤ s'.os.length := l.len
    rw [List.length_take]; omega⟩
  have fin_use : ∀ {x : W} {s' : S} {g' : Wd} {H' : Hp} {σ' : St} {v : V}, Le ⟨st0.vs ++ List.replicate (N.length - st0.vs.length) none, st0.os⟩ s' g g' → Cfg ⟨K, w, mg⟩ U g' H' σ' s' → RepW ⟨K, w, mg⟩ g' s'.os.length v x →
      Post ⟨K, w, mg⟩ U st0 g [] (lft E) (TV ⟨K, w, mg⟩ Q) (fin st0.os.length x s'.os) → Q v H' := fun {x s' g' H' σ' v} l c' rv q => by
    have hn : st0.os.length ≤ s'.os.length := l.len
    cases x with
    | d d => exact q g' H' (le0 l) (c'.cut _) v rv
    | r k =>
      unfold fin at q
      simp only at q
      by_cases hk : k < st0.os.length
      · rw [if_pos hk] at q
        refine q g' H' (le0 l) (c'.cut _) v ⟨?_, rv.2⟩
        show k < (s'.os.take st0.os.length).length
        rw [List.length_take]; omega
      · rw [if_neg hk] at q
        cases e1 : s'.os[k]? with
        | none => rw [e1] at q; exact q.elim
        | some o =>
          rw [e1] at q
          have hkl : k < s'.os.length := rv.1
          refine q ⟨g'.F, fun j => if j = st0.os.length then g'.root k else g'.root j, fun j => if j = st0.os.length then g'.own k else g'.own j⟩ H' ⟨l.F, fun j hj => ?_, ?_⟩ (c'.cutR e1 (by omega)) v ⟨?_, ?_⟩
          · show (if j = st0.os.length then g'.root k else g'.root j) = g.root j
            rw [if_neg (Nat.ne_of_lt hj)]; exact l.rt j hj
          · show st0.os.length ≤ (s'.os.take st0.os.length ++ [o]).length
            rw [List.length_append, List.length_take]; omega
          · show st0.os.length < (s'.os.take st0.os.length ++ [o]).length
            rw [List.length_append, List.length_take, List.length_singleton]; omega
          · show v = V.ref (if st0.os.length = st0.os.length then g'.root k else _)
            rw [if_pos rfl]; exact rv.2
  refine ⟨U, g, _, c0, ?_⟩
  unfold fnB at q
  cases e1 : body ⟨st0.vs ++ List.replicate (N.length - st0.vs.length) none, st0.os⟩ with
  | nx s' =>
    rw [e1] at q
    exact fun g' H' σ' l c' => fin_use (x := .d .non) (v := .non) l c' .non q
  | rt x s' =>
    rw [e1] at q
    exact fun g' H' σ' v l c' rv => fin_use l c' rv q
  | err C ns xs s' =>
    rw [e1] at q
    exact fun g' H' σ' dx l c' he => q g' H' dx (le0 l) (c'.cut _) he
  | bk s' => rw [e1] at q; exact q.elim
  | ct s' => rw [e1] at q; exact q.elim
  | no => rw [e1] at q; exact q.elim
/-- around a body -/
theorem takesE {N : List Str} {qual : Str} {scope : Scope} {f : Addr} {cdv : Value} {A : Around} {outer : List Env} {s : Shared} {H : Hp} {E : XK} : Takes (cxOf (L2.CX P w) P w K mg base N qual scope f cdv A outer s H E) (lft E) := takes_of rfl rfl rfl rfl
theorem passesE {N : List Str} {qual : Str} {scope : Scope} {f : Addr} {cdv : Value} {A : Around} {outer : List Env} {s : Shared} {H : Hp} {E : XK} : Passes (L2.CX P w) (cxOf (L2.CX P w) P w K mg base N qual scope f cdv A outer s H E) E := passes_call takesE fun _ _ _ _ h => h
end

/-! ### calls -/
def regs : List W → List Nat
  | [] => []
  | .d _ :: r => regs r
  | .r n :: r => n :: regs r
def remap (rs : List Nat) : W → W
  | .d x => .d x
  | .r n => .r (rs.idxOf n)
def getOs (os : List O) : List Nat → Option (List O)
  | [] => some []
  | n :: r => match os[n]?, getOs os r with
    | some o, some l => some (o :: l)
    | _, _ => none
def putOs (os : List O) : List Nat → List O → List O
  | [], _ => os
  | _ :: _, [] => os
  | n :: r, o :: l => putOs (os.set n o) r l
def backW (rs : List Nat) (os : List O) (x : W) (s2 : S) (vs : List (Option W)) : R W := match x with
  | .d d => .ok (.d d) ⟨vs, putOs os rs s2.os⟩
  | .r j => match rs[j]? with
    | some n => .ok (.r n) ⟨vs, putOs os rs s2.os⟩
    | none => match s2.os[j]? with
      | some o => if j = rs.length then .ok (.r os.length) ⟨vs, putOs os rs s2.os ++ [o]⟩ else .no
      | none => .no
def callM (m : S → R W) (ws : List W) (s : S) : R W := if (regs ws).Nodup then match getOs s.os (regs ws) with
    | some os => match m ⟨ws.map fun x => some (remap (regs ws) x), os⟩ with
      | .ok x s2 => if (regs ws).length ≤ s2.os.length then backW (regs ws) s.os x s2 s.vs else .no
      | .err C ns xs s2 => if (regs ws).length ≤ s2.os.length then .err C ns xs ⟨s.vs, putOs s.os (regs ws) s2.os⟩ else .no
      | .no => .no
    | none => .no
  else .no
def mCall (m : S → R W) (fs : S → R (List W)) (s : S) : R W := (fs s).bind fun ws s1 => callM m ws s1
theorem putOs_len : ∀ (rs : List Nat) (os l : List O), (putOs os rs l).length = os.length
  | [], os, l => by rw [putOs]
  | _ :: _, os, [] => by rw [putOs]
  | n :: r, os, o :: l => by rw [putOs, putOs_len r, List.length_set]
theorem putOs_ne : ∀ (rs : List Nat) (os l : List O) (k : Nat), k ∉ rs → (putOs os rs l)[k]? = os[k]?
  | [], os, l, _, _ => by rw [putOs]
  | _ :: _, os, [], _, _ => by rw [putOs]
  | n :: r, os, o :: l, k, h => by
    rw [putOs, putOs_ne r _ l k (fun e => h (by simp [e])), List.getElem?_set_ne (fun e => h (by simp [e]))]
theorem putOs_at : ∀ (rs : List Nat) (os l : List O) (j k : Nat), rs.Nodup → rs[j]? = some k → k < os.length → rs.length ≤ l.length → (putOs os rs l)[k]? = l[j]?
  | [], _, _, _, _, _, h, _, _ => by simp at h
  | _ :: _, _, [], _, _, _, _, _, hl => by simp at hl
  | n :: r, os, o :: l, 0, k, nd, h, hk, hl => by
    have e : n = k := by simpa using h
    subst e
    rw [putOs, putOs_ne r _ l n (List.nodup_cons.mp nd).1, List.getElem?_set_self hk]
    rfl
  | n :: r, os, o :: l, j + 1, k, nd, h, hk, hl => by
    rw [putOs, putOs_at r _ l j k (List.nodup_cons.mp nd).2 (by simpa using h) (by rw [List.length_set]; exact hk) (by simpa using hl)]
    rfl
theorem getOs_get : ∀ {rs : List Nat} {os l : List O}, getOs os rs = some l → l.length = rs.length ∧ ∀ (j : Nat) (k : Nat), rs[j]? = some k → l[j]? = os[k]? ∧ k < os.length
  | [], os, l, h => by cases h; exact ⟨rfl, fun j k h => by simp at h⟩
  | n :: r, os, l, h => by
    simp only [getOs] at h
    split at h
    · rename_i o l' e1 e2
      cases h
      obtain ⟨h1, h2⟩ := getOs_get e2
      refine ⟨by simp [h1], fun j k hj => ?_⟩
      cases j with
      | zero =>
        have e : n = k := by simpa using hj
        subst e
        exact ⟨by simp [e1], (List.getElem?_eq_some_iff.mp e1).1⟩
      | succ j => exact ⟨by simpa using (h2 j k (by simpa using hj)).1, (h2 j k (by simpa using hj)).2⟩
    · cases h
theorem idxOf_at {rs : List Nat} (nd : rs.Nodup) {j k : Nat} (h : rs[j]? = some k) : rs.idxOf k = j := by
  obtain ⟨hj, e⟩ := List.getElem?_eq_some_iff.mp h
  subst e
  exact List.Nodup.idxOf_getElem nd j hj
theorem at_idxOf {rs : List Nat} {k : Nat} (h : k ∈ rs) : rs[rs.idxOf k]? = some k := by
  have hl : rs.idxOf k < rs.length := List.idxOf_lt_length_of_mem h
  rw [List.getElem?_eq_getElem hl, List.getElem_idxOf hl]
/-- what the callee is not to touch: the callers' and the regions that are not passed -/
def hide (U : Hp) (g : Wd) (N : Nat) (rs : List Nat) : Hp := fun a => match U a with
  | some u => some u
  | none => (List.range N).findSome? fun k => if k ∈ rs then none else g.own k a
theorem hide_U {U : Hp} {g : Wd} {N : Nat} {rs : List Nat} : Same U (hide U g N rs) := fun b u h => by
  unfold hide; rw [h]
theorem hide_some {U : Hp} {g : Wd} {N : Nat} {rs : List Nat} {a : Addr} {u : HO} (h : hide U g N rs a = some u) : U a = some u ∨ ∃ k, k < N ∧ k ∉ rs ∧ g.own k a = some u := by
  unfold hide at h
  split at h
  · rename_i z e; rw [e]; exact .inl h
  · obtain ⟨k, hk, e⟩ := List.exists_of_findSome?_eq_some h
    split at e
    · cases e
    · rename_i q
      exact .inr ⟨k, List.mem_range.mp hk, q, e⟩
theorem hide_own {p : Pm} {U : Hp} {g : Wd} {H : Hp} {σ : St} {s : S} (c : Cfg p U g H σ s) {rs : List Nat} {k : Nat} (hk : k < s.os.length) (hr : k ∉ rs) : Same (g.own k) (hide U g s.os.length rs) := fun b u h => by
  have hb : g.own k b ≠ none := by rw [h]; simp
  have hU := (c.dO k b hk hb).2
  cases q : hide U g s.os.length rs b with
  | none =>
    unfold hide at q
    rw [hU] at q
    have := List.findSome?_eq_none_iff.mp q k (List.mem_range.mpr hk)
    rw [if_neg hr, h] at this
    cases this
  | some z =>
    rcases hide_some q with q | ⟨l, hl, _, q⟩
    · rw [hU] at q; cases q
    · by_cases e : l = k
      · subst e; rw [h] at q; exact q.symm
      · have := c.dOO k l b hk hl (Ne.symm e) hb
        rw [this] at q; cases q
theorem Paired.getR {α β : Type} {F : α → β → Prop} : ∀ {l₁ : List α} {l₂ : List β} {i : Nat} {y : β}, Paired F l₁ l₂ → l₂[i]? = some y → ∃ x, l₁[i]? = some x ∧ F x y
  | _, _, _, _, .nil, e => by simp at e
  | _, _, 0, y, .cons h r, e => by simp at e; subst e; exact ⟨_, rfl, h⟩
  | _, _, i + 1, y, .cons h r, e => by
    obtain ⟨x, h1, h2⟩ := Paired.getR (i := i) (y := y) r (by simpa using e)
    exact ⟨x, by simpa using h1, h2⟩
theorem mem_regs : ∀ {ws : List W} {n : Nat}, .r n ∈ ws → n ∈ regs ws
  | .d _ :: r, n, h => by
    rcases List.mem_cons.mp h with h | h
    · cases h
    · exact mem_regs (ws := r) h
  | .r k :: r, n, h => by
    rcases List.mem_cons.mp h with h | h
    · cases h; exact List.mem_cons_self
    · exact List.mem_cons_of_mem _ (mem_regs (ws := r) h)
section
variable {p : Pm} {U : Hp} {g : Wd} {H : Hp} {σ : St} {s : S}
/-- the callee's view -/
theorem Cfg.enter (c : Cfg p U g H σ s) {vs : List V} {ws : List W} {os : List O} (rs : RWs p g s.os.length vs ws) (nd : (regs ws).Nodup) (ho : getOs s.os (regs ws) = some os) :
    Cfg p (hide U g s.os.length (regs ws)) ⟨g.F, fun j => g.root ((regs ws).getD j 0), fun j => g.own ((regs ws).getD j 0)⟩ H (vs.map some) ⟨ws.map fun x => some (remap (regs ws) x), os⟩ := by
  obtain ⟨h1, h2⟩ := getOs_get ho
  have at_ : ∀ {j}, j < os.length → (regs ws)[j]? = some ((regs ws).getD j 0) ∧ (regs ws).getD j 0 < s.os.length := fun {j} hj => by
    have e : (regs ws)[j]? = some ((regs ws).getD j 0) := by
      rw [List.getD_eq_getElem?_getD, List.getElem?_eq_getElem (by omega)]; rfl
    exact ⟨e, (h2 j _ e).2⟩
  refine ⟨c.hF, fun b u h => ?_, fun j hj => c.hO _ (at_ hj).2, fun b h => ?_, fun j b hj h => ⟨(c.dO _ b (at_ hj).2 h).1, ?_⟩, fun i j b hi hj hij h => ?_, ?_, fun i x h => ?_, fun j o h => ?_⟩
  · rcases hide_some h with h | ⟨k, hk, _, h⟩
    · exact c.hU b u h
    · exact c.hO k hk b u h
  · cases q : hide U g s.os.length (regs ws) b with
    | none => rfl
    | some u =>
      rcases hide_some q with q | ⟨k, hk, _, q⟩
      · rw [c.dFU b h] at q; cases q
      · exact absurd (c.dO k b hk (by rw [q]; simp)).1 h
  · cases q : hide U g s.os.length (regs ws) b with
    | none => rfl
    | some u =>
      rcases hide_some q with q | ⟨k, hk, hr, q⟩
      · rw [(c.dO _ b (at_ hj).2 h).2] at q; cases q
      · have ne : (regs ws).getD j 0 ≠ k := fun e => hr (by rw [← e]; exact List.mem_of_getElem? (at_ hj).1)
        have := c.dOO _ k b (at_ hj).2 hk ne h
        rw [this] at q; cases q
  · refine c.dOO _ _ b (at_ hi).2 (at_ hj).2 (fun e => hij ?_) h
    have e1 := idxOf_at nd (at_ hi).1
    have e2 := idxOf_at nd (at_ hj).1
    rw [← e1, ← e2, e]
  · show (ws.map _).length ≤ (vs.map some).length
    rw [List.length_map, List.length_map, Paired.length rs]; exact Nat.le_refl _
  · have h' : (ws.map fun x => some (remap (regs ws) x))[i]? = some (some x) := h
    rw [List.getElem?_map] at h'
    cases q : ws[i]? with
    | none => rw [q] at h'; cases h'
    | some y =>
      rw [q] at h'
      cases h'
      obtain ⟨v, hv, rv⟩ := Paired.getR rs q
      refine ⟨v, by rw [List.getElem?_map, hv]; rfl, ?_⟩
      cases y with
      | d d => exact rv
      | r n =>
        have hm : n ∈ regs ws := mem_regs (List.mem_of_getElem? q)
        have e := at_idxOf hm
        refine ⟨?_, ?_⟩
        · show (regs ws).idxOf n < os.length
          rw [h1]; exact List.idxOf_lt_length_of_mem hm
        · show v = V.ref (g.root ((regs ws).getD ((regs ws).idxOf n) 0))
          rw [List.getD_eq_getElem?_getD, e]
          exact rv.2
  · have hj : j < os.length := (List.getElem?_eq_some_iff.mp h).1
    have e := h2 j _ (at_ hj).1
    exact c.os _ o (by rw [← e.1]; exact h)
/-- the caller's view behind the call: os2 the callee's regions, o2 one that it handed back -/
theorem Cfg.back (c : Cfg p U g H σ s) {rs : List Nat} {os : List O} (nd : rs.Nodup) (ho : getOs s.os rs = some os) {g2 : Wd} {H2 : Hp} {s2 : S} (c2 : Cfg p (hide U g s.os.length rs) g2 H2 [] s2)
    (lF : Same g.F g2.F) (lr : ∀ j, j < os.length → g2.root j = g.root (rs.getD j 0)) (hl : rs.length ≤ s2.os.length) (o2 : Option O) (h2 : ∀ o, o2 = some o → s2.os[rs.length]? = some o) :
    ∃ g', Cfg p U g' H2 σ ⟨s.vs, putOs s.os rs s2.os ++ o2.toList⟩ ∧ Le s ⟨s.vs, putOs s.os rs s2.os ++ o2.toList⟩ g g' ∧ g'.F = g2.F ∧ g'.root s.os.length = g2.root rs.length := by
  obtain ⟨l1, l2⟩ := getOs_get ho
  let G : Wd := ⟨g2.F, fun k => if k ∈ rs then g2.root (rs.idxOf k) else if k = s.os.length then g2.root rs.length else g.root k, fun k => if k ∈ rs then g2.own (rs.idxOf k) else if k = s.os.length then g2.own rs.length else g.own k⟩
  have inr : ∀ {k}, k ∈ rs → rs.idxOf k < rs.length ∧ rs[rs.idxOf k]? = some k ∧ k < s.os.length := fun {k} h => ⟨List.idxOf_lt_length_of_mem h, at_idxOf h, (l2 _ _ (at_idxOf h)).2⟩
  have nN : s.os.length ∉ rs := fun h => absurd (inr h).2.2 (Nat.lt_irrefl _)
  -- the three kinds of a region
  have kinds : ∀ {k}, k < (putOs s.os rs s2.os ++ o2.toList).length → k ∈ rs ∨ (k ∉ rs ∧ k = s.os.length ∧ rs.length < s2.os.length) ∨ (k ∉ rs ∧ k < s.os.length) := fun {k} h => by
    rw [List.length_append, putOs_len] at h
    by_cases hr : k ∈ rs
    · exact .inl hr
    · by_cases hk : k < s.os.length
      · exact .inr (.inr ⟨hr, hk⟩)
      · cases o2 with
        | none => simp at h; omega
        | some o =>
          have e := h2 o rfl
          simp at h
          exact .inr (.inl ⟨hr, by omega, (List.getElem?_eq_some_iff.mp e).1⟩)
  have ro : ∀ {k}, k ∈ rs → G.root k = g2.root (rs.idxOf k) ∧ G.own k = g2.own (rs.idxOf k) := fun h => ⟨if_pos h, if_pos h⟩
  have nw : G.root s.os.length = g2.root rs.length ∧ G.own s.os.length = g2.own rs.length := ⟨by show (if s.os.length ∈ rs then _ else _) = _; rw [if_neg nN, if_pos rfl], by show (if s.os.length ∈ rs then _ else _) = _; rw [if_neg nN, if_pos rfl]⟩
  have ol : ∀ {k}, k ∉ rs → k < s.os.length → G.root k = g.root k ∧ G.own k = g.own k := fun {k} h hk => ⟨by show (if k ∈ rs then _ else _) = _; rw [if_neg h, if_neg (Nat.ne_of_lt hk)], by show (if k ∈ rs then _ else _) = _; rw [if_neg h, if_neg (Nat.ne_of_lt hk)]⟩
  have le : Le s ⟨s.vs, putOs s.os rs s2.os ++ o2.toList⟩ g G := ⟨lF, fun k hk => by
    by_cases hr : k ∈ rs
    · rw [(ro hr).1, lr _ (by rw [l1]; exact (inr hr).1), List.getD_eq_getElem?_getD, (inr hr).2.1]; rfl
    · exact (ol hr hk).1, by
    show s.os.length ≤ (putOs s.os rs s2.os ++ o2.toList).length
    rw [List.length_append, putOs_len]; exact Nat.le_add_right _ _⟩
  refine ⟨G, ⟨c2.hF, hide_U.trans c2.hU, fun k hk => ?_, fun b h => hide_U.free (c2.dFU b h), fun k b hk h => ?_, fun m k b hm hk hmk h => ?_, c.ln, fun i x h => ?_, fun k o h => ?_⟩, le, rfl, nw.1⟩
  · rcases kinds hk with q | ⟨_, rfl, q⟩ | ⟨q, q2⟩
    · rw [(ro q).2]; exact c2.hO _ (Nat.lt_of_lt_of_le (inr q).1 hl)
    · rw [nw.2]; exact c2.hO _ q
    · rw [(ol q q2).2]; exact (hide_own c q2 q).trans c2.hU
  · rcases kinds hk with q | ⟨_, rfl, q⟩ | ⟨q, q2⟩
    · rw [(ro q).2] at h
      have := c2.dO _ b (Nat.lt_of_lt_of_le (inr q).1 hl) h
      exact ⟨this.1, hide_U.free this.2⟩
    · rw [nw.2] at h
      have := c2.dO _ b q h
      exact ⟨this.1, hide_U.free this.2⟩
    · rw [(ol q q2).2] at h
      obtain ⟨u, hu⟩ := Option.ne_none_iff_exists'.mp h
      exact ⟨c2.noF (by rw [hide_own c q2 q b u hu]; simp), (c.dO k b q2 h).2⟩
  · have hid : ∀ {j k : Nat} {b : Addr}, j < s2.os.length → k < s.os.length → k ∉ rs → g2.own j b ≠ none → g.own k b = none := fun {j k b} hj hk hr h => by
      cases q : g.own k b with
      | none => rfl
      | some u =>
        have := (c2.dO j b hj h).2
        rw [hide_own c hk hr b u q] at this; cases this
    have hid2 : ∀ {j k : Nat} {b : Addr}, j < s2.os.length → k < s.os.length → k ∉ rs → g.own k b ≠ none → g2.own j b = none := fun {j k b} hj hk hr h => by
      cases q : g2.own j b with
      | none => rfl
      | some u => exact absurd (hid hj hk hr (by rw [q]; simp)) h
    rcases kinds hm with q | ⟨_, rfl, q⟩ | ⟨q, q2⟩
    · rw [(ro q).2] at h
      have jm := Nat.lt_of_lt_of_le (inr q).1 hl
      rcases kinds hk with r | ⟨_, rfl, r⟩ | ⟨r, r2⟩
      · rw [(ro r).2]
        refine c2.dOO _ _ b jm (Nat.lt_of_lt_of_le (inr r).1 hl) (fun e => hmk ?_) h
        have e1 := (inr q).2.1
        rw [e, (inr r).2.1] at e1
        exact (Option.some.inj e1).symm
      · rw [nw.2]; exact c2.dOO _ _ b jm r (Nat.ne_of_lt (inr q).1) h
      · rw [(ol r r2).2]; exact hid jm r2 r h
    · rw [nw.2] at h
      rcases kinds hk with r | ⟨_, r1, r⟩ | ⟨r, r2⟩
      · rw [(ro r).2]; exact c2.dOO _ _ b q (Nat.lt_of_lt_of_le (inr r).1 hl) (Nat.ne_of_gt (inr r).1) h
      · exact absurd r1.symm hmk
      · rw [(ol r r2).2]; exact hid q r2 r h
    · rw [(ol q q2).2] at h
      rcases kinds hk with r | ⟨_, rfl, r⟩ | ⟨r, r2⟩
      · rw [(ro r).2]; exact hid2 (Nat.lt_of_lt_of_le (inr r).1 hl) q2 q h
      · rw [nw.2]; exact hid2 r q2 q h
      · rw [(ol r r2).2]; exact c.dOO _ _ b q2 r2 hmk h
  · obtain ⟨v, h3, h4⟩ := c.vs i x h
    exact ⟨v, h3, h4.le le⟩
  · have hk := (List.getElem?_eq_some_iff.mp h).1
    have h : (putOs s.os rs s2.os ++ o2.toList)[k]? = some o := h
    rcases kinds hk with q | ⟨_, rfl, q⟩ | ⟨q, q2⟩
    · rw [(ro q).1, (ro q).2]
      rw [List.getElem?_append_left (by rw [putOs_len]; exact (inr q).2.2), putOs_at rs s.os s2.os _ k nd (inr q).2.1 (inr q).2.2 hl] at h
      exact c2.os _ o h
    · rw [nw.1, nw.2]
      rw [List.getElem?_append_right (by rw [putOs_len]; exact Nat.le_refl _), putOs_len, Nat.sub_self] at h
      cases o2 with
      | none => simp at h
      | some y =>
        have e : y = o := by simpa using h
        subst e
        exact c2.os _ y (h2 y rfl)
    · rw [(ol q q2).1, (ol q q2).2]
      rw [List.getElem?_append_left (by rw [putOs_len]; exact q2), putOs_ne rs s.os s2.os k q] at h
      exact (c.os k o h).mono lF
end
section
variable {X : Cx} {E : XK} {fs : S → R (List W)} {m : S → R W} {n : Nat}
theorem call_use {U : Hp} {g : Wd} {H : Hp} {σ : St} {s : S} {vs : List V} {ws : List W} {Q : VK} (c : Cfg (pm X) U g H σ s) (rs : RWs (pm X) g s.os.length vs ws) (hn : ws.length = n)
    (q : Post (pm X) U s g σ (lft E) (TV (pm X) Q) (callM m ws s)) : spM (pm X) n m vs H Q E := by
  have hvl : vs.length = ws.length := Paired.length rs
  unfold callM at q
  split at q
  · rename_i nd
    cases ho : getOs s.os (regs ws) with
    | none => rw [ho] at q; exact q.elim
    | some os =>
      rw [ho] at q
      simp only at q
      have hlo := (getOs_get ho).1
      refine ⟨hvl.trans hn, _, _, _, c.enter rs nd ho, by show (ws.map _).length = n; rw [List.length_map]; exact hn, ?_⟩
      cases e1 : m ⟨ws.map fun x => some (remap (regs ws) x), os⟩ with
      | no => rw [e1] at q; exact q.elim
      | err C ns xs s2 =>
        rw [e1] at q
        simp only at q
        split at q
        · rename_i hl
          intro g2 H2 dx l2 c2 he
          obtain ⟨g', c', l', eF, _⟩ := c.back nd ho c2 l2.F l2.rt hl none (fun _ h => nomatch h)
          simp only [Option.toList, List.append_nil] at c' l'
          refine q g' H2 dx l' c' ?_
          obtain ⟨ws', h1, h2, h3⟩ := he
          exact ⟨ws', h1, h2, by rw [eF]; exact h3⟩
        · exact q.elim
      | ok x s2 =>
        rw [e1] at q
        simp only at q
        split at q
        · rename_i hl
          intro g2 H2 l2 c2 v rv
          cases x with
          | d d =>
            obtain ⟨g', c', l', eF, _⟩ := c.back nd ho c2 l2.F l2.rt hl none (fun _ h => nomatch h)
            simp only [Option.toList, List.append_nil] at c' l'
            exact q g' H2 l' c' v (by show Rep (pm X) g'.F v d; rw [eF]; exact rv)
          | r j =>
            unfold backW at q
            simp only at q
            cases hj : (regs ws)[j]? with
            | some k =>
              rw [hj] at q
              obtain ⟨g', c', l', eF, _⟩ := c.back nd ho c2 l2.F l2.rt hl none (fun _ h => nomatch h)
              simp only [Option.toList, List.append_nil] at c' l'
              have hk := ((getOs_get ho).2 j k hj).2
              have hjl : j < os.length := by rw [hlo]; exact (List.getElem?_eq_some_iff.mp hj).1
              refine q g' H2 l' c' v ⟨by show k < (putOs _ _ _).length; rw [putOs_len]; exact hk, ?_⟩
              have e2 := rv.2
              rw [l2.rt j hjl] at e2
              rw [e2, l'.rt k hk]
              show V.ref (g.root ((regs ws).getD j 0)) = _
              rw [List.getD_eq_getElem?_getD, hj]
              rfl
            | none =>
              rw [hj] at q
              simp only at q
              cases ho2 : s2.os[j]? with
              | none => rw [ho2] at q; exact q.elim
              | some o =>
                rw [ho2] at q
                simp only at q
                split at q
                · rename_i ej
                  subst ej
                  obtain ⟨g', c', l', eF, er⟩ := c.back nd ho c2 l2.F l2.rt hl (some o) (fun _ h => by cases h; exact ho2)
                  refine q g' H2 l' c' v ⟨?_, ?_⟩
                  · show s.os.length < (putOs s.os (regs ws) s2.os ++ [o]).length
                    rw [List.length_append, putOs_len]; exact Nat.lt_succ_self _
                  · rw [er]; exact rv.2
                · exact q.elim
        · exact q.elim
  · exact q.elim
variable {k : Nat} {f : Addr} {fd : FuncData} {ps : List Str} {x : Str} {p pos : Pos} {e : Expr} {es : List Expr}
/-- the argument list has a length -/
def LenIs (fs : S → R (List W)) (n : Nat) : Prop := ∀ s ws s', fs s = .ok ws s' → ws.length = n
theorem len_nil : LenIs mNil 0 := fun s ws s' h => by cases h; rfl
theorem len_cons {f : S → R W} {fs : S → R (List W)} {n : Nat} (h : LenIs fs n) : LenIs (mCons f fs) (n + 1) := fun s ws s' e => by
  unfold mCons at e
  cases e1 : f s with
  | ok x s1 =>
    rw [e1] at e
    simp only [R.bind] at e
    cases e2 : fs s1 with
    | ok xs s2 => rw [e2] at e; cases e; rw [List.length_cons, h s1 xs _ e2]
    | err C ns ys s2 => rw [e2] at e; cases e
    | no => rw [e2] at e; cases e
  | err C ns ys s1 => rw [e1] at e; cases e
  | no => rw [e1] at e; cases e
theorem calls_use (hn : LenIs fs n) {σ : St} {H : Hp} {Q : VK} (h : tV (pm X) (lft E) (mCall m fs) σ H Q) : tCall (spM (pm X) n m) [] E (tL (pm X) (lft E) fs) σ H Q := by
  obtain ⟨U, g, s, c, q⟩ := h
  refine ⟨U, g, s, c, ?_⟩
  unfold mCall at q
  cases e1 : fs s with
  | no => rw [e1] at q; exact q.elim
  | err C ns xs s1 => rw [e1] at q; exact q
  | ok ws s1 =>
    rw [e1] at q
    intro g1 H1 l1 c1 vs rs
    show spM (pm X) n m (vs ++ []) H1 Q E
    rw [List.append_nil]
    exact call_use c1 rs (hn s ws s1 e1) (Post.le (show Post (pm X) U s g σ (lft E) (TV (pm X) Q) (callM m ws s1) from q) l1)
theorem ve_call (F : FnG X.prog X.w X.K X.mg X.base (L2.CX X.prog X.w) k f fd ps (spM (pm X) n m)) (gd : X.A.guards = some []) (hr : Room k X.A) (hg : Gl X x) (hm : X.mg x = some (.ref f)) (hk : PySem.W.keepIn X.K (.ref f) = true) (hb : Binds X.K fd ps []) (hx : Passes (L2.CX X.prog X.w) X E)
    (ha : VA X (lft E) (e :: es) fs) (hn : LenIs fs n) (hdb : (x == ("__debug__" : Str)) = false := by decide) (he : starEach (e :: es) X.env = (false, eval e X.env) :: starEach es X.env := by rfl) (hpl : (backTo pos (starEach es X.env)).any (·.1) = false := by rfl) :
    VE X (lft E) (.Call (.Name x p) (e :: es) [] pos) (mCall m fs) := by
  refine ⟨⟨fun pins s σ H Q I h => wpAny_Call_Name_kw (ld_glob I hg hm ?_ hdb)⟩⟩
  have q := ha.pa.run pos pins s σ H _ I (calls_use hn h)
  refine PySem.W.callWith_K (h₀ := X.base) I.ok.mod.kin hk (thn q fun us s1 ⟨vs, H1, I1, r, q1⟩ => ⟨I1.kIn, ?_⟩) he hpl
  refine go_fn F gd hr (fun hl => ?_) hx I1 r (List.append_nil vs ▸ q1)
  have := hb s1 us I1.kIn (by rw [List.append_nil]; exact hl)
  rw [List.append_nil] at this
  exact this
theorem ve_call0 (F : FnG X.prog X.w X.K X.mg X.base (L2.CX X.prog X.w) k f fd ps (spM (pm X) 0 m)) (gd : X.A.guards = some []) (hr : Room k X.A) (hg : Gl X x) (hm : X.mg x = some (.ref f)) (hk : PySem.W.keepIn X.K (.ref f) = true) (hb : Binds X.K fd ps []) (hx : Passes (L2.CX X.prog X.w) X E)
    (hdb : (x == ("__debug__" : Str)) = false := by decide) : VE X (lft E) (.Call (.Name x p) [] [] pos) (mCall m mNil) := by
  refine ⟨⟨fun pins s σ H Q I h => wpAny_Call_Name_kw (ld_glob I hg hm ?_ hdb)⟩⟩
  obtain ⟨U, g, st, c, q⟩ := h
  refine PySem.W.callWith_K0 I.kIn hk (go_fn F gd hr (fun hl => ?_) hx I .nil (call_use (ws := []) (vs := []) c .nil rfl q))
  exact hb s [] I.kIn hl
end
end VL
/-! VL: what is built in, by values. -/
namespace VL
open PySem PySem.Spec PyProof.Rows L2

/-! ### isinstance -/
def tyn : D → Option String
  | .non => some "NoneType"
  | .bl _ => some "bool"
  | .int _ => some "int"
  | .str _ => some "str"
  | .lst _ => some "list"
  | .lro _ => some "list"
  | .tup _ => some "tuple"
  | .dct _ _ => some "dict"
  | .dtt _ _ => some "dict"
  | _ => none
theorem tyn_use {p : Pm} {F H : Hp} {v : V} {d : D} {T : String} (sm : Same F H) (t : Top p F H v d) (e : tyn d = some T) : TyX p.K H v (.type T) := by
  cases d with
  | non => cases t; cases e; exact .base .non
  | bl b => cases t; cases e; exact .base (.bl b)
  | int b => cases t; cases e; exact .base (.int b)
  | str b => cases t; cases e; exact .base (.str b)
  | lst b => obtain ⟨_, _, rfl, h, _⟩ := t; cases e; exact .base (.lst h)
  | tup b =>
    obtain ⟨_, _, rfl, h, _⟩ := t; cases e
    rcases Same.seqT sm h with (h | ⟨o, h⟩) | ⟨o, its, n, h1, h2, _⟩
    · exact .base (.tup h)
    · exact .fTuple h
    · exact .kTuple h1 h2
  | lro b =>
    obtain ⟨_, _, rfl, h, _⟩ := t; cases e
    rcases sm.seq h with (h | ⟨o, h⟩) | ⟨o, its, n, h1, h2, _⟩
    · exact .base (.lst h)
    · exact .base (.frz h)
    · exact .kList h1 h2
  | dct _ b => obtain ⟨_, _, rfl, h, _⟩ := t; cases e; exact .base (.dK h)
  | dtt _ b => obtain ⟨_, _, rfl, h, _⟩ := t; cases e; exact .base (.dT h)
  | set b => cases e
  | ins _ _ b => cases e
  | exn _ _ b => cases e
  | ref b => cases e
/-- how an answer of isinstance is told by the datum -/
def IsiOk (K : PySem.W.Frag) (us : List Value) (f : D → Option Bool) : Prop := ∀ (w : World) (mg : Str → Option Value) (F H : Hp) (v : V) (d : D) (b : Bool), Same F H → Top ⟨K, w, mg⟩ F H v d → f d = some b → ∃ t, TyX K H v t ∧ PySem.W.kitAny K t us = some b
def isiB (Ts : List String) (d : D) : Option Bool := (tyn d).bind fun t => kitAnyB t Ts
  where kitAnyB (t : String) : List String → Option Bool
    | [] => some false
    | T :: r => (kitB t T).bind fun b => if b then some true else kitAnyB t r
theorem kitAnyB_use {K : PySem.W.Frag} {t : String} : ∀ {Ts : List String} {b : Bool}, isiB.kitAnyB t Ts = some b → PySem.W.kitAny K (.type t) (Ts.map Value.type) = some b
  | [], b, e => e
  | T :: r, b, e => by
    simp only [isiB.kitAnyB] at e
    cases h : kitB t T with
    | none => rw [h] at e; cases e
    | some c =>
      rw [h] at e
      refine kitAny_cons (kit_ty h) (fun hc => ?_) (fun hc => ?_)
      · subst hc; exact kitAnyB_use e
      · subst hc; cases e; rfl
theorem isi_ty (K : PySem.W.Frag) (Ts : List String) : IsiOk K (Ts.map Value.type) (isiB Ts) := by
  intro w mg F H v d b sm t e
  unfold isiB at e
  cases h : tyn d with
  | none => rw [h] at e; cases e
  | some T => rw [h] at e; exact ⟨_, tyn_use sm t h, kitAnyB_use e⟩
theorem kitAny_one {K : PySem.W.Frag} {t u : Value} {b : Bool} (h : PySem.W.kitAny K t [u] = some b) : ∃ b', PySem.W.kitOne K t u = some b' ∧ b' = b := by
  unfold PySem.W.kitAny at h
  cases e : PySem.W.kitOne K t u with
  | none => rw [e] at h; cases h
  | some c =>
    rw [e] at h
    refine ⟨c, rfl, ?_⟩
    cases c with
    | true => simpa using h
    | false => simpa [PySem.W.kitAny] using h
/-- the classes of a second argument -/
structure PTy (X : Cx) (e : Expr) (u : Value) : Prop where
  ex : ∃ v, PE X e (tC v) ∧ ClsV v u
inductive PTys (X : Cx) : List Expr → List Value → Prop
  | nil : PTys X [] []
  | cons {e : Expr} {es : List Expr} {u : Value} {us : List Value} : PTy X e u → PTys X es us → starEach (e :: es) X.env = (false, eval e X.env) :: starEach es X.env → PTys X (e :: es) (u :: us)
theorem pty {X : Cx} {x : Str} {T : String} {pos : Pos} (hg : Gl X x) (hm : X.mg x = none) (hv : bootBuiltins x = some (.type T)) (hn : x ≠ "__name__" := by decide) (hd : (x == ("__debug__" : Str)) = false := by decide) : PTy X (.Name x pos) (.type T) :=
  ⟨.ty T, pe_bltn hg hm hv rfl hn hd, .ty T⟩
theorem pty_own {X : Cx} {x : Str} {C : Addr} {pos : Pos} (hg : Gl X x) (hm : X.mg x = some (.ref C)) (hd : (x == ("__debug__" : Str)) = false := by decide) : PTy X (.Name x pos) (.ref C) :=
  ⟨.ref C, pe_glob hg hm rfl hd, .own C⟩
theorem PTys.pa {X : Cx} : ∀ {es : List Expr} {us : List Value}, PTys X es us → ∃ cs, Paired ClsV cs us ∧ PA X es (fun _ H Q => Q cs H)
  | _, _, .nil => ⟨[], .nil, PA.weak pa_nil fun _ _ _ q => q⟩
  | _, _, .cons ⟨v, h, k⟩ t hs => by
    obtain ⟨cs, hc, hp⟩ := PTys.pa t
    exact ⟨v :: cs, .cons k hc, PA.weak (pa_cons h hp hs) fun _ _ _ q => q⟩
def mIsi (f : D → Option Bool) (m : S → R W) (s : S) : R W := (m s).bind fun x s1 => match s1.pk x with
  | some d => (match f d with
    | some b => .ok (.d (.bl b)) s1
    | none => .no)
  | none => .no
section
variable {X : Cx} {Wx : WX} {e c : Expr} {es : List Expr} {m : S → R W} {f : D → Option Bool} {u : Value} {us : List Value} {p pos tpos : Pos} {k : Nat}
theorem ve_isi (hg : Gl X "isinstance") (hm : X.mg "isinstance" = none) (h : VE X Wx e m) (hu : PTy X c u) (ok : IsiOk X.K [u] f)
    (he : starEach [e, c] X.env = (false, eval e X.env) :: starEach [c] X.env := by rfl) (he2 : starEach [c] X.env = (false, eval c X.env) :: starEach [] X.env := by rfl) (hpl : (backTo pos (starEach [c] X.env)).any (·.1) = false := by rfl) :
    VE X Wx (.Call (.Name "isinstance" p) [e, c] [] pos) (mIsi f m) := by
  obtain ⟨v, hv, kv⟩ := hu
  refine ⟨PE.weak (pe_callB call_isi hg hm (by decide +kernel) (pa_cons h.pe (pa_cons hv pa_nil he2) he) (he := he) (hpl := hpl)) fun σ H Q ⟨U, g, s, c, q⟩ => ⟨U, g, s, c, Post.seq q fun g1 s1 H1 x l1 c1 q1 w rw => ?_⟩⟩
  split at q1
  · rename_i d hd
    split at q1
    · rename_i b hb
      obtain ⟨t, ht, ha⟩ := ok X.w X.mg _ _ _ _ _ c1.hF (c1.pk rw hd) hb
      obtain ⟨b', h1, rfl⟩ := kitAny_one ha
      exact ⟨w, v, t, u, b', rfl, kv, ht, h1, q1.here c1 _ (.bl _)⟩
    · exact q1.elim
  · exact q1.elim
/-- isinstance(e, (c1, c2, ..)) -/
theorem ve_isiT (hg : Gl X "isinstance") (hm : X.mg "isinstance" = none) (h : VE X Wx e m) (hu : PTys X es us) (hlen : us.length ≤ 1000) (ok : IsiOk X.K us f)
    (he : starEach [e, .Tuple es k tpos] X.env = (false, eval e X.env) :: starEach [.Tuple es k tpos] X.env := by rfl) (he2 : starEach [.Tuple es k tpos] X.env = (false, eval (.Tuple es k tpos) X.env) :: starEach [] X.env := by rfl) (hpl : (backTo pos (starEach [.Tuple es k tpos] X.env)).any (·.1) = false := by rfl) :
    VE X Wx (.Call (.Name "isinstance" p) [e, .Tuple es k tpos] [] pos) (mIsi f m) := by
  obtain ⟨cs, kc, hp⟩ := hu.pa
  refine ⟨PE.weak (pe_callB call_isiT hg hm (by decide +kernel) (pa_cons h.pe (pa_cons (pe_tup hp) pa_nil he2) he) (he := he) (hpl := hpl)) fun σ H Q ⟨U, g, s, c, q⟩ => ⟨U, g, s, c, Post.seq q fun g1 s1 H1 x l1 c1 q1 w rw => ?_⟩⟩
  split at q1
  · rename_i d hd
    split at q1
    · rename_i b hb
      have hl : cs.length ≤ sizeLine := by
        rw [Paired.length kc]
        exact Nat.le_trans hlen (by decide)
      refine ⟨hl, fun tp ntp => ?_⟩
      obtain ⟨t, ht, ha⟩ := ok X.w X.mg _ _ _ _ _ c1.hF (c1.pk rw hd) hb
      obtain ⟨c2, l2⟩ := c1.newF (o := .tup cs) ntp
      obtain ⟨t2, ht2, ha2⟩ := ok X.w X.mg _ _ _ _ _ c2.hF (c2.pk (rw.le l2) hd) hb
      exact ⟨w, tp, cs, t2, us, b, rfl, upd_same, kc, ht2, ha2, q1 _ _ l2 c2 _ (.bl _)⟩
    · exact q1.elim
  · exact q1.elim
end
end VL
/-! VL: built-in functions, subscripts, methods. -/
namespace VL
open PySem PySem.Spec PyProof.Rows L2

/-! ### built-in functions by values -/
def oLen : List D → Option Z
  | [.lst xs] => zi xs.length
  | [.lro xs] => zi xs.length
  | [.tup xs] => zi xs.length
  | [.str x] => if fits x.length then zi x.length else none
  | _ => none
def oInt : List D → Option Z
  | [.int i] => zi i
  | [.bl b] => zi (if b then 1 else 0)
  | _ => none
def oAbs : List D → Option Z
  | [.int i] => zi (if i < 0 then -i else i)
  | _ => none
def oStr : List D → Option Z
  | [.int i] => if i.natAbs.log2 < 1920 then some (.v (.str (toString i))) else none
  | _ => none
def bls : List D → Option (List Bool)
  | [] => some []
  | .bl b :: r => (bls r).map fun l => b :: l
  | _ => none
def oneBls : List D → Option (List Bool)
  | [.lst xs] => bls xs
  | _ => none
def oAll (ds : List D) : Option Z := (oneBls ds).bind fun l => zb (l.all id)
def oAny (ds : List D) : Option Z := (oneBls ds).bind fun l => zb (l.any id)
def intsD : List D → Option (List Int)
  | [] => some []
  | .int i :: r => (intsD r).map fun l => i :: l
  | _ => none
def oSum : List D → Option Z
  | [.lst xs] => (intsD xs).bind fun l => zi l.sum
  | _ => none
def oList : List D → Option Z
  | [.lst xs] => some (.n (.lst xs))
  | [.tup xs] => some (.n (.lst xs))
  | _ => none
def oTuple : List D → Option Z
  | [.lst xs] => some (.v (.tup xs))
  | [.tup xs] => some (.v (.tup xs))
  | _ => none
def oSet0 : List D → Option Z
  | [] => some (.n (.set []))
  | _ => none
theorem Tops.one {p : Pm} {F H : Hp} {vs : List V} {d : D} (t : Tops p F H vs [d]) : ∃ v, vs = [v] ∧ Top p F H v d := by
  cases t with
  | cons h r => cases r; exact ⟨_, rfl, h⟩
theorem bls_use {p : Pm} {F : Hp} : ∀ {vs : List V} {xs : List D} {l : List Bool}, Reps p F vs xs → bls xs = some l → vs = l.map V.bl
  | _, _, _, .nil, e => by cases e; rfl
  | _, _, l, .cons (x := x) (xs := xs) h r, e => by
    cases x with
    | bl b =>
      simp only [bls] at e
      cases q : bls xs with
      | none => rw [q] at e; cases e
      | some l' =>
        rw [q] at e; cases e
        cases h
        rw [bls_use r q]; rfl
    | _ => cases e
theorem intsD_use {p : Pm} {F : Hp} : ∀ {vs : List V} {xs : List D} {l : List Int}, Reps p F vs xs → intsD xs = some l → vs = l.map V.int
  | _, _, _, .nil, e => by cases e; rfl
  | _, _, l, .cons (x := x) (xs := xs) h r, e => by
    cases x with
    | int b =>
      simp only [intsD] at e
      cases q : intsD xs with
      | none => rw [q] at e; cases e
      | some l' =>
        rw [q] at e; cases e
        cases h
        rw [intsD_use r q]; rfl
    | _ => cases e
section
variable {X : Cx}
def rLenA (X : Cx) : List V → Hp → VK → Prop := fun xs H Q => (∃ p ys, xs = [.ref p] ∧ (SqL X.K H p ys ∨ SqT X.K H p ys) ∧ Q (.int ys.length) H) ∨ ∃ z, xs = [.str z] ∧ z.length ≤ sizeLine ∧ Q (.int z.length) H
theorem cl_len : CallR X (.builtin "len") (rLenA X) := CallR.or call_len_seq call_len_str
theorem cr_len : CalR X (rLenA X) oLen := by
  intro U g H σ s vs ds z Q c t e q
  unfold oLen at e
  split at e
  · obtain ⟨v, rfl, t1⟩ := Tops.one t
    obtain ⟨a, ws, rfl, h, r⟩ := t1
    exact .inl ⟨a, ws, rfl, .inl (SqL.of h), by rw [r.length]; exact wi c q e⟩
  · obtain ⟨v, rfl, t1⟩ := Tops.one t
    obtain ⟨a, ws, rfl, h, r⟩ := t1
    exact .inl ⟨a, ws, rfl, .inl (c.hF.seq h), by rw [r.length]; exact wi c q e⟩
  · obtain ⟨v, rfl, t1⟩ := Tops.one t
    obtain ⟨a, ws, rfl, h, r⟩ := t1
    exact .inl ⟨a, ws, rfl, .inr (Same.seqT c.hF h), by rw [r.length]; exact wi c q e⟩
  · obtain ⟨v, rfl, t1⟩ := Tops.one t
    cases t1
    split at e
    · rename_i h
      exact .inr ⟨_, rfl, of_decide_eq_true h, wi c q e⟩
    · cases e
  · cases e
theorem cr_int : CalR X (fun xs H Q => (∃ i, xs = [.int i] ∧ Q (.int i) H) ∨ ∃ k, xs = [.bl k] ∧ Q (.int (if k then 1 else 0)) H) oInt := by
  intro U g H σ s vs ds z Q c t e q
  unfold oInt at e
  split at e
  · obtain ⟨v, rfl, t1⟩ := Tops.one t
    cases t1
    exact .inl ⟨_, rfl, wi c q e⟩
  · obtain ⟨v, rfl, t1⟩ := Tops.one t
    cases t1
    exact .inr ⟨_, rfl, wi c q e⟩
  · cases e
theorem cr_abs : CalR X (fun xs H Q => ∃ i, xs = [.int i] ∧ Q (.int (if i < 0 then -i else i)) H) oAbs := by
  intro U g H σ s vs ds z Q c t e q
  unfold oAbs at e
  split at e
  · obtain ⟨v, rfl, t1⟩ := Tops.one t
    cases t1
    exact ⟨_, rfl, wi c q e⟩
  · cases e
theorem cr_str : CalR X (fun xs H Q => ∃ i, xs = [.int i] ∧ i.natAbs.log2 < 1920 ∧ Q (.str (toString i)) H) oStr := by
  intro U g H σ s vs ds z Q c t e q
  unfold oStr at e
  split at e
  · obtain ⟨v, rfl, t1⟩ := Tops.one t
    cases t1
    split at e
    · rename_i h
      cases e
      exact ⟨_, rfl, h, q g H _ Le.refl c (.str _)⟩
    · cases e
  · cases e
theorem oneBls_use {U : Hp} {g : Wd} {H : Hp} {σ : St} {s : S} {vs : List V} {ds : List D} {l : List Bool} (c : Cfg (pm X) U g H σ s) (t : Tops (pm X) g.F H vs ds) (e : oneBls ds = some l) : ∃ a, vs = [V.ref a] ∧ SqL X.K H a (l.map V.bl) := by
  unfold oneBls at e
  split at e
  · obtain ⟨v, rfl, t1⟩ := Tops.one t
    obtain ⟨a, ws, rfl, h, r⟩ := t1
    exact ⟨a, rfl, by rw [← bls_use r e]; exact SqL.of h⟩
  · cases e
theorem cv_all : CalR X (rAll X.K) oAll := by
  intro U g H σ s vs ds z Q c t e q
  unfold oAll at e
  cases h : oneBls ds with
  | none => rw [h] at e; cases e
  | some l =>
    rw [h] at e
    obtain ⟨a, rfl, hl⟩ := oneBls_use c t h
    exact ⟨a, l, rfl, hl, wb c q e⟩
theorem cv_any : CalR X (rAny X.K) oAny := by
  intro U g H σ s vs ds z Q c t e q
  unfold oAny at e
  cases h : oneBls ds with
  | none => rw [h] at e; cases e
  | some l =>
    rw [h] at e
    obtain ⟨a, rfl, hl⟩ := oneBls_use c t h
    exact ⟨a, l, rfl, hl, wb c q e⟩
theorem cv_sum : CalR X (rSum X.K) oSum := by
  intro U g H σ s vs ds z Q c t e q
  unfold oSum at e
  split at e
  · rename_i xs
    obtain ⟨v, rfl, t1⟩ := Tops.one t
    obtain ⟨a, ws, rfl, h, r⟩ := t1
    cases hi : intsD xs with
    | none => rw [hi] at e; cases e
    | some l =>
      rw [hi] at e
      exact ⟨a, l, rfl, by rw [← intsD_use r hi]; exact SqL.of h, wi c q e⟩
  · cases e
theorem cv_list : CalR X (fun xs H Q => ∃ p ys, xs = [.ref p] ∧ (SqL X.K H p ys ∨ SqT X.K H p ys) ∧ ∀ l, H l = none → Q (.ref l) (upd H l (.lst ys))) oList := by
  intro U g H σ s vs ds z Q c t e q
  unfold oList at e
  split at e
  · obtain ⟨v, rfl, t1⟩ := Tops.one t
    obtain ⟨a, ws, rfl, h, r⟩ := t1
    cases e
    exact ⟨a, ws, rfl, .inl (SqL.of h), fun l hn => q l _ hn ⟨_, rfl, r⟩⟩
  · obtain ⟨v, rfl, t1⟩ := Tops.one t
    obtain ⟨a, ws, rfl, h, r⟩ := t1
    cases e
    exact ⟨a, ws, rfl, .inr (Same.seqT c.hF h), fun l hn => q l _ hn ⟨_, rfl, r⟩⟩
  · cases e
theorem cv_tuple : CalR X (fun xs H Q => ∃ p ys, xs = [.ref p] ∧ ((SqL X.K H p ys ∧ ∀ l, H l = none → Q (.ref l) (upd H l (.tup ys))) ∨ (SqT X.K H p ys ∧ Q (.ref p) H))) oTuple := by
  intro U g H σ s vs ds z Q c t e q
  unfold oTuple at e
  split at e
  · obtain ⟨v, rfl, t1⟩ := Tops.one t
    obtain ⟨a, ws, rfl, h, r⟩ := t1
    cases e
    refine ⟨a, ws, rfl, .inl ⟨SqL.of h, fun l hn => ?_⟩⟩
    obtain ⟨c', l'⟩ := c.newF (o := .tup ws) hn
    exact q _ _ _ l' c' (.tup (SqT.of upd_same) (r.mono l'.F))
  · rename_i xs
    obtain ⟨v, rfl, t1⟩ := Tops.one t
    obtain ⟨a, ws, rfl, h, r⟩ := t1
    cases e
    exact ⟨a, ws, rfl, .inr ⟨Same.seqT c.hF h, q g H _ Le.refl c (.tup h r)⟩⟩
  · cases e
end
end VL
/-! VL: subscripts, slices, stores, methods that change, repr, enumerate. -/
namespace VL
open PySem PySem.Spec PyProof.Rows L2

/-! ### o[i] -/
def oIx : D → D → Option Z
  | .lst xs, .int i => (atI xs i).map Z.v
  | .tup xs, .int i => (atI xs i).map Z.v
  | .str x, .int i => if fits x.length then (atI x.cps.toList i).map fun c => .v (.str ⟨#[c]⟩) else none
  | _, _ => none
theorem atI_reps {p : Pm} {F : Hp} {vs : List V} {xs : List D} {i : Int} {d : D} (r : Reps p F vs xs) (e : atI xs i = some d) : ∃ v, atI vs i = some v ∧ Rep p F v d := by
  unfold atI at e ⊢
  rw [r.length]
  cases h : ixN xs.length i with
  | none => rw [h] at e; cases e
  | some j =>
    rw [h] at e
    obtain ⟨v, h1, h2⟩ := r.get (i := j) e
    exact ⟨v, h1, h2⟩
section
variable {X : Cx}
theorem br_ix : BinR X (rIx X.K) oIx := by
  intro U g H σ s x y a b z Q c ta tb e q
  unfold oIx at e
  split at e
  · rename_i xs i
    obtain ⟨m, vs, rfl, h, r⟩ := ta
    cases tb
    cases hd : atI xs i with
    | none => rw [hd] at e; cases e
    | some d =>
      rw [hd] at e; cases e
      obtain ⟨v, h1, h2⟩ := atI_reps r hd
      exact .inl ⟨m, vs, i, v, rfl, rfl, SqL.of h, h1, q g H v Le.refl c h2⟩
  · rename_i xs i
    obtain ⟨m, vs, rfl, h, r⟩ := ta
    cases tb
    cases hd : atI xs i with
    | none => rw [hd] at e; cases e
    | some d =>
      rw [hd] at e; cases e
      obtain ⟨v, h1, h2⟩ := atI_reps r hd
      exact .inr (.inl ⟨m, vs, i, v, rfl, rfl, Same.seqT c.hF h, h1, q g H v Le.refl c h2⟩)
  · rename_i x i
    cases ta
    cases tb
    split at e
    · rename_i hf
      cases hd : atI x.cps.toList i with
      | none => rw [hd] at e; cases e
      | some d =>
        rw [hd] at e; cases e
        exact .inr (.inr ⟨x, i, d, rfl, rfl, of_decide_eq_true hf, hd, q g H _ Le.refl c (.str _)⟩)
    · cases e
  · cases e
end

/-! ### slices -/
def cut {α : Type} (xs : List α) (lo hi : Option Int) : List α := (xs.drop (HT.sIx xs.length 0 lo)).take (HT.sIx xs.length xs.length hi - HT.sIx xs.length 0 lo)
theorem Reps.cut {p : Pm} {F : Hp} {vs : List V} {xs : List D} (r : Reps p F vs xs) (lo hi : Option Int) : Reps p F (cutV vs lo hi) (cut xs lo hi) := by
  unfold cutV VL.cut
  rw [r.length]
  exact Reps.take _ (Reps.drop _ r)
def oSl : D → Option Int → Option Int → Option Z
  | .lst xs, lo, hi => some (.n (.lst (cut xs lo hi)))
  | .lro xs, lo, hi => some (.n (.lst (cut xs lo hi)))
  | .tup xs, lo, hi => some (.v (.tup (cut xs lo hi)))
  | _, _, _ => none
structure VO (X : Cx) (Wx : WX) (e : Option Expr) (f : S → R (Option Int)) : Prop where
  po : PO X e (fun σ H Q => ∃ U g s, Cfg (pm X) U g H σ s ∧ Post (pm X) U s g σ Wx (fun _ _ H' x => Q x H') (f s))
def mNoP (s : S) : R (Option Int) := .ok none s
def mPart (f : S → R W) (s : S) : R (Option Int) := (f s).bind fun x s1 => match x with
  | .d (.int i) => .ok (some i) s1
  | _ => .no
def mSl (rg : Bool) (op : D → Option Int → Option Int → Option Z) (f : S → R W) (fl fh : S → R (Option Int)) (s : S) : R W := (f s).bind fun x s1 => (fl s1).bind fun l s2 => (fh s2).bind fun h s3 => match s3.pk x with
  | some d => s3.puts rg (op d l h)
  | none => .no
def SliR (X : Cx) (r : V → Option Int → Option Int → Hp → VK → Prop) (op : D → Option Int → Option Int → Option Z) : Prop :=
  ∀ (U : Hp) (g : Wd) (H : Hp) (σ : St) (s : S) (x : V) (a : D) (lo hi : Option Int) (z : Z) (Q : VK), Cfg (pm X) U g H σ s → Top (pm X) g.F H x a → op a lo hi = some z → Want (pm X) U g H σ s Q z → r x lo hi H Q
section
variable {X : Cx} {Wx : WX} {e : Expr} {lo hi : Option Expr} {f : S → R W} {fl fh : S → R (Option Int)} {pos p2 : Pos} {rg : Bool} {r : V → Option Int → Option Int → Hp → VK → Prop} {op : D → Option Int → Option Int → Option Z}
theorem PO.weak {e : Option Expr} {t t' : TO} (h : PO X e t) (w : ∀ σ H Q, t' σ H Q → t σ H Q) : PO X e t' := by
  obtain ⟨h⟩ := h
  exact ⟨fun pins s σ H Q I q => h pins s σ H Q I (w _ _ _ q)⟩
theorem vo_none : VO X Wx none mNoP := ⟨PO.weak po_none fun σ H Q ⟨U, g, s, c, q⟩ => q.here c⟩
theorem vo_some (h : VE X Wx e f) : VO X Wx (some e) (mPart f) := ⟨PO.weak (po_some h.pe) fun σ H Q ⟨U, g, s, c, q⟩ => ⟨U, g, s, c, Post.seq q fun g1 s1 H1 x l1 c1 q1 v rv => by
  split at q1
  · cases rv
    exact ⟨_, rfl, q1.here c1⟩
  · exact q1.elim⟩⟩
theorem ve_sl (hr : SlR X r) (hb : SliR X r op) (h : VE X Wx e f) (hl : VO X Wx lo fl) (hu : VO X Wx hi fh) : VE X Wx (.Subscript e (.Slice lo hi none p2) pos) (mSl rg op f fl fh) :=
  ⟨PE.weak (pe_slice hr h.pe hl.po hu.po) fun σ H Q ⟨U, g, s, c, q⟩ => ⟨U, g, s, c, Post.seq q fun g1 s1 H1 x l1 c1 q1 v rv => ⟨U, g1, s1, c1, Post.seq q1 fun g2 s2 H2 l l2 c2 q2 => ⟨U, g2, s2, c2, Post.seq q2 fun g3 s3 H3 u l3 c3 q3 => by
    split at q3
    · rename_i d hd
      obtain ⟨z, e3, q4⟩ := want_puts c3 q3
      exact hb U g3 H3 σ s3 v d l u z Q c3 (c3.pk (rv.le (l2.trans l3)) hd) e3 q4
    · exact q3.elim⟩⟩⟩⟩
def rSl (X : Cx) : V → Option Int → Option Int → Hp → VK → Prop := fun x lo hi H Q => rSlL X.K x lo hi H Q ∨ rSlA X.K x lo hi H Q
theorem sl_any : SlR X (rSl X) := SlR.or sl_list sl_tupA
theorem cut_all {α : Type} {xs : List α} {lo hi : Option Int} (h : HT.sIx xs.length 0 lo = 0 ∧ HT.sIx xs.length xs.length hi = xs.length) : cut xs lo hi = xs := by
  unfold cut
  rw [h.1, h.2, Nat.sub_zero, List.drop_zero, List.take_length]
theorem sr_any : SliR X (rSl X) oSl := by
  intro U g H σ s x a lo hi z Q c ta e q
  unfold oSl at e
  split at e
  · obtain ⟨m, vs, rfl, h, r⟩ := ta
    cases e
    exact .inl ⟨m, vs, rfl, SqL.of h, fun l hn => q l _ hn ⟨_, rfl, r.cut _ _⟩⟩
  · obtain ⟨m, vs, rfl, h, r⟩ := ta
    cases e
    exact .inl ⟨m, vs, rfl, c.hF.seq h, fun l hn => q l _ hn ⟨_, rfl, r.cut _ _⟩⟩
  · rename_i xs
    obtain ⟨m, vs, rfl, h, r⟩ := ta
    cases e
    refine .inr ⟨m, vs, rfl, Same.seqT c.hF h, fun hw => ?_, fun hw pp hn => ?_⟩
    · rw [r.length] at hw
      refine q g H _ Le.refl c ?_
      rw [cut_all hw]
      exact .tup h r
    · obtain ⟨c', l'⟩ := c.newF (o := .tup (cutV vs lo hi)) hn
      exact q _ _ _ l' c' (.tup (SqT.of upd_same) ((r.cut lo hi).mono l'.F))
  · cases e
end

/-! ### o[i] = v -/
def mSetIx (fv fo fi : S → R W) (s : S) : RS := (fv s).toS fun w s1 => (fo s1).toS fun x s2 => (fi s2).toS fun y s3 => match w, x, y with
  | .d d, .r n, .d (.int k) => (match s3.os[n]? with
    | some (.lst xs) => (match ixN xs.length k with
      | some j => .nx ⟨s3.vs, s3.os.set n (.lst (xs.set j d))⟩
      | none => .no)
    | _ => .no)
  | _, _, _ => .no
theorem RepO.ownL {p : Pm} {F : Hp} {a : Addr} {own : Hp} {xs : List D} (h : RepO p F a own (.lst xs)) : ∃ u, own = one a u := let ⟨_, e, _⟩ := h; ⟨_, e⟩
section
variable {X : Cx} {Wx : WX} {e o i : Expr} {fv fo fi f : S → R W} {fs : S → R (List W)} {pos tp : Pos} {es : List Expr}
theorem vs_setIx (hv : VE X Wx e fv) (ho : VE X Wx o fo) (hi : VE X Wx i fi)
    (ha : ∀ v, assign (.Subscript o i tp) X.env v = (do
      let ov ← holding [v] (eval o X.env)
      let iv ← holding [v, ov] (eval i X.env)
      standAt tp
      holding [v, ov, iv] (setItem ov iv v)
      release [v, ov, iv] []) := by intro _; rfl)
    (hs : swapsWithSole [.Subscript o i tp] e pos.line X.env = pure false := by rfl) (hw : swappedStores [.Subscript o i tp] e X.env = pure none := by rfl)
    (h1 : (assignEach [.Subscript o i tp] X.env).map (·.2) = [assign (.Subscript o i tp) X.env] := by rfl) : VS X Wx (.Assign [.Subscript o i tp] e pos) (mSetIx fv fo fi) :=
  ⟨PS.weak (ps_asg hv.pe (pg_sub ho.pe hi.pe set_list ha) hs hw h1) fun D σ H ⟨U, g, s, c, q⟩ => ⟨U, g, s, c, PostS.ofR q fun g1 s1 H1 w l1 c1 q1 v rv => ⟨U, g1, s1, c1, PostS.ofR q1 fun g2 s2 H2 x l2 c2 q2 ov rx =>
    ⟨U, g2, s2, c2, PostS.ofR q2 fun g3 s3 H3 y l3 c3 q3 iv ry => by
      split at q3
      · rename_i d n k
        split at q3
        · rename_i xs hn
          split at q3
          · rename_i j hj
            have rv3 : Rep (pm X) g3.F v d := RepW.le (s := s1) (s' := s3) (x := .d d) rv (l2.trans l3)
            have rx3 := rx.le l3
            obtain ⟨hlt, rfl⟩ := rx3
            cases (show Rep (pm X) g3.F iv (.int k) from ry)
            have ro := c3.os n _ hn
            obtain ⟨vs, eo, rvs⟩ := ro
            have hH : H3 (g3.root n) = some (.lst vs) := c3.hO n hlt _ _ (by rw [eo, one_at])
            refine ⟨g3.root n, vs, k, j, rfl, rfl, hH, by rw [rvs.length]; exact hj, ?_⟩
            obtain ⟨c4, l4⟩ := c3.setO (o := .lst (vs.set j v)) (y := .lst (xs.set j d)) hlt ⟨_, eo⟩ ⟨_, rfl, rvs.set rv3 j⟩
            exact q3 _ _ _ l4 c4
          · exact q3.elim
        · exact q3.elim
      · exact q3.elim⟩⟩⟩⟩

/-! ### methods that change a list -/
def uAppend : O → List D → Option (O × D)
  | .lst xs, [d] => if fits (xs.length + 1) then some (.lst (xs ++ [d]), .non) else none
  | _, _ => none
def uPop : O → List D → Option (O × D)
  | .lst xs, [] => (xs[xs.length - 1]?).map fun d => (.lst xs.dropLast, d)
  | _, _ => none
def uPopAt : O → List D → Option (O × D)
  | .lst xs, [.int i] => if -(2 ^ 63) ≤ i ∧ i < 2 ^ 63 then (ixN xs.length i).bind fun k => (xs[k]?).map fun d => (.lst (xs.eraseIdx k), d) else none
  | _, _ => none
theorem mu_list {U : Hp} {g : Wd} {H : Hp} {σ : St} {s : S} {n : Nat} {xs ys : List D} {vs ws : List V} (c : Cfg (pm X) U g H σ s) (h : s.os[n]? = some (.lst xs)) (eo : g.own n = one (g.root n) (.lst vs)) (r : Reps (pm X) g.F ws ys) :
    ∃ g', Le s ⟨s.vs, s.os.set n (.lst ys)⟩ g g' ∧ Cfg (pm X) U g' (upd H (g.root n) (.lst ws)) σ ⟨s.vs, s.os.set n (.lst ys)⟩ ∧ g'.F = g.F := by
  have hlt : n < s.os.length := (List.getElem?_eq_some_iff.mp h).1
  obtain ⟨c4, l4⟩ := c.setO (o := .lst ws) (y := .lst ys) hlt ⟨_, eo⟩ ⟨_, rfl, r⟩
  exact ⟨_, l4, c4, rfl⟩
theorem at_list {U : Hp} {g : Wd} {H : Hp} {σ : St} {s : S} {n : Nat} {xs : List D} (c : Cfg (pm X) U g H σ s) (h : s.os[n]? = some (.lst xs)) : ∃ vs, g.own n = one (g.root n) (.lst vs) ∧ Reps (pm X) g.F vs xs ∧ H (g.root n) = some (.lst vs) := by
  have hlt : n < s.os.length := (List.getElem?_eq_some_iff.mp h).1
  obtain ⟨vs, eo, r⟩ := c.os n _ h
  exact ⟨vs, eo, r, c.hO n hlt _ _ (by rw [eo, one_at])⟩
theorem ur_append : MutR X rAppend uAppend := by
  intro U g H σ s n vs ds o o' d Q c h r e q
  unfold uAppend at e
  split at e
  · rename_i xs y
    split at e
    · rename_i hf
      cases e
      obtain ⟨ws, eo, rw_, hH⟩ := at_list c h
      cases r with
      | cons ry rn =>
        cases rn
        obtain ⟨g', l', c', eF⟩ := mu_list c h eo (rw_.app (.cons ry .nil))
        exact ⟨g.root n, ws, _, rfl, rfl, hH, by rw [rw_.length]; exact of_decide_eq_true hf, q g' _ _ l' c' .non⟩
    · cases e
  · cases e
theorem ur_pop : MutR X rPop uPop := by
  intro U g H σ s n vs ds o o' d Q c h r e q
  unfold uPop at e
  split at e
  · rename_i xs
    cases hd : xs[xs.length - 1]? with
    | none => rw [hd] at e; cases e
    | some y =>
      rw [hd] at e; cases e
      obtain ⟨ws, eo, rw_, hH⟩ := at_list c h
      cases r
      obtain ⟨v, h1, h2⟩ := rw_.get hd
      obtain ⟨g', l', c', eF⟩ := mu_list c h eo rw_.dropLast
      exact ⟨g.root n, ws, v, rfl, rfl, hH, by rw [rw_.length]; exact h1, q g' _ _ l' c' (by rw [eF]; exact h2)⟩
  · cases e
theorem ur_popAt : MutR X rPopAt uPopAt := by
  intro U g H σ s n vs ds o o' d Q c h r e q
  unfold uPopAt at e
  split at e
  · rename_i xs i
    split at e
    · rename_i hi
      cases hk : ixN xs.length i with
      | none => rw [hk] at e; cases e
      | some k =>
        rw [hk] at e
        simp only [Option.bind_some] at e
        cases hd : xs[k]? with
        | none => rw [hd] at e; cases e
        | some y =>
          rw [hd] at e; cases e
          obtain ⟨ws, eo, rw_, hH⟩ := at_list c h
          cases r with
          | cons ry rn =>
            cases rn
            cases ry
            obtain ⟨v, h1, h2⟩ := rw_.get hd
            obtain ⟨g', l', c', eF⟩ := mu_list c h eo (rw_.eraseIdx k)
            exact ⟨g.root n, ws, i, k, v, rfl, rfl, hH, hi.1, hi.2, by rw [rw_.length]; exact (ixN_seq hk).1, h1, q g' _ _ l' c' (by rw [eF]; exact h2)⟩
    · cases e
  · cases e

/-! ### known.add(k) -/
def mSAdd (f fk : S → R W) (s : S) : R W := (f s).bind fun x s1 => match x with
  | .r n => (match s1.os[n]? with
    | some (.set _) => (fk s1).bind fun y s2 => (match y, s2.os[n]? with
      | .d (.int k), some (.set ns) => if ns.length + 1 < scanBound then .ok (.d .non) ⟨s2.vs, s2.os.set n (.set (if k ∈ ns then ns else ns ++ [k]))⟩ else .no
      | _, _ => .no)
    | _ => .no)
  | _ => .no
theorem setS_add (ns : List Int) (k : Int) : (fun j => setS ns j || decide (j = k)) = setS (if k ∈ ns then ns else ns ++ [k]) := by
  funext j
  unfold setS
  by_cases h : k ∈ ns
  · rw [if_pos h]
    by_cases hj : j = k
    · subst hj; simp [h]
    · simp [hj]
  · rw [if_neg h]
    by_cases hj : j = k <;> simp [hj]
theorem setS_len (ns : List Int) (k : Int) : (if setS ns k = true then ns.length else ns.length + 1) = (if k ∈ ns then ns else ns ++ [k]).length := by
  unfold setS
  by_cases h : k ∈ ns <;> simp [h]
theorem ve_sadd {apos cpos : Pos} (h : VE X Wx o f) (hk : VE X Wx e fi)
    (hbase : attributeBase o "add" X.env (eval o X.env) = eval o X.env := by rfl)
    (hfew : ((backTo cpos (starEach [e] X.env)).all (fun x => !x.1) && (backToKw cpos (keywordEach [] X.env)).all (fun x => x.1.isSome)
      && decide (([e] : List Expr).length + ([] : List Keyword).length + (if ([] : List Keyword).isEmpty then 0 else 1) < 30)) = true := by rfl)
    (hline : (apos.endLine == cpos.line) = true := by rfl) (hs : starEach [e] X.env = (false, eval e X.env) :: starEach [] X.env := by rfl) (hplain : (backTo cpos (starEach [] X.env)).any (·.1) = false := by rfl) :
    VE X Wx (.Call (.Attribute o "add" apos) [e] [] cpos) (mSAdd f fi) :=
  ⟨PE.weak (pe_sadd h.pe (pa_cons hk.pe pa_nil hs) hbase hfew hline hs hplain) fun σ H Q ⟨U, g, s, c, q⟩ => ⟨U, g, s, c, Post.seq q fun g1 s1 H1 x l1 c1 q1 v rv => by
    split at q1
    · rename_i n
      split at q1
      · rename_i ns hn
        obtain ⟨hlt, rfl⟩ := rv
        have ro : g1.own n = one (g1.root n) (SetO X.w (g1.root n) (setS ns) ns.length) := c1.os n _ hn
        refine ⟨⟨_, _, _, rfl, c1.hO n hlt _ _ (by rw [ro, one_at])⟩, U, g1, s1, c1, Post.seq q1 fun g2 s2 H2 y l2 c2 q2 w rw_ => ?_⟩
        split at q2
        · rename_i k ns2 hn2
          split at q2
          · rename_i room
            cases rw_
            have hlt2 : n < s2.os.length := (List.getElem?_eq_some_iff.mp hn2).1
            have ro2 : g2.own n = one (g2.root n) (SetO X.w (g2.root n) (setS ns2) ns2.length) := c2.os n _ hn2
            rw [← l2.rt n hlt]
            refine ⟨g2.root n, k, setS ns2, ns2.length, rfl, rfl, c2.hO n hlt2 _ _ (by rw [ro2, one_at]), room, ?_⟩
            rw [setS_add, setS_len]
            obtain ⟨c4, l4⟩ := c2.setO (o := SetO X.w (g2.root n) (setS (if k ∈ ns2 then ns2 else ns2 ++ [k])) (if k ∈ ns2 then ns2 else ns2 ++ [k]).length) (y := .set (if k ∈ ns2 then ns2 else ns2 ++ [k])) hlt2 ⟨_, ro2⟩ rfl
            exact q2 _ _ l4 c4 _ .non
          · exact q2.elim
        · exact q2.elim
      · exact q1.elim
    · exact q1.elim⟩⟩
theorem cv_set0 : CalR X (rSet0 X.w) oSet0 := by
  intro U g H σ s vs ds z Q c t e q
  unfold oSet0 at e
  split at e
  · cases t
    cases e
    refine ⟨rfl, fun p hn => q p _ hn ?_⟩
    show one p _ = one p _
    congr 1
  · cases e

/-! ### enumerate(xs) -/
def enumD : Nat → List D → List D
  | _, [] => []
  | k, x :: xs => .tup [.int (k : Int), x] :: enumD (k + 1) xs
def mEnum (fs : S → R (List W)) (s : S) : R (List D) := (fs s).bind fun ws s1 => match dsOf ws with
  | some [.lst xs] => .ok (enumD 0 xs) s1
  | _ => .no
theorem enumD_len : ∀ (xs : List D) (k : Nat), (enumD k xs).length = xs.length
  | [], _ => rfl
  | x :: xs, k => by simp [enumD, enumD_len xs]
theorem enumD_get : ∀ (xs : List D) (k i : Nat) (y : D), (enumD k xs)[i]? = some y → ∃ x, xs[i]? = some x ∧ y = .tup [.int ((k + i : Nat) : Int), x]
  | [], _, _, _, h => by simp [enumD] at h
  | x :: xs, k, 0, y, h => by
    simp [enumD] at h
    exact ⟨x, rfl, by rw [← h]; simp⟩
  | x :: xs, k, i + 1, y, h => by
    simp only [enumD, List.getElem?_cons_succ] at h
    obtain ⟨z, h1, h2⟩ := enumD_get xs (k + 1) i y h
    exact ⟨z, by simpa using h1, by rw [h2]; congr 3; omega⟩
end
end VL
/-! VL: enumerate, repr, calls with keywords, the law's end. -/
namespace VL
open PySem PySem.Spec PyProof.Rows L2
section
variable {X : Cx} {Wx : WX} {e : Expr} {es : List Expr} {fs : S → R (List W)} {pos p tpos : Pos}
theorem itOk_enum {pp : Pm} {g0 : Wd} {m : Addr} {vs : List V} {xs : List D} (h : SqL pp.K g0.F m vs) (r : Reps pp g0.F vs xs) : ItOk pp g0 (enumD 0 xs) (Ite pp.K m) := fun U g s σ H i sF c => by
  have hH : SqL pp.K H m vs := c.hF.seq (sF.seq h)
  refine ⟨fun y hy => ?_, fun hl => ⟨vs, hH, by rw [enumD_len] at hl; rw [r.length]; exact hl⟩⟩
  obtain ⟨x, hx, rfl⟩ := enumD_get xs 0 i y hy
  obtain ⟨v, hv, rv⟩ := r.get hx
  refine ⟨⟨vs, v, hH, hv⟩, fun v' H' ⟨T, x', e1, nT, e2, e3⟩ => ?_⟩
  subst e1; subst e2
  have := e3 vs hH
  rw [hv] at this
  cases this
  obtain ⟨c', l'⟩ := c.newF (o := .tup [.int (i : Nat), v]) nT
  refine ⟨_, c', l', ?_⟩
  rw [Nat.zero_add]
  exact .tup (SqT.of upd_same) (.cons (.int _) (.cons ((rv.mono sF).mono l'.F) .nil))
theorem vi_enum {elts : List Expr} {kk : Nat} (hg : Gl X "enumerate") (hm : X.mg "enumerate" = none) (ha : VA X Wx [e] fs) (hs : starEach [e] X.env = [(false, eval e X.env)] := by rfl) : VI X Wx (.Tuple elts kk tpos) (.Call (.Name "enumerate" p) [e] [] pos) (mEnum fs) :=
  ⟨PI.weak (pi_enum hg hm ha.pa hs) fun σ H Rr ⟨U, g, s, c, q⟩ => ⟨U, g, s, c, Post.seq q fun g1 s1 H1 ws l1 c1 q1 vs rs => by
    split at q1
    · rename_i xs e1
      have r := dsOf_use rs e1
      cases r with
      | cons r0 rt =>
        cases rt
        cases r0 with
        | lst hF rx => exact ⟨_, _, rfl, c1.hF.seq (SqL.of hF), q1.here c1 _ (itOk_enum (SqL.of hF) rx)⟩
    · exact q1.elim⟩⟩
end

/-! ### repr -/
def kpy : Key → PyData
  | .inl i => .int i
  | .inr x => .str x
def scal : D → Option PyData
  | .non => some .none
  | .bl b => some (.bool b)
  | .int i => some (.int i)
  | .str x => some (.str x)
  | _ => none
def scals : List D → Option (List PyData)
  | [] => some []
  | x :: xs => (scal x).bind fun d => (scals xs).map fun ds => d :: ds
def D.rp : D → Option PyData
  | .dct ks xs => (scals xs).map fun ds => .dict ((ks.map kpy).zip ds)
  | d => d.py
def rpOk (e : PyData) : Bool := e.showable && decide (e.depth ≤ 64) && fits e.shown.length
def oRepr : List D → Option Z
  | [d] => d.rp.bind fun e => if rpOk e then some (.v (.str e.shown)) else none
  | _ => none
/-- a plain value -/
def scV : V → Option PyData
  | .non => some .none
  | .bl b => some (.bool b)
  | .int i => some (.int i)
  | .str x => some (.str x)
  | _ => none
/-- a dict of plain values -/
def DctOf (H : Hp) (v : V) (e : PyData) : Prop := ∃ (a : Addr) (ks : List Key) (vs : List V) (ds : List PyData), v = .ref a ∧ H a = some (.dK (ks.zip vs)) ∧ ks.length = vs.length ∧ Paired (fun v d => scV v = some d) vs ds ∧ e = .dict ((ks.map kpy).zip ds)
def rRepr (K : PySem.W.Frag) : List V → Hp → VK → Prop := fun vs H Q => ∃ v e, vs = [v] ∧ (Dp K H v e ∨ DctOf H v e) ∧ rpOk e = true ∧ Q (.str e.shown) H
mutual
theorem Dp.noDict {K : PySem.W.Frag} {H : Hp} : ∀ {v : V} {e : PyData}, Dp K H v e → e.hasDict = false
  | _, _, .non => by rw [PyData.hasDict]
  | _, _, .bl b => by rw [PyData.hasDict]
  | _, _, .int b => by rw [PyData.hasDict]
  | _, _, .str b => by rw [PyData.hasDict]
  | _, _, .lst _ r => by rw [PyData.hasDict]; exact DpAll.noDict r
  | _, _, .tup _ r => by rw [PyData.hasDict]; exact DpAll.noDict r
theorem DpAll.noDict {K : PySem.W.Frag} {H : Hp} : ∀ {vs : List V} {es : List PyData}, DpAll K H vs es → PyData.hasDictAll es = false
  | _, _, .nil => by rw [PyData.hasDictAll]
  | _, _, .cons h r => by rw [PyData.hasDictAll, Dp.noDict h, DpAll.noDict r]; rfl
end
theorem sc_reads {h : Heap} {v : V} {u : Value} {d : PyData} (r : RelV v u) (e : scV v = some d) : Reads h u d [] := by
  cases v with
  | non => cases r; cases e; exact .none
  | bl b => cases r; cases e; exact .bool b
  | int b => obtain ⟨t, rfl⟩ := r; cases e; exact .int b t
  | str b => obtain ⟨t, rfl⟩ := r; cases e; exact .str b t
  | _ => cases e
theorem key_reads {h : Heap} {k : Key} {u : Value} (e : keyIs k u = true) : Reads h u (kpy k) [] := by
  rcases keyIs_shape e with ⟨i, t, rfl, rfl⟩ | ⟨x, t, rfl, rfl⟩
  · exact .int i t
  · exact .str x t
theorem dict_reads {P : Program} {w : World} {h : Heap} : ∀ {es : List DictEntry} {kvs : List (Key × Value)} {ks : List Key} {vs : List V} {ds : List PyData}, PySem.Pairs (mixKind P w) es kvs → KV (ks.zip vs) kvs → ks.length = vs.length → Paired (fun v d => scV v = some d) vs ds →
    ReadsAll h (es.map (·.key)) (((ks.map kpy).zip ds).map (·.1)) [] ∧ ReadsAll h (es.map (·.val)) (((ks.map kpy).zip ds).map (·.2)) []
  | _, _, [], [], _, hp, hk, _, hd => by
    cases hk
    cases hp
    exact ⟨.nil, .nil⟩
  | _, _, k :: ks, v :: vs, _, hp, hk, hl, hd => by
    cases hk with
    | cons h1 h2 =>
      cases hp with
      | cons p1 p2 p3 =>
        cases hd with
        | cons d1 d2 =>
          obtain ⟨q1, q2⟩ := dict_reads (h := h) p3 h2 (by simpa using hl) d2
          refine ⟨?_, ?_⟩
          · refine ReadsAll.cons (as := []) (bs := []) ?_ q1
            have := h1.1
            rw [← this] at p1
            exact key_reads p1
          · refine ReadsAll.cons (as := []) (bs := []) ?_ q2
            dsimp only
            rw [p2]
            exact sc_reads h1.2 d1
  | _, _, [], _ :: _, _, _, _, hl, _ => by cases hl
  | _, _, _ :: _, [], _, _, _, hl, _ => by cases hl
section
variable {X : Cx}
theorem cl_repr (gd : X.A.guards = some []) (hu : X.A.units + 66 < cLine) : CallR X (.builtin "repr") (rRepr X.K) := by
  intro pins s σ H vs us Q I r h
  obtain ⟨v, e, rfl, hv, ok, q⟩ := h
  obtain ⟨u, rfl, ru⟩ := vals1 r
  unfold rpOk at ok
  rw [Bool.and_eq_true, Bool.and_eq_true] at ok
  obtain ⟨⟨ok1, ok2⟩, ok3⟩ := ok
  have ok2 := of_decide_eq_true ok2
  have ok3 := of_decide_eq_true ok3
  have via : ∀ (a : Addr) (as : List Addr), u = .ref a → Reads s.heap u e as → (e.hasDict = true → sysModules ∉ as) → wpAny (model X.prog X.w) X.A (call (.builtin "repr") [u]) (EP X pins σ Q) X.xe s := by
    intro a as eu hr hn
    subst eu
    exact repr_of_reads' hr ok1 hn gd (by omega) (fun _ _ z => z) (fun h' u tk k => ⟨.str _, H, I.kept k, ⟨_, rfl⟩, q⟩) ok3
  rcases hv with hv | ⟨a, ks, ws, ds, rfl, hH, hl, hd, rfl⟩
  · have nd : e.hasDict = true → ∀ as : List Addr, sysModules ∉ as := fun z => by rw [Dp.noDict hv] at z; cases z
    cases hv with
    | non => cases ru; exact PySem.P.repr_of_none ⟨.str _, H, I.tok _, ⟨_, rfl⟩, q⟩
    | bl b => cases ru; exact PySem.P.repr_of_bool ⟨.str _, H, I.tok _, ⟨_, rfl⟩, q⟩
    | int i =>
      obtain ⟨t, rfl⟩ := ru
      rw [PyData.showable] at ok1
      exact PySem.P.repr_of_int (of_decide_eq_true ok1) ⟨.str _, H, I.tok _, ⟨_, rfl⟩, q⟩
    | str x =>
      obtain ⟨t, rfl⟩ := ru
      exact PySem.P.repr_of_str ⟨.str _, H, I.tok _, ⟨_, rfl⟩, q⟩ ok3
    | lst hs ha =>
      obtain ⟨as, hr⟩ := Dp.reads I _ _ _ (.lst hs ha) ru
      exact via _ as ru hr fun z => nd z as
    | tup hs ha =>
      obtain ⟨as, hr⟩ := Dp.reads I _ _ _ (.tup hs ha) ru
      exact via _ as ru hr fun z => nd z as
  · obtain ⟨_, hsys, kvs, rk, o, es, ep, ho, hex, hdat, _, hps, _⟩ := I.hok a _ hH
    obtain ⟨r1, r2⟩ := dict_reads (h := s.heap) hps rk hl hd
    refine via a ([a] ++ [] ++ []) ru ?_ fun _ hm => ?_
    · cases ru
      exact Reads.dict ho hex.1 hdat r1 r2
    · have : sysModules = a := by simpa using hm
      rw [← this] at hsys
      simp at hsys
theorem scals_use {p : Pm} {F : Hp} : ∀ {vs : List V} {xs : List D} {ds : List PyData}, Reps p F vs xs → scals xs = some ds → Paired (fun v d => scV v = some d) vs ds
  | _, _, _, .nil, e => by cases e; exact .nil
  | _, _, _, .cons (x := x) (xs := xs) h r, e => by
    simp only [scals] at e
    cases q : scal x with
    | none => rw [q] at e; cases e
    | some d =>
      cases q2 : scals xs with
      | none => rw [q, q2] at e; cases e
      | some ds =>
        rw [q, q2] at e; cases e
        refine .cons ?_ (scals_use r q2)
        cases x with
        | non => cases h; exact q
        | bl b => cases h; exact q
        | int b => cases h; exact q
        | str b => cases h; exact q
        | _ => cases q
theorem cv_repr : CalR X (rRepr X.K) oRepr := by
  intro U g H σ s vs ds z Q c t e q
  unfold oRepr at e
  split at e
  · rename_i d
    obtain ⟨v, rfl, t1⟩ := Tops.one t
    cases hd : d.rp with
    | none => rw [hd] at e; cases e
    | some y =>
      rw [hd] at e
      simp only [Option.bind_some] at e
      split at e
      · rename_i ok
        cases e
        refine ⟨v, y, rfl, ?_, ok, q g H _ Le.refl c (.str _)⟩
        cases d with
        | dct ks xs =>
          obtain ⟨a, ws, rfl, h, l, r⟩ := t1
          simp only [D.rp] at hd
          cases hs : scals xs with
          | none => rw [hs] at hd; cases hd
          | some es =>
            rw [hs] at hd; cases hd
            exact .inr ⟨a, ks, ws, es, rfl, h, l, scals_use r hs, rfl⟩
        | _ => exact .inl ((t1.rep c.hF).dp hd)
      · cases e
  · cases e
end
end VL
/-! VL: calls with keywords; the law's end. -/
namespace VL
open PySem PySem.Spec PyProof.Rows L2

def pick {α : Type} (perm : List Nat) (l : List α) : List α := perm.filterMap fun i => l[i]?
theorem Paired.app {α β : Type} {F : α → β → Prop} : ∀ {a1 a2 : List α} {b1 b2 : List β}, Paired F a1 b1 → Paired F a2 b2 → Paired F (a1 ++ a2) (b1 ++ b2)
  | _, _, _, _, .nil, h => h
  | _, _, _, _, .cons h r, h2 => .cons h (Paired.app r h2)
theorem Paired.getL {α β : Type} {F : α → β → Prop} : ∀ {l₁ : List α} {l₂ : List β} (i : Nat), Paired F l₁ l₂ → (l₁[i]? = none ∧ l₂[i]? = none) ∨ ∃ x y, l₁[i]? = some x ∧ l₂[i]? = some y ∧ F x y
  | _, _, i, .nil => .inl ⟨by simp, by simp⟩
  | _, _, 0, .cons h r => .inr ⟨_, _, rfl, rfl, h⟩
  | _, _, i + 1, .cons h r => by
    rcases Paired.getL i r with ⟨h1, h2⟩ | ⟨x, y, h1, h2, h3⟩
    · exact .inl ⟨by simpa using h1, by simpa using h2⟩
    · exact .inr ⟨x, y, by simpa using h1, by simpa using h2, h3⟩
theorem Paired.pick {α β : Type} {F : α → β → Prop} {l₁ : List α} {l₂ : List β} (h : Paired F l₁ l₂) : ∀ perm : List Nat, Paired F (VL.pick perm l₁) (VL.pick perm l₂)
  | [] => .nil
  | i :: r => by
    unfold VL.pick
    rw [List.filterMap_cons, List.filterMap_cons]
    rcases Paired.getL i h with ⟨h1, h2⟩ | ⟨x, y, h1, h2, h3⟩
    · rw [h1, h2]; exact Paired.pick h r
    · rw [h1, h2]; exact .cons h3 (Paired.pick h r)
/-- how keywords bind: n values by place, those of the keywords ks behind them, put in the parameters' order by perm -/
def KwB (K : PySem.W.Frag) (fd : FuncData) (ps ks : List Str) (n : Nat) (perm : List Nat) : Prop :=
  ∀ (s : Shared) (us ws : List Value), K.In s.heap → us.length = n → ws.length = ks.length → BindsTo s fd ⟨us, ks.zip ws⟩ (ps.zip (pick perm (us ++ ws)))
theorem kwB_of {K : PySem.W.Frag} {x qual : Str} {st : Stmt} {f : Addr} {fd : FuncData} {ps ks : List Str} {n : Nat} {perm : List Nat} (F : Fun K x qual st f fd)
    (h : ∀ (kV doc pm : Value) (an : Option Addr) (cdv ct : Value) (us ws : List Value), us.length = n → ws.length = ks.length → bindArgs (PySem.W.fnOf x qual (defArgs st) (defBody st) (defScope st) .none kV doc pm an cdv ct) ⟨us, ks.zip ws⟩ = pure (ps.zip (pick perm (us ++ ws)))) :
    KwB K fd ps ks n perm := by
  obtain ⟨oc, od, kV, doc, pm, an, cdv, ct, osl, rfl, lk, hcd⟩ := F.ex
  exact fun s us ws _ h1 h2 => .of_eq (h kV doc pm an cdv ct us ws h1 h2)
structure VKw (X : Cx) (Wx : WX) (kws : List Keyword) (f : S → R (List W)) : Prop where
  pk : PK X kws (tL (pm X) Wx f)
def mCallK (m : S → R W) (n k : Nat) (perm : List Nat) (fs fk : S → R (List W)) (s : S) : R W := (fs s).bind fun ws s1 => (fk s1).bind fun zs s2 => callM m (pick perm (ws ++ zs)) s2
section
variable {X : Cx} {Wx : WX} {E : XK} {e : Expr} {es : List Expr} {kws : List Keyword} {f : S → R W} {fs fk : S → R (List W)} {pos p kpos : Pos} {nm : Option Str}
theorem PK.weak {t t' : TA} (h : PK X kws t) (w : ∀ σ H Q, t' σ H Q → t σ H Q) : PK X kws t' := ⟨fun pos pins s σ H Q I q => h.run pos pins s σ H Q I (w _ _ _ q)⟩
theorem vk_nil : VKw X Wx [] mNil := ⟨PK.weak pk_nil fun σ H Q ⟨U, g, s, c, q⟩ => q.here c [] .nil⟩
theorem vk_cons (h : VE X Wx e f) (hs : VKw X Wx kws fs) : VKw X Wx (⟨nm, e, kpos⟩ :: kws) (mCons f fs) :=
  ⟨PK.weak (pk_cons h.pe hs.pk) fun σ H Q ⟨U, g, s, c, q⟩ => ⟨U, g, s, c, Post.seq q fun g1 s1 H1 x l1 c1 q1 v rv => ⟨U, g1, s1, c1, Post.seq q1 fun g2 s2 H2 ws l2 c2 q2 vs rs => q2.here c2 _ (.cons (rv.le l2) rs)⟩⟩⟩
variable {k n kn : Nat} {ff : Addr} {fd : FuncData} {ps ks : List Str} {x : Str} {m : S → R W} {perm : List Nat}
theorem pick_len {α : Type} {l : List α} : ∀ {perm : List Nat}, (∀ i ∈ perm, i < l.length) → (pick perm l).length = perm.length
  | [], _ => rfl
  | i :: r, h => by
    unfold pick
    rw [List.filterMap_cons, List.getElem?_eq_getElem (h i (by simp))]
    show ((pick r l).length + 1) = _
    rw [pick_len (fun j hj => h j (by simp [hj]))]; rfl
/-- f(a, .., k = v, ..) -/
theorem ve_callK (F : FnG X.prog X.w X.K X.mg X.base (L2.CX X.prog X.w) k ff fd ps (spM (pm X) perm.length m)) (gd : X.A.guards = some []) (hr : Room k X.A) (hg : Gl X x) (hm : X.mg x = some (.ref ff)) (hk : PySem.W.keepIn X.K (.ref ff) = true) (hb : KwB X.K fd ps ks n perm) (hx : Passes (L2.CX X.prog X.w) X E)
    (ha : VA X (lft E) (e :: es) fs) (hkw : VKw X (lft E) kws fk) (hn : LenIs fs n) (hkn : LenIs fk ks.length) (hp : ∀ i ∈ perm, i < n + ks.length) (hall : (backToKw pos (keywordEach kws X.env)).all (·.1.isSome) = true := by rfl) (hks : (backToKw pos (keywordEach kws X.env)).filterMap (·.1) = ks := by rfl)
    (hdb : (x == ("__debug__" : Str)) = false := by decide) (he : starEach (e :: es) X.env = (false, eval e X.env) :: starEach es X.env := by rfl)
    (hpl : ((backTo pos (starEach (e :: es) X.env)).any (·.1) || (backToKw pos (keywordEach kws X.env)).any (·.1.isNone)) = false := by rfl) :
    VE X (lft E) (.Call (.Name x p) (e :: es) kws pos) (mCallK m n ks.length perm fs fk) := by
  refine ⟨⟨fun pins s σ H Q I h => wpAny_Call_Name_kw (ld_glob I hg hm ?_ hdb)⟩⟩
  obtain ⟨U, g, st, c, q⟩ := h
  have q1 : tL (pm X) (lft E) fs σ H (fun vs H1 => tL (pm X) (lft E) fk σ H1 fun zs H2 => spM (pm X) perm.length m (pick perm (vs ++ zs)) H2 Q E ∧ vs.length = n ∧ zs.length = ks.length) := by
    refine ⟨U, g, st, c, ?_⟩
    unfold mCallK at q
    cases e1 : fs st with
    | no => rw [e1] at q; exact q.elim
    | err C ns xs s1 => rw [e1] at q; exact q
    | ok ws s1 =>
      rw [e1] at q
      intro g1 H1 l1 c1 vs rs
      refine ⟨U, g1, s1, c1, ?_⟩
      have q := Post.le (show Post (pm X) U st g σ (lft E) (TV (pm X) Q) ((fk s1).bind fun zs s2 => callM m (pick perm (ws ++ zs)) s2) from q) l1
      have lw := hn _ _ _ e1
      cases e2 : fk s1 with
      | no => rw [e2] at q; exact q.elim
      | err C ns xs s2 => rw [e2] at q; exact q
      | ok zs s2 =>
        rw [e2] at q
        intro g2 H2 l2 c2 zv rz
        have lz := hkn _ _ _ e2
        have q := Post.le (show Post (pm X) U s1 g1 σ (lft E) (TV (pm X) Q) (callM m (pick perm (ws ++ zs)) s2) from q) l2
        have rall : RWs (pm X) g2 s2.os.length (vs ++ zv) (ws ++ zs) := Paired.app (RWs.le l2 rs) rz
        refine ⟨call_use c2 (Paired.pick rall perm) (pick_len fun i hi => ?_) q, (Paired.length rs).trans lw, (Paired.length rz).trans lz⟩
        rw [List.length_append, lw, lz]
        exact hp i hi
  refine PySem.W.callWith_KW (h₀ := X.base) I.ok.mod.kin hk hall (thn (ha.pa.run pos pins s σ H _ I q1) fun us s1 ⟨vs, H1, I1, r, q2⟩ => ?_) hpl he
  refine thn (hkw.pk.run pos pins s1 σ H1 _ I1 q2) fun ws s2 ⟨zs, H2, I2, rz, q3, l1, l2⟩ => ⟨I2.kIn, ?_⟩
  rw [hks]
  exact go_fn F gd hr (fun _ => hb s2 us ws I2.kIn (r.length.symm.trans l1) (rz.length.symm.trans l2)) hx I2 (Paired.pick (Paired.app r rz) perm) q3
/-- f(k = v, ..) -/
theorem ve_callK0 (F : FnG X.prog X.w X.K X.mg X.base (L2.CX X.prog X.w) k ff fd ps (spM (pm X) perm.length m)) (gd : X.A.guards = some []) (hr : Room k X.A) (hg : Gl X x) (hm : X.mg x = some (.ref ff)) (hk : PySem.W.keepIn X.K (.ref ff) = true) (hb : KwB X.K fd ps ks 0 perm) (hx : Passes (L2.CX X.prog X.w) X E)
    (hkw : VKw X (lft E) kws fk) (hkn : LenIs fk ks.length) (hp : ∀ i ∈ perm, i < 0 + ks.length) (hall : (backToKw pos (keywordEach kws X.env)).all (·.1.isSome) = true := by rfl) (hks : (backToKw pos (keywordEach kws X.env)).filterMap (·.1) = ks := by rfl)
    (hdb : (x == ("__debug__" : Str)) = false := by decide) (hpl : ((backTo pos (starEach [] X.env)).any (·.1) || (backToKw pos (keywordEach kws X.env)).any (·.1.isNone)) = false := by rfl) :
    VE X (lft E) (.Call (.Name x p) [] kws pos) (mCallK m 0 ks.length perm mNil fk) := by
  refine ⟨⟨fun pins s σ H Q I h => wpAny_Call_Name_kw (ld_glob I hg hm ?_ hdb)⟩⟩
  obtain ⟨U, g1, s1, c1, q⟩ := h
  have q1 : tL (pm X) (lft E) fk σ H fun zs H2 => spM (pm X) perm.length m (pick perm ([] ++ zs)) H2 Q E ∧ zs.length = ks.length := by
    refine ⟨U, g1, s1, c1, ?_⟩
    unfold mCallK at q
    have q : Post (pm X) U s1 g1 σ (lft E) (TV (pm X) Q) ((fk s1).bind fun zs s2 => callM m (pick perm ([] ++ zs)) s2) := q
    cases e2 : fk s1 with
    | no => rw [e2] at q; exact q.elim
    | err C ns xs s2 => rw [e2] at q; exact q
    | ok zs s2 =>
      rw [e2] at q
      intro g2 H2 l2 c2 zv rz
      have lz := hkn _ _ _ e2
      have q := Post.le (show Post (pm X) U s1 g1 σ (lft E) (TV (pm X) Q) (callM m (pick perm ([] ++ zs)) s2) from q) l2
      refine ⟨call_use c2 (Paired.pick rz perm) (pick_len fun i hi => ?_) q, (Paired.length rz).trans lz⟩
      have := hp i hi
      show i < zs.length
      rw [lz]; omega
  refine PySem.W.callWith_KW0 (h₀ := X.base) I.ok.mod.kin hk hall ?_ hpl
  refine thn (hkw.pk.run pos pins s σ H _ I q1) fun ws s2 ⟨zs, H2, I2, rz, q3, l2⟩ => ⟨I2.kIn, ?_⟩
  rw [hks]
  exact go_fn F gd hr (fun _ => hb s2 [] ws I2.kIn rfl (rz.length.symm.trans l2)) hx I2 (Paired.pick rz perm) q3
end

/-! ### the law's end -/
/-- the law's promise: over every list of ints it gives True -/
theorem sp_law {p : Pm} {m : S → R W} {H : Hp} {a : Addr} {ns : List Int} (hO : Only H) (hS : SqL p.K H a (ns.map V.int)) (hm : ∃ s', m ⟨[some (.d (.lro (ns.map D.int)))], []⟩ = .ok (.d (.bl true)) s') : spM p 1 m [.ref a] H (fun v _ => v = .bl true) fun _ _ _ => False := by
  refine ⟨rfl, hp0, ⟨H, fun _ => 0, fun _ => hp0⟩, ⟨[some (.d (.lro (ns.map D.int)))], []⟩, ⟨Same.refl _, fun b u h => (nomatch (show (none : Option HO) = some u from h)), fun k hk => absurd hk (by simp), fun _ _ => rfl, fun k b hk => absurd hk (by simp), fun m k b hm => absurd hm (by simp), Nat.le_refl _, fun i x h => ?_, fun k o h => by simp at h⟩, rfl, ?_⟩
  · cases i with
    | zero =>
      have e : some (W.d (.lro (ns.map D.int))) = some x := by simpa using h
      cases e
      exact ⟨_, rfl, .lro hS (reps_ints ns)⟩
    | succ i => simp at h
  · obtain ⟨s', e⟩ := hm
    rw [e]
    intro g' H' l c v r
    have r' : Rep p g'.F v (.bl true) := r
    cases r'
    rfl
/-- the law's def is called where nothing runs -/
theorem law_go {P : Program} {w : World} {K : PySem.W.Frag} {mg mb : Str → Option Value} {k : Nat} {fa a : Addr} {fd : FuncData} {x : Str} {m : S → R W} {s₁ : Shared} {vs : List Value} {ns : List Int}
    (KX : K.In s₁.heap) (hns : s₁.heap.Ns mainGlobals mg) (hb : s₁.heap.Ns builtinsNs mb) (hbb : ∀ x : Str, x ≠ "__name__" → mb x = bootBuiltins x) (hlim : s₁.heap.NoLimit) (hg : s₁.gens = #[])
    (ha : s₁.heap.get? a = some { cls := .type "list", data := .seq vs.toArray }) (hi : IntsAre vs ns) (hl : ns.length ≤ sizeLine) (hr : Room k callerA)
    (F : ∀ base : Heap, K.In base → base.Ns mainGlobals mg → FnG P w K mg base (L2.CX P w) k fa fd [x] (spM ⟨K, w, mg⟩ 1 m)) (hbind : ∀ (s : Shared) (u : Value), BindsTo s fd ⟨[u], []⟩ [(x, u)])
    (hm : ∃ s', m ⟨[some (.d (.lro (ns.map D.int)))], []⟩ = .ok (.d (.bl true)) s') :
    codeAny (model P w) callerA (.call (.ref fa) ⟨[.ref a], []⟩) (fun r s' => r = .ok (.ret (.bool true)) ∧ OldK s₁.heap s'.heap ∧ s'.os = s₁.os ∧ AllBare s'.gens) s₁ := by
  have rv : Vals (ns.map V.int) vs := vals_of_ints hi
  have lenV : vs.length = ns.length := hi.length
  -- seen from a heap that tracks the script at most
  have from_ : ∀ H : Hp, Only H → SqL K H a (ns.map V.int) → HOk P w H s₁.heap → (∀ b, H b ≠ none → b = a ∧ K.lookup a = none) →
      codeAny (model P w) callerA (.call (.ref fa) ⟨[.ref a], []⟩) (fun r s' => r = .ok (.ret (.bool true)) ∧ OldK s₁.heap s'.heap ∧ s'.os = s₁.os ∧ AllBare s'.gens) s₁ := by
    intro H hO hS hok hA
    have free : ∀ {b : Addr} {o : Obj}, s₁.heap.get? b = some o → (∀ xs n, o.data ≠ .seq xs n) → H b = none := fun {b o} e d => by
      cases q : H b with
      | none => rfl
      | some u =>
        obtain ⟨rfl, _⟩ := hA b (by rw [q]; simp)
        rw [ha] at e
        cases e
        exact absurd rfl (d _ _)
    have nsB : ∀ {b : Addr} {f : Str → Option Value}, s₁.heap.Ns b f → (hidT s₁.heap H).Ns b f := fun {b f} h => by
      obtain ⟨o, es, ep, e, d, r⟩ := h
      exact ⟨o, es, ep, hidT_get e (free e fun xs n z => by rw [d] at z; cases z), d, r⟩
    have kB : K.In (hidT s₁.heap H) := fun b o e => by
      refine hidT_get (KX b o e) ?_
      cases q : H b with
      | none => rfl
      | some u =>
        obtain ⟨rfl, hk⟩ := hA b (by rw [q]; simp)
        rw [hk] at e; cases e
    have limB : (hidT s₁.heap H).NoLimit := by
      obtain ⟨f, h1, h2⟩ := hlim
      exact ⟨f, nsB h1, h2⟩
    have e0 : Env0 P w K mg (hidT s₁.heap H) callerA [] s₁ H :=
      { frames := rfl, mod := ⟨kB, nsB hns, ⟨mb, nsB hb, hbb⟩, limB⟩, bs := fun b o e => of_hidT e, bsz := Nat.le_of_eq (hidT_size _ _), funs := trivial, frf := fun b hb => (nomatch (show b ∈ ([] : List Addr) from hb)), hok := hok, bare := .of_eq hg }
    have call := (F _ kB (nsB hns)).go callerA [] s₁ H ⟨[.ref a], []⟩ [.ref a] [.ref a] (fun v _ => v = .bl true) (fun _ _ _ => False) rfl hr e0 (hbind s₁ (.ref a)) (.cons rfl .nil) (sp_law hO hS hm)
    refine codeAny_mono call ?_
    rintro (e | fl) s' h
    · obtain ⟨_, _, _, _, _, _, _, _, _, _, _, _, z⟩ := h
      exact z.elim
    · cases fl with
      | next => cases h
      | brk => cases h
      | cont => cases h
      | ret u =>
        obtain ⟨v, H', hos, bare, un, hok', ru, rfl⟩ := h
        cases ru
        refine ⟨rfl, OldK.of_keep fun b o e => ?_, hos, bare⟩
        rcases hO b with z | ⟨ob, xs, z⟩
        · exact un.keep b o e z (fun y => (nomatch (show b ∈ ([] : List Addr) from y))) (by simp)
        · obtain ⟨e1, _⟩ := hok b _ z
          obtain ⟨e2, _⟩ := hok' b _ (un.frzs b ob _ z)
          rw [e] at e1
          cases e1
          exact e2
  by_cases hk : ∃ o, K.lookup a = some o
  · obtain ⟨o, hk⟩ := hk
    have e := KX a o hk
    rw [ha] at e
    cases e
    exact from_ (fun _ => none) (fun _ => .inl rfl) (.inr ⟨_, vs.toArray, _, hk, rfl, rfl, rfl, by rw [List.size_toArray, lenV]; exact hl, by simpa using rv⟩) (fun b u z => (nomatch (show (none : Option HO) = some u from z))) fun b z => absurd rfl z
  · have hk : K.lookup a = none := by
      cases q : K.lookup a with
      | none => rfl
      | some o => exact absurd ⟨o, q⟩ hk
    let u : HO := .frz { cls := .type "list", data := .seq vs.toArray } (.lst (ns.map V.int))
    have only : ∀ {b x}, one a u b = some x → b = a ∧ x = u := fun h => one_some h
    refine from_ (one a u) (fun b => ?_) (.inl (.inr ⟨_, one_at⟩)) (fun b x z => ?_) fun b z => ?_
    · cases q : one a u b with
      | none => exact .inl rfl
      | some x => exact .inr ⟨_, _, by rw [(only q).2]⟩
    · obtain ⟨rfl, rfl⟩ := only z
      exact ⟨ha, by rw [List.length_map]; exact hl, vs, _, rv, ha⟩
    · obtain ⟨x, q⟩ := Option.ne_none_iff_exists'.mp z
      exact ⟨(only q).1, hk⟩
/-- what k_head leaves (case hc), from the law's def -/
theorem walk_go {l : PySem.W.OpenLaw} {n k : Nat} {q : Program} {loose : List Str} {XP : (Str → Option Value) → Heap → Prop} {YP : World → Heap → Prop} {d : DefRec} {K : Params → PySem.W.Frag} {x : Str} {m : World → (Str → Option Value) → S → R W}
    (hn : l.most = some n) (hn2 : n ≤ sizeLine) (hdf : d.params.defaults = []) (hr : Room k callerA) (hY : ∀ (w : World) (h : Heap), YP w h → (K w.params).In h)
    (F : ∀ (w : World) (mg : Str → Option Value) (fa : Addr) (h : Heap), (K w.params).In h → h.Ns mainGlobals mg → mg d.name = some (.ref fa) →
      ∃ fd : FuncData, (∀ (s : Shared) (u : Value), BindsTo s fd ⟨[u], []⟩ [(x, u)]) ∧
        (∀ base : Heap, (K w.params).In base → base.Ns mainGlobals mg → FnG l.prog w (K w.params) mg base (L2.CX l.prog w) k fa fd [x] (spM ⟨K w.params, w, mg⟩ 1 (m w mg))) ∧
        ∀ ns : List Int, ns.length ≤ n → ∃ s', m w mg ⟨[some (.d (.lro (ns.map D.int)))], []⟩ = .ok (.d (.bl true)) s') :
    PySem.W.WalkO q loose XP YP l.row.toRowW d [] (fun f vs => PySem.call f vs) := by
  refine Att.attach_call hn hdf fun w s₀ s₁ mg mb fa o pm cd doc a vs ns G Y ho hd hcd hmg hobj hints hlen hg => ?_
  have KX := hY w _ Y
  obtain ⟨fd, hb, hF, hm⟩ := F w mg fa _ KX G.T.g hmg
  exact law_go KX G.T.g G.T.b G.T.builtins G.T.nolimit hg hobj hints (Nat.le_trans hlen hn2) hr hF hb (hm ns hlen)
end VL
/-! VL: in over a flat tuple, three at once, small dicts. -/
namespace VL
open PySem PySem.Spec PyProof.Rows L2

/-! ### x in (a, b, ..), flat -/
def fEq : D → D → Option Bool
  | .non, .non => some true
  | .bl a, .bl b => some (a == b)
  | .bl a, .int b => some ((if a then 1 else 0) == b)
  | .int a, .bl b => some (a == (if b then 1 else 0))
  | .int a, .int b => some (a == b)
  | .str a, .str b => some (a == b)
  | a, b => if (scal a).isSome && (scal b).isSome then some false else none
def fIn (x : D) : List D → Option Bool
  | [] => if (scal x).isSome then some false else none
  | y :: ys => match fEq y x, fIn x ys with
    | some b, some c => some (b || c)
    | _, _ => none
def dInT (a b : D) : Option Z := match b with
  | .tup ys => (fIn a ys).bind zb
  | .lst ys => (fIn a ys).bind zb
  | _ => none
def dNotInT (a b : D) : Option Z := match b with
  | .tup ys => (fIn a ys).bind fun k => zb (!k)
  | .lst ys => (fIn a ys).bind fun k => zb (!k)
  | _ => none
theorem flat_use {p : Pm} {F : Hp} {v : V} {d : D} (h : Rep p F v d) (e : (scal d).isSome = true) : flatV v = true := by
  cases h <;> first | rfl | cases e
theorem fEq_use {p : Pm} {F F' : Hp} {v w : V} {d e : D} {b : Bool} (h : Rep p F v d) (h2 : Rep p F' w e) (q : fEq d e = some b) : flatV v = true ∧ flatV w = true ∧ eqV v w = b := by
  cases h <;> cases h2 <;> first | (simp [fEq, scal] at q; done) | (simp [fEq, scal] at q; subst q; exact ⟨rfl, rfl, rfl⟩) | (simp [fEq, scal] at q; exact ⟨rfl, rfl, q⟩)
theorem fIn_use {p : Pm} {F F' : Hp} {v : V} {d : D} (h : Rep p F v d) : ∀ {vs : List V} {xs : List D} {b : Bool}, Reps p F' vs xs → fIn d xs = some b → flatV v = true ∧ vs.all flatV = true ∧ inV v vs = b
  | _, _, _, .nil, e => by
    simp only [fIn] at e
    split at e
    · rename_i q
      cases e
      exact ⟨flat_use h q, rfl, rfl⟩
    · cases e
  | _, _, _, .cons (x := x) (xs := xs) hy r, e => by
    simp only [fIn] at e
    split at e
    · rename_i b c e1 e2
      cases e
      obtain ⟨h1, h2, h3⟩ := fEq_use hy h e1
      obtain ⟨k1, k2, k3⟩ := fIn_use h r e2
      refine ⟨k1, by rw [List.all_cons, h1, k2]; rfl, ?_⟩
      unfold inV at k3 ⊢
      rw [List.any_cons, h3, k3]
    · cases e
section
variable {X : Cx}
theorem Top.flat {p : Pm} {F H : Hp} {v : V} {d : D} (t : Top p F H v d) (sm : Same F H) : Rep p H v d := t.rep sm
theorem inT_use {neg : Bool} {U : Hp} {g : Wd} {H : Hp} {σ : St} {s : S} {x y : V} {a : D} {ys : List D} {k : Bool} {Q : VK} (c : Cfg (pm X) U g H σ s) (ta : Top (pm X) g.F H x a) {b : D} (hb : b = .tup ys ∨ b = .lst ys) (tb : Top (pm X) g.F H y b)
    (e : fIn a ys = some k) (q : Q (.bl (if neg then !k else k)) H) : rIn X.K neg x y H Q := by
  have ra := ta.rep c.hF
  rcases hb with rfl | rfl
  · obtain ⟨m, vs, rfl, h, r⟩ := tb
    obtain ⟨h1, h2, h3⟩ := fIn_use ra r e
    exact ⟨m, vs, rfl, .inr (Same.seqT c.hF h), h1, h2, by rw [h3]; exact q⟩
  · obtain ⟨m, vs, rfl, h, r⟩ := tb
    obtain ⟨h1, h2, h3⟩ := fIn_use ra r e
    exact ⟨m, vs, rfl, .inl (SqL.of h), h1, h2, by rw [h3]; exact q⟩
theorem br_inT : BinR X (rIn X.K false) dInT := by
  intro U g H σ s x y a b d Q c ta tb e q
  unfold dInT at e
  split at e
  · rename_i ys
    cases h : fIn a ys with
    | none => rw [h] at e; cases e
    | some k => rw [h] at e; exact inT_use c ta (.inl rfl) tb h (wb c q e)
  · rename_i ys
    cases h : fIn a ys with
    | none => rw [h] at e; cases e
    | some k => rw [h] at e; exact inT_use c ta (.inr rfl) tb h (wb c q e)
  · cases e
theorem br_notInT : BinR X (rIn X.K true) dNotInT := by
  intro U g H σ s x y a b d Q c ta tb e q
  unfold dNotInT at e
  split at e
  · rename_i ys
    cases h : fIn a ys with
    | none => rw [h] at e; cases e
    | some k => rw [h] at e; exact inT_use c ta (.inl rfl) tb h (wb c q e)
  · rename_i ys
    cases h : fIn a ys with
    | none => rw [h] at e; cases e
    | some k => rw [h] at e; exact inT_use c ta (.inr rfl) tb h (wb c q e)
  · cases e
end

/-! ### x, y, z = a, b, c -/
def mPar3 (i j l : Nat) (fs : S → R (List W)) (s : S) : RS := (fs s).toS fun ws s1 => match ws with
  | [x, y, z] => .nx ⟨((s1.vs.set i (some x)).set j (some y)).set l (some z), s1.os⟩
  | _ => .no
section
variable {X : Cx} {Wx : WX} {e a b c : Expr} {es : List Expr} {f : S → R W} {fs : S → R (List W)} {pos : Pos} {rg : Bool}
theorem vs_par3 (i j l : Nat) {x y z : Str} {px py pz pt : Pos} {kt k2 pt2} (hc : X.calm = true) (hN : X.N.Nodup) (hi : X.N[i]? = some x) (hj : X.N[j]? = some y) (hl : X.N[l]? = some z) (hij : i ≠ j) (hil : i ≠ l) (hjl : j ≠ l)
    (hx : X.env.scope.names.lookup x = some .local) (hy : X.env.scope.names.lookup y = some .local) (hz : X.env.scope.names.lookup z = some .local) (ha : VA X Wx [a, b, c] fs)
    (hw : swappedStores [.Tuple [.Name x px, .Name y py, .Name z pz] kt pt] (.Tuple [a, b, c] k2 pt2) X.env = pure (some [x, y, z]))
    (hs : swapsWithSole [.Tuple [.Name x px, .Name y py, .Name z pz] kt pt] (.Tuple [a, b, c] k2 pt2) pos.line X.env = pure false := by rfl) :
    VS X Wx (.Assign [.Tuple [.Name x px, .Name y py, .Name z pz] kt pt] (.Tuple [a, b, c] k2 pt2) pos) (mPar3 i j l fs) :=
  ⟨PS.weak (ps_par3 hc hN hi hj hl hij hil hjl hx hy hz ha.pa hw hs) fun D σ H ⟨U, g, s, c, q⟩ => ⟨U, g, s, c, PostS.ofR q fun g1 s1 H1 ws l1 c1 q1 vs rs => by
    cases rs with
    | nil => exact q1.elim
    | cons r1 t =>
      cases t with
      | nil => exact q1.elim
      | cons r2 t =>
        cases t with
        | nil => exact q1.elim
        | cons r3 t =>
          cases t with
          | nil => exact ⟨_, _, _, rfl, q1 g1 H1 _ ⟨Same.refl _, fun _ _ => rfl, Nat.le_refl _⟩ (((c1.store r1).store r2).store r3)⟩
          | cons _ _ => exact q1.elim⟩⟩

/-! ### {}, {i: j} -/
def mPut (rg : Bool) (z : Z) (s : S) : R W := s.put rg z
theorem ve_dnew : VE X Wx (.Dict [] [] pos) (mPut rg (.n (.dct [] []))) :=
  ⟨PE.weak pe_dnewK fun σ H Q ⟨U, g, s, c, q⟩ => fun a n => want_put c q a _ n ⟨[], rfl, rfl, .nil⟩⟩
theorem ve_disp1 {i j : Int} {k1 k2} {p1 p2 : Pos} : VE X Wx (.Dict [some (.Constant (.int i) k1 p1)] [.Constant (.int j) k2 p2] pos) (mPut rg (.n (.dct [.inl i] [.int j]))) :=
  ⟨PE.weak (pe_disp (pps_cons pe_int pe_int pps_nil) rfl rfl (by simp) (by show 1 ≤ 15; decide)) fun σ H Q ⟨U, g, s, c, q⟩ => fun a n => by
    refine ⟨upd_same, [(.inl i, .int j)], rfl, by show 1 ≤ 15; decide, ?_⟩
    have q := want_put c q a (.dK [(.inl i, .int j)]) n ⟨[.int j], rfl, rfl, .cons (.int j) .nil⟩
    have e : upd (upd H a (.dK [])) a (.dK (mergeK [] [(Sum.inl i, V.int j)])) = upd H a (.dK [(.inl i, .int j)]) := by
      funext b
      by_cases h : b = a
      · subst h; rw [upd_same, upd_same]; rfl
      · rw [upd_ne h, upd_ne h, upd_ne h]
    rw [e]
    exact q⟩
end
end VL
/-! VL: an own exception whose __init__ says super().__init__(text) and stores its fields: the walk on the heap. -/
namespace VL
open PySem PySem.Spec PyProof.Rows L2

/-! ### C(.., k = ..): the class is called, keywords too -/
section
open PySem.HandSPX
variable {M : Model} {A : Around} {E : Value → Shared → Prop} {h : Heap} {g : Array GenState} {d : Drawn} {t : Nat} {os : OsState}
variable {nm q : Str} {C N : Addr} {bs bm bmB : List Value} {hdct : Bool} {sn : List Str} {sub : List Value} {ab : Bool} {col : Option Bool} {dd : Option Addr} {k0 k1 k2 k3 k5 : Option Value} {B newId initId : String}
theorem check_new_kw (F : ExcBaseFacts B newId initId bmB) (hT : ∀ X : String, bm.contains (.type X) = bmB.contains (.type X)) {rest : List Value} {kw : List (Str × Value)} {Q : Unit → Shared → Prop}
    (hC : h.get? C = some (excClassObj nm q C N bs bm hdct sn sub ab col dd k0 k1 k2 k3 k5 newId)) (hq : Q () ⟨h, g, d, t, os⟩) : wpAny M A (checkBuiltinCall newId ⟨.ref C :: rest, kw⟩) Q E ⟨h, g, d, t, os⟩ := by
  have hcont : (Value.ref C :: bm).contains (.type B) = true := by rw [List.contains_cons, hT, F.hasB, Bool.or_true]
  have hstar := F.noStar
  simp only [checkBuiltinCall, F.newKind, F.newSplit, F.newRow]
  repeat (first | refine wpAny_loadPart_at hC ?_ | (refine wpAny_isSubtype_exc hC ?_; rw [hcont]) | refine wpAny_staticBase_exc hC ?_ | refine wpAny_madeBy_exc hC ?_ | simp only [bne_self_eq_false, Bool.false_eq_true, if_false] | wp_step)
  exact hq
end
section
open PySem.HandSPX
variable {prog : Program} {w : World} {A : Around} {E : Value → Shared → Prop} {R : Result → Shared → Prop} {h : Heap} {g : Array GenState} {d : Drawn} {t : Nat} {os : OsState}
variable {nm q : Str} {C N : Addr} {bs bm bmB : List Value} {hdct : Bool} {sn : List Str} {sub : List Value} {ab : Bool} {col : Option Bool} {dd : Option Addr} {k0 k1 k2 k3 k5 : Option Value} {B newId initId : String}
theorem new_kw (F : ExcBaseFacts B newId initId bmB) (hT : ∀ X : String, bm.contains (.type X) = bmB.contains (.type X)) {rest : List Value} {kw : List (Str × Value)}
    (hC : h.get? C = some (excClassObj nm q C N bs bm hdct sn sub ab col dd k0 k1 k2 k3 k5 newId))
    (hq : R (.ok (.ret (.ref (h.objs.size + 1)))) ⟨(h.push { cls := .type "tuple", data := .seq rest.toArray }).push
      { cls := .ref C, data := .fields #[.ref h.objs.size, .none, .none, .none, .bool false, .none] }, g, d, t, os⟩) (hrest : rest.length ≤ sizeLine) :
    codeAny (model prog w) A (.builtin newId ⟨.ref C :: rest, kw⟩) R ⟨h, g, d, t, os⟩ := by
  have hends := F.ends
  have hcB : (Value.ref C :: bm).contains (.type B) = true := by rw [List.contains_cons, hT, F.hasB, Bool.or_true]
  have hcA : (Value.ref C :: bm).contains (.type "AttributeError") = false := by rw [List.contains_cons, hT, F.noAttr]; rfl
  have hcN : (Value.ref C :: bm).contains (.type "NameError") = false := by rw [List.contains_cons, hT, F.noName]; rfl
  refine codeAny_builtinAt F.entry ?_
  unfold Builtin.«BaseException.__new__»
  refine PySem.wpAt_bind ?_
  show PySem.wpAt _ _ _ (stack >>= _) _ _ _
  refine PySem.wpAt_bind (PySem.wpAt_stack fun p below => PySem.wpAt_of_wpAny ?_)
  wp_walk
  refine PySem.wpAt_of_wpAny ?_
  rw [F.owner]
  repeat (first | with_reducible refine wpAny_madeHere_exc F.canon hC ?_ | with_reducible refine wpAny_loadPart_at hC ?_ | (with_reducible refine wpAny_isSubtype_exc hC ?_; first | rw [hcB] | rw [hcA] | rw [hcN]) | wp_step)
  show R _ _
  rw [Heap.size_push]
  exact hq
theorem type_call_kw (F : ExcBaseFacts B newId initId bmB) (hT : ∀ X : String, bm.contains (.type X) = bmB.contains (.type X)) {rest : List Value} {kw : List (Str × Value)} {fI : Addr} {Q : Fin → Shared → Prop}
    (hC : h.get? C = some (excClassObj nm q C N bs bm hdct sn sub ab col dd k0 k1 k2 k3 k5 newId))
    (hi : W.Looks (model prog w) h (typeLookup (.ref C) "__init__") (some (.ref fI))) (hb : ∀ self, W.Looks (model prog w) h (bindSpecial (.ref fI) self) (.ref fI, [self])) (hrest : rest.length ≤ sizeLine)
    (hq : codeAny (model prog w) A (.call (.ref fI) ⟨.ref (h.objs.size + 1) :: rest, kw⟩)
      (fun r s' => match r with | .ok (.ret v) => v = .none ∧ Q (.done (.ret (.ref (h.objs.size + 1)))) s' | .ok _ => False | .error e => E e s')
      ⟨(h.push (W.kdv_tup rest)).push (excO C h.objs.size), g, d, t, os⟩) :
    wpAny (model prog w) A (Builtin.«type.__call__» ⟨.ref C :: rest, kw⟩) Q E ⟨h, g, d, t, os⟩ := by
  repeat (first | with_reducible refine wpAny_loadPart_at hC ?_ | with_reducible refine wpAny_madeBy_exc hC ?_ | wp_step)
  refine codeAny_call_builtin_code (Code.quiet_builtin _ F.quiet) (check_new_kw F hT hC ?_)
  refine new_kw F hT hC ?_ hrest
  show wpAny _ _ _ _ _ _
  have k : ∀ b o, h.get? b = some o → ((h.push (W.kdv_tup rest)).push (excO C h.objs.size)).get? b = some o := fun b o e => Heap.get?_push_of_some _ (Heap.get?_push_of_some _ e)
  have hC₁ := k _ _ hC
  have hget : ((h.push (W.kdv_tup rest)).push (excO C h.objs.size)).get? (h.objs.size + 1) = some (excO C h.objs.size) := by heap_get
  have hcC : (Value.ref C :: bm).contains (.ref C) = true := by simp
  have i1 := hi.keeps k
  have b1 := (hb (.ref (h.objs.size + 1))).keeps k
  unfold isInstance
  repeat (first | with_reducible refine wpAny_loadPart_at hget ?_ | (with_reducible refine wpAny_isSubtype_exc hC₁ ?_; rw [hcC]) | wp_step)
  show wpAny _ _ (typeLookup (.ref C) _) _ _ _
  refine i1.at ?_
  refine wpAny_holding (wpAny_bind (b1.at ?_))
  refine wpAny_bind (wpAny_call (codeAny_mono hq fun r s' z => ?_))
  rcases r with e | (v | _ | _ | _) <;> first | exact z | exact z.elim | skip
  obtain ⟨rfl, z⟩ := z
  first
    | exact wpAny_pure (wpAny_pure z)
    | (wp_walk; exact z)
theorem call_kw (F : ExcBaseFacts B newId initId bmB) (hT : ∀ X : String, bm.contains (.type X) = bmB.contains (.type X)) {rest : List Value} {kw : List (Str × Value)} {fI : Addr}
    (hC : h.get? C = some (excClassObj nm q C N bs bm hdct sn sub ab col dd k0 k1 k2 k3 k5 newId))
    (hi : W.Looks (model prog w) h (typeLookup (.ref C) "__init__") (some (.ref fI))) (hb : ∀ self, W.Looks (model prog w) h (bindSpecial (.ref fI) self) (.ref fI, [self])) (hrest : rest.length ≤ sizeLine)
    (hq : codeAny (model prog w) (A.under (.builtin "type.__call__" ⟨.ref C :: rest, kw⟩)) (.call (.ref fI) ⟨.ref (h.objs.size + 1) :: rest, kw⟩) (W.InitBack (h.objs.size + 1) R)
      ⟨(h.push (W.kdv_tup rest)).push (excO C h.objs.size), g, d, t, os⟩) :
    codeAny (model prog w) A (.call (.ref C) ⟨rest, kw⟩) R ⟨h, g, d, t, os⟩ := by
  have f1 := tc_lookup
  have f2 := tc_bind (.ref C)
  have hTy : (⟨h, g, d, t, os⟩ : Shared).TypeIs (.ref C) "type" := ⟨_, hC, rfl⟩
  refine codeAny_of_tree ?_
  show wpAny _ _ (callAny (.ref C) _) _ _ _
  repeat (any_goals (first | assumption | with_reducible refine wpAny_loadPart_at hC ?_ | wp_step))
  refine ⟨rfl, ?_⟩
  refine codeAny_call_builtin_at (Code.quiet_builtin _ (by decide +kernel)) entry_typeCall (wpAny_check_type_call_sub hC (type_call_kw F hT hC hi hb hrest ?_))
  refine codeAny_mono hq fun r s' z => ?_
  rcases r with e | (v | _ | _ | _) <;> exact z
end
end VL
namespace VL
open PySem PySem.Spec PyProof.Rows L2

/-! ### the __init__ with super().__init__(text): what the written part says of it -/
/-- self.f = x -/
def SetIs (st : Stmt) (f x : Str) : Prop := ∃ q0 q1 q2 q3, st = .Assign [.Attribute (.Name "self" q0) f q1] (.Name x q2) q3
inductive SetsAre : List Stmt → List (Str × Str) → Prop
  | nil : SetsAre [] []
  | cons {st : Stmt} {sts : List Stmt} {f x : Str} {fx : List (Str × Str)} : SetIs st f x → SetsAre sts fx → SetsAre (st :: sts) ((f, x) :: fx)
abbrev veB : List Value := [.type "ValueError", .type "Exception", .type "BaseException", .type "object"]
abbrev excD (C t dx : Addr) : Obj := { cls := .ref C, dict := some dx, data := .fields #[.ref t, .none, .none, .none, .bool false, .none] }
/-- the fields laid one behind the other -/
def putAll (m : Str → Option Value) : List (Str × Value) → Str → Option Value
  | [] => m
  | p :: r => putAll (fun y => if y = p.1 then some p.2 else m y) r
section
variable {prog : Program} {w : World} {A : Around} {E : Value → Shared → Prop}
theorem ldL {M : Model} {s : Shared} {env : Env} {m : Str → Option Value} {x : Str} {pos : Pos} {v : Value} {Q : Value → Shared → Prop} (hn : s.heap.Ns env.locals m) (hv : m x = some v) (h : Q v s)
    (hk : env.scope.kind = .function) (hl : env.kindOf x = some .local) (hd : (x == ("__debug__" : Str)) = false) : wpAny M A (eval (.Name x pos) env) Q E s := wpAny_Name (wpAny_loadName_local hk hl hn hv h) hd
theorem sets_old {K : PySem.W.Frag} {C e L dx t : Addr} {env : Env} {m : Str → Option Value} {cd : ClassData} {g : Array GenState} {d : Drawn} {os : OsState}
    (hcd : PySem.W.clsIn K C = some cd) (hm : PySem.HandSPX.refsVE cd.mro = true) (hh : cd.hasDict = true) (sa : PySem.W.findIn K (.ref C) "__setattr__" = some (some (.builtin "object.__setattr__")))
    (hL : env.locals = L) (hk : env.scope.kind = .function) (hself : m "self" = some (.ref e)) (kself : env.kindOf "self" = some .local) (hne : e ≠ dx) (hLd : L ≠ dx) :
    ∀ (fx : List (Str × Str)) (sts : List Stmt) (us : List Value) (hp : Heap) (tk : Nat) (m0 : Str → Option Value) (nl : List Str) (Q : Flow → Shared → Prop), SetsAre sts fx → fx.length = us.length →
      (∀ p ∈ (fx.zip us), m p.1.2 = some p.2) → (∀ p ∈ fx, env.kindOf p.2 = some .local ∧ (p.2 == ("__debug__" : Str)) = false ∧ PySem.W.findIn K (.ref C) p.1 = some none) → K.In hp → (∀ b o, K.lookup b = some o → b ≠ dx) →
      hp.Ns L m → hp.get? e = some (excD C t dx) → hp.Ns1 dx m0 → Within m0 nl → nl.length + fx.length ≤ 900 →
      (∀ h' tk', (∀ b o, b ≠ dx → hp.get? b = some o → h'.get? b = some o) → h'.Ns1 dx (putAll m0 ((fx.map (·.1)).zip us)) → Q .next ⟨h', g, d, tk', os⟩) →
      wpAny (model prog w) A (execs sts env) Q E ⟨hp, g, d, tk, os⟩
  | [], _, us, hp, tk, m0, nl, Q, .nil, hl, _, _, _, _, _, _, hns, _, _, q => wpAny_execs_nil (q hp tk (fun _ _ _ x => x) (by
      cases us with
      | nil => exact hns
      | cons _ _ => cases hl))
  | (f, x) :: fx, _, [], _, _, _, _, _, _, hl, _, _, _, _, _, _, _, _, _, _ => by cases hl
  | (f, x) :: fx, _, u :: us, hp, tk, m0, nl, Q, .cons ⟨q0, q1, q2, q3, est⟩ hs, hl, hv, hx, X, kd, hN, he, hns, hw, hz, q => by
    subst est
    obtain ⟨kx, dx', nx⟩ := hx (f, x) (List.mem_cons_self ..)
    refine wpAny_execs_cons (plainObj_wpAny_Assign_Attribute (ldL (m := m) (by rw [hL]; exact hN) (hv ((f, x), u) (by simp)) ?_ hk kx dx') (by rfl))
    refine ldL (m := m) (by rw [hL]; exact hN) hself ?_ hk kself (by decide)
    obtain ⟨oD, _, _, hoD, _, _⟩ := hns.count hw
    refine PySem.W.set_plain X (ox := excD C t dx) (od := some oD) ⟨he, rfl, rfl, hoD⟩ sa ?_
    refine PySem.OEX.osa_old X he hns hw (by rw [List.length_cons] at hz; omega) hcd hm hh nx (fun h' tk' k hn => ?_)
    have X' : K.In h' := fun b o eb => k b o (kd b o eb) (X b o eb)
    obtain ⟨oL, es, ep, gL, r⟩ := hN
    exact sets_old hcd hm hh sa hL hk hself kself hne hLd fx _ us h' tk' _ (f :: nl) Q hs (by simpa using hl) (fun p hp => hv p (by
        rw [List.zip_cons_cons]; exact List.mem_cons_of_mem _ hp)) (fun p hp => hx p (List.mem_cons_of_mem _ hp)) X' kd ⟨oL, es, ep, k _ _ hLd gL, r⟩ (k _ _ hne he) hn (Within.cons f u hw) (by rw [List.length_cons] at hz ⊢; omega)
      fun h2 tk2 k2 hn2 => q h2 tk2 (fun b o hb eb => k2 b o hb (k b o hb eb)) (by rw [List.map_cons, List.zip_cons_cons]; exact hn2)
/-- the first field, then the others -/
theorem sets_new {K : PySem.W.Frag} {C e L t : Addr} {env : Env} {m : Str → Option Value} {cd : ClassData} {g : Array GenState} {d : Drawn} {os : OsState}
    (hcd : PySem.W.clsIn K C = some cd) (hm : PySem.HandSPX.refsVE cd.mro = true) (hh : cd.hasDict = true) (sa : PySem.W.findIn K (.ref C) "__setattr__" = some (some (.builtin "object.__setattr__")))
    (hL : env.locals = L) (hk : env.scope.kind = .function) (hself : m "self" = some (.ref e)) (kself : env.kindOf "self" = some .local) {fx : List (Str × Str)} {sts : List Stmt} {us : List Value} {hp : Heap} {tk : Nat} {Q : Flow → Shared → Prop}
    (hs : SetsAre sts fx) (h0 : fx ≠ []) (hl : fx.length = us.length)
    (hv : ∀ p ∈ (fx.zip us), m p.1.2 = some p.2) (hx : ∀ p ∈ fx, env.kindOf p.2 = some .local ∧ (p.2 == ("__debug__" : Str)) = false ∧ PySem.W.findIn K (.ref C) p.1 = some none) (X : K.In hp) (ke : ∀ b o, K.lookup b = some o → b ≠ e)
    (hN : hp.Ns L m) (hLe : L ≠ e) (he : hp.get? e = some (PySem.HandSPX.excO C t)) (hz : fx.length ≤ 900)
    (q : ∀ h' tk' dx, (∀ b o, b ≠ e → hp.get? b = some o → h'.get? b = some o) → hp.objs.size ≤ dx → h'.get? e = some (excD C t dx) → h'.Ns1 dx (putAll (fun _ => none) ((fx.map (·.1)).zip us)) → Q .next ⟨h', g, d, tk', os⟩) :
    wpAny (model prog w) A (execs sts env) Q E ⟨hp, g, d, tk, os⟩ := by
  cases hs with
  | nil => exact absurd rfl h0
  | @cons st sts f x fx hst hs =>
    obtain ⟨q0, q1, q2, q3, est⟩ := hst
    subst est
    cases us with
    | nil => cases hl
    | cons u us =>
      obtain ⟨kx, dx', nx⟩ := hx (f, x) (List.mem_cons_self ..)
      refine wpAny_execs_cons (plainObj_wpAny_Assign_Attribute (ldL (m := m) (by rw [hL]; exact hN) (hv ((f, x), u) (by simp)) ?_ hk kx dx') (by rfl))
      refine ldL (m := m) (by rw [hL]; exact hN) hself ?_ hk kself (by decide)
      refine PySem.W.set_plain X (ox := PySem.HandSPX.excO C t) (od := none) ⟨he, rfl, rfl, trivial⟩ sa ?_
      refine PySem.HandSPX.exc_osa X he hcd hm hh nx (fun h' tk' dx k dn dne hx' hn => ?_)
      have nd : ∀ {b : Addr} {o : Obj}, hp.get? b = some o → b ≠ dx := fun {b o} z => Nat.ne_of_lt (Nat.lt_of_lt_of_le (Heap.lt_size z) dn)
      have X' : K.In h' := fun b o eb => k b o (ke b o eb) (X b o eb)
      obtain ⟨oL, es, ep, gL, r⟩ := hN
      refine sets_old hcd hm hh sa hL hk hself kself (Ne.symm dne) (nd gL) fx _ us h' tk' _ [f] Q hs (by simpa using hl) (fun p hp => hv p (by
          rw [List.zip_cons_cons]; exact List.mem_cons_of_mem _ hp)) (fun p hp => hx p (List.mem_cons_of_mem _ hp)) X' (fun b o eb => nd (X b o eb)) ⟨oL, es, ep, k _ _ hLe gL, r⟩ hx' hn (Within.cons f u Within.nil) (by rw [List.length_cons] at hz; rw [List.length_singleton]; omega) ?_
      intro h2 tk2 k2 hn2
      exact q h2 tk2 dx (fun b o hb eb => k2 b o (nd eb) (k b o hb eb)) dn (k2 _ _ (Ne.symm dne) hx') (by rw [List.map_cons, List.zip_cons_cons]; exact hn2)
end
end VL
namespace VL
open PySem PySem.Spec PyProof.Rows L2
/-- what the written part says of a class whose __init__ (that of the class at D) says super().__init__(text) -/
structure SupC (P : Program) (K : PySem.W.Frag) (C D fI cc cda : Addr) (qual : Str) (st : Stmt) (fd : FuncData) : Prop where
  sa : PySem.W.findIn K (.ref C) "__setattr__" = some (some (.builtin "object.__setattr__"))
  exc : ∃ nm q N bs bm sn sub ab col dd k0 k1 k2 k3 k5, K.lookup C = some (excClassObj nm q C N bs bm true sn sub ab col dd k0 k1 k2 k3 k5 "ValueError.__new__") ∧ PySem.HandSPX.refsVE bm = true
  fn : ∃ oc od kV doc pm an ct osl, fd = PySem.W.ksFn "__init__" qual (defArgs st) (defBody st) (defScope st) .none kV doc pm an (.ref cda) ct cc ∧ K.lookup fI = some ⟨oc, od, .func fd, osl⟩
  code : PySem.W.codeIn K (.ref cda) qual = true
  file : ∃ ccl cdd vs ccs file tf, K.lookup cda = some ⟨ccl, cdd, .fields vs, ccs⟩ ∧ vs[2]? = some (.str file tf) ∧ ((P.main.file : Str) == file) = true
  cell : ∃ cl cld csl, K.lookup cc = some ⟨cl, cld, .cell (some (.ref D)), csl⟩
  clsD : ∃ cdD, PySem.W.clsIn K D = some cdD
  sub : PySem.W.mroIn K C (.ref D) = some true
  noSuper : PySem.W.nsIn K mainGlobals "super" = some none
  opaq : PySem.W.nsIn K cStatics "thirdparty.any" = some none
  init : PySem.W.ks_superIn K C D "__init__" = some (some (.builtin "ValueError.__init__"))
  isVE : PySem.W.subIn K (.ref C) (.type "ValueError") = some true
  exI : PySem.W.excInitIn K C veB "ValueError.__new__" = true
  top : (P.main.scope.names.lookup ("super" : Str)).isSome = false
  kI : PySem.W.findIn K (.ref C) "__init__" = some (some (.ref fI))
  tI : PySem.W.typeIn K (.ref fI) = some (.type "function")
  kC : PySem.W.keepIn K (.ref C) = true
section
variable {prog : Program} {w : World} {A : Around} {E : Value → Shared → Prop}
theorem node {K : PySem.W.Frag} {mg : Str → Option Value} {base : Heap} {L f cc cda x C D : Addr} {m : Str → Option Value} {news : List (Addr × Obj)} {s : Shared} {ox : Obj} {odx : Option Obj} {body : List Stmt} {q : Str} {scope : Scope} {p0 p1 : Pos} {attr : Str} {whole : Sem Value} {fd : FuncData} {ar : Arg} {vs : Array Value} {file : Str} {tf : Tok} {oc ccl cl : Value} {od cdd cld : Option Addr} {osl ccs csl : Array (Option Value)} {cdD : ClassData} {Q : Value → Shared → Prop}
    (M : L2.Mod K mg base) (F : Fr base L s.heap m) (N : News base L s.heap news)
    (hf : K.lookup f = some ⟨oc, od, .func fd, osl⟩) (hp : (fd.params.posonlyargs ++ fd.params.args).head? = some ar) (hv : m ar.arg = some (.ref x)) (I : PySem.W.InstAt s.heap x ox C odx)
    (hcode : K.lookup cda = some ⟨ccl, cdd, .fields vs, ccs⟩) (hvs : vs[2]? = some (.str file tf)) (hfile : ((prog.main.file : Str) == file) = true)
    (hcell : K.lookup cc = some ⟨cl, cld, .cell (some (.ref D)), csl⟩) (hD : PySem.W.clsIn K D = some cdD) (hsub : PySem.W.mroIn K C (.ref D) = some true) (hsuper : PySem.W.nsIn K mainGlobals "super" = some none)
    (hat : (attr == ("__class__" : Str)) = false) (hks : scope.names.lookup ("super" : Str) = some .globalImplicit) (hkc : scope.names.lookup ("__class__" : Str) = some .free) (hka : scope.names.lookup ar.arg = some .local) (hk : scope.kind = .function)
    (htop : (prog.main.scope.names.lookup ("super" : Str)).isSome = false) (hboot : bootBuiltins "super" = some (.type "super"))
    (h : ∀ so h', Fr base L h' m → News base L h' ((so, PySem.W.ks_superObj D x C) :: news) → (∀ p ∈ news, p.1 < so) → Q (.ref so) { s with heap := h' }) :
    PySem.wpAt (model prog w) A (.func body (PySem.W.ksEnv q scope L f (.ref cda) cc)) (attributeBase (.Call (.Name "super" p0) [] [] p1) attr (PySem.W.ksEnv q scope L f (.ref cda) cc) whole) Q E s := by
  have X₀ : K.In base := M.kin
  have X : K.In s.heap := X₀.keeps F.keep
  obtain ⟨mb, hb, hbb⟩ := M.blt
  obtain ⟨hh, g, d, t, os⟩ := s
  obtain ⟨oD, hD1, hD2⟩ : ∃ oD, hh.get? D = some oD ∧ oD.data = .cls cdD := by
    unfold PySem.W.clsIn at hD
    split at hD
    · rename_i c d cd' sl ho
      cases hD
      exact ⟨_, X _ _ ho, rfl⟩
    · cases hD
  refine ks_wpAt_super_base (env := PySem.W.ksEnv q scope L f (.ref cda) cc) hks hkc hat rfl (X _ _ hf) rfl hp rfl (X _ _ hcode) rfl hvs hfile htop ?_
  refine PySem.W.ks_loadName_global hk hks (Calls.loadGlobal_builtin (env := PySem.W.ksEnv q scope L f (.ref cda) cc) (M.glob.keeps F.keep) (PySem.W.mg_none_of X₀ M.glob hsuper) (hb.keeps F.keep) ((hbb _ (by decide +kernel)).trans hboot) ⟨rfl, ?_⟩)
  refine wpAny_loadName_free hk hkc rfl ⟨_, X _ _ hcell, rfl⟩ ?_
  refine wpAny_loadName_local hk hka F.ns hv ?_
  refine ks_wpAny_isType_cls hD1 hD2 ⟨rfl, ?_⟩
  refine ks_wpAny_call_super hD1 hD2 I.at_ I.cls (fun c e => ?_) (PySem.W.looks_mroIn X hsub) (fun h' e k => ?_)
  · have := I.no
    unfold PySem.W.notCls at this
    rw [e] at this
    exact Bool.noConfusion this
  · obtain ⟨F', N', l'⟩ := PySem.W.ks_newsPush (s := ⟨hh, g, d, t, os⟩) F N rfl e k
    exact h _ _ F' N' l'
/-- the __init__ runs -/
theorem init_run {K : PySem.W.Frag} {mg : Str → Option Value} {base : Heap} {C D fI cc cda e t0 : Addr} {qual : Str} {st : Stmt} {fd : FuncData} {hp : Heap} {g : Array GenState} {d : Drawn} {tk : Nat} {os : OsState} {R : Result → Shared → Prop} {args : Args}
    {xs : List Str} {us : List Value} {fx : List (Str × Str)} {ws : List Value} {txt : Str} {p0 p1 p2 p3 p4 p5 : Pos} {j : Nat} {rest : List Stmt}
    (M : L2.Mod K mg base) (S : SupC prog K C D fI cc cda qual st fd) (hbs : ∀ b o, base.get? b = some o → hp.get? b = some o) (hsz : base.objs.size ≤ hp.objs.size) (he : hp.get? e = some (PySem.HandSPX.excO C t0)) (hb0 : base.get? e = none) (hroom : A.depth < recursionLimit)
    (hbody : defBody st = .Expr (.Call (.Attribute (.Call (.Name "super" p0) [] [] p1) "__init__" p2) [.Constant (.str txt) j p3] [] p4) p5 :: rest) (hrest : SetsAre rest fx)
    (hbind : BindsTo ⟨hp, g, d, tk, os⟩ fd args ((("self" : Str), Value.ref e) :: xs.zip us)) (hloc : ∀ y ∈ (("self" : Str), Value.ref e) :: xs.zip us, (defScope st).names.lookup y.1 = some .local)
    (hsc : (defScope st).names.lookup ("super" : Str) = some .globalImplicit ∧ (defScope st).names.lookup ("__class__" : Str) = some .free ∧ (∀ x ∈ (defScope st).names, x.2 ≠ .cell) ∧ (defScope st).isCoroutine = false ∧ (defScope st).isGenerator = false ∧ (defScope st).kind = .function)
    (hcall : ∀ env : Env, ∃ pl : Sem Bool, eval (.Call (.Attribute (.Call (.Name "super" p0) [] [] p1) "__init__" p2) [.Constant (.str txt) j p3] [] p4) env = (do
      let ov ← attributeBase (.Call (.Name "super" p0) [] [] p1) "__init__" env (eval (.Call (.Name "super" p0) [] [] p1) env)
      standAt p2.atName
      let (f, first) ← holding [ov] (getMethod ov "__init__" pl)
      callWith p4 f first (backTo p4 (starEach [.Constant (.str txt) j p3] env)) []))
    (hswp : ∀ env : Env, swapsWith (.Call (.Attribute (.Call (.Name "super" p0) [] [] p1) "__init__" p2) [.Constant (.str txt) j p3] [] p4) none p5.line env = pure false) (hpar : ∃ ar, ((defArgs st).posonlyargs ++ (defArgs st).args).head? = some ar ∧ ar.arg = "self")
    (h0 : fx ≠ []) (hl : fx.length = ws.length) (hz : fx.length ≤ 900)
    (hv : ∀ p ∈ fx.zip ws, ((("self" : Str), Value.ref e) :: xs.zip us).reverse.lookup p.1.2 = some p.2) (hself : ((("self" : Str), Value.ref e) :: xs.zip us).reverse.lookup ("self" : Str) = some (.ref e))
    (hx : ∀ p ∈ fx, (defScope st).names.lookup p.2 = some .local ∧ (p.2 == ("__debug__" : Str)) = false ∧ PySem.W.findIn K (.ref C) p.1 = some none)
    (hq : ∀ h' tk' t1 dx, (∀ b o, base.get? b = some o → h'.get? b = some o) → hp.objs.size ≤ dx → h'.get? e = some (excD C t1 dx) → h'.Ns1 dx (putAll (fun _ => none) ((fx.map (·.1)).zip ws)) → R (.ok (.ret .none)) ⟨h', g, d, tk', os⟩) :
    codeAny (model prog w) A (.call (.ref fI) args) R ⟨hp, g, d, tk, os⟩ := by
  obtain ⟨oc, od, kV, doc, pm, an, ct, osl, rfl, hF⟩ := S.fn
  obtain ⟨nm, q, N, bs, bm, sn, sub, ab, col, dd, k0, k1, k2, k3, k5, hC, hbm⟩ := S.exc
  obtain ⟨hs1, hs2, hs3, hs4, hs5, hs6⟩ := hsc
  obtain ⟨ar, ha1, ha2⟩ := hpar
  obtain ⟨ccl, cdd, vs, ccs, file, tf, hcode, hvs, hfile⟩ := S.file
  obtain ⟨cl, cld, csl, hcell⟩ := S.cell
  obtain ⟨cdD, hD⟩ := S.clsD
  have X₀ : K.In base := M.kin
  have X : K.In hp := X₀.keeps hbs
  have hcl : PySem.W.clsIn K C = some { name := nm, bases := bs, mro := .ref C :: bm, ns := N, qualname := q, hasDict := true, slotNames := sn, subclasses := sub, abstract := ab, collection := col, hasDel := false } := by unfold PySem.W.clsIn; rw [hC] <;> rfl
  refine ks_codeAny_call_defAt (fd := PySem.W.ksFn "__init__" qual (defArgs st) (defBody st) (defScope st) .none kV doc pm an (.ref cda) ct cc) (body := defBody st) (binds := (("self" : Str), Value.ref e) :: xs.zip us) hroom (X _ _ hF) rfl (M.nolimit.keeps hbs) (PySem.W.codeRec_of X S.code) rfl hbind hs3 hloc (fun h₁ hns hk => ?_) hs4 hs5 hs6
  have eL : e ≠ hp.objs.size := Nat.ne_of_lt (Heap.lt_size he)
  have FR : Fr base hp.objs.size h₁ (fun x => ((("self" : Str), Value.ref e) :: xs.zip us).reverse.lookup x) := ⟨hns, fun b o q => hk b o (hbs b o q), hsz⟩
  have NW : News base hp.objs.size h₁ [(e, PySem.W.excObj C t0 none .none)] := fun p hp' => by
    rw [List.mem_singleton] at hp'
    subst hp'
    exact ⟨hk _ _ he, eL, hb0⟩
  have I1 : PySem.W.InstAt h₁ e (PySem.W.excObj C t0 none .none) C none := ⟨hk _ _ he, rfl, rfl, trivial⟩
  rw [hbody]
  have hself' := hloc (("self" : Str), Value.ref e) (List.mem_cons_self ..)
  obtain ⟨pl, hpl⟩ := hcall (callEnv (PySem.W.ksFn "__init__" qual (defArgs st) (defBody st) (defScope st) .none kV doc pm an (.ref cda) ct cc) hp.objs.size fI)
  rw [hbody] at hpl
  refine ks_wpAt_execs_cons (ks_wpAt_Expr_any (ks_wpAt_MethodCall (pl := pl) ?_ hpl) (by unfold interactive; show ((defScope st).kind == ScopeKind.module && _) = false; rw [hs6]; rfl) (hswp _))
  refine node (fd := PySem.W.ksFn "__init__" qual (defArgs st) (defBody st) (defScope st) .none kV doc pm an (.ref cda) ct cc) M FR NW hF ha1 (by rw [ha2]; exact hself) I1 hcode hvs hfile hcell hD S.sub S.noSuper (by decide) hs1 hs2 (by rw [ha2]; exact hloc (("self" : Str), Value.ref e) (List.mem_cons_self ..)) hs6 S.top (by decide +kernel) fun so h2 F2 N2 l2 => ?_
  have e2 := (N2 (e, PySem.W.excObj C t0 none .none) (by simp)).1
  have I2 : PySem.W.InstAt h2 e (PySem.W.excObj C t0 none .none) C none := ⟨e2, rfl, rfl, trivial⟩
  refine PySem.W.kxs_method PySem.W.kxs_ValueError F2 X₀ N2 (by simp) I2 S.opaq S.init S.isVE (by decide) fun qa h3 F3 N3 l3 => ?_
  refine PySem.W.kxs_callWith1 (i := "ValueError.__init__") (x := e) N3 (by simp) ?_
  refine spliced_more (Calls.Constant_str (spliced_none ?_))
  refine ⟨(N3 (qa, PySem.W.kxs_mw "ValueError.__init__" e) (by simp)).1, ?_⟩
  have l3e : qa ≠ e := Ne.symm (Nat.ne_of_lt (l3 (e, PySem.W.excObj C t0 none .none) (by simp)))
  have l2e : so ≠ e := Ne.symm (Nat.ne_of_lt (l2 (e, PySem.W.excObj C t0 none .none) (by simp)))
  refine PySem.W.kxs_call (t := t0) (dv := none) (c2 := .none) F3 X₀ N3 F.excBase_ValueError S.exI (by simp) (.tail l3e (.tail l2e (.head (by simp)))) (by simp [sizeLine_eq]) fun t' h4 F4 N4 l4 => ?_
  have e4 : h4.get? e = some (PySem.HandSPX.excO C t') := (N4 (e, PySem.W.excObj C t' none .none) (by simp)).1
  have e0 : ∀ b o, base.get? b = some o → b ≠ e := fun b o q z => by rw [z, hb0] at q; cases q
  have lt4 : hp.objs.size < h4.objs.size := by
    obtain ⟨oL, _, _, hL, _⟩ := F4.ns
    exact Heap.lt_size hL
  refine PySem.wpAt_of_wpAny (sets_new (env := callEnv (PySem.W.ksFn "__init__" qual (defArgs st) (defBody st) (defScope st) .none kV doc pm an (.ref cda) ct cc) hp.objs.size fI) (C := C) (e := e) (L := hp.objs.size) (t := t') (m := fun x => ((("self" : Str), Value.ref e) :: xs.zip us).reverse.lookup x) hcl (show PySem.HandSPX.refsVE (.ref C :: bm) = true from hbm) rfl S.sa rfl hs6 hself hself'
    hrest h0 hl hv hx (X₀.keeps F4.keep) (fun b o q => e0 b o (X₀ b o q)) F4.ns (Ne.symm eL) e4 hz fun h' tk' dx k hd he' hn => ?_)
  exact hq h' tk' t' dx (fun b o q => k b o (e0 b o q) (F4.keep b o q)) (Nat.le_trans (Nat.le_of_lt lt4) hd) he' hn
end
end VL
namespace VL
open PySem PySem.Spec PyProof.Rows L2
theorem lk_put {β : Type} {f g : Str} {y : β} {fs : List (Str × β)} : ((f, y) :: fs).lookup g = if g = f then some y else fs.lookup g := by
  by_cases h : g = f
  · subst h; simp [List.lookup]
  · have e : (g == f) = false := by simpa using h
    rw [if_neg h]; simp [List.lookup, e]
theorem lookup_nd {β : Type} : ∀ {l : List (Str × β)} {x : Str} {u : β}, (l.map (·.1)).Nodup → (x, u) ∈ l → l.lookup x = some u
  | [], _, _, _, h => by cases h
  | (y, v) :: l, x, u, nd, h => by
    rw [List.map_cons, List.nodup_cons] at nd
    rw [lk_put]
    rcases List.mem_cons.mp h with h | h
    · cases h; rw [if_pos rfl]
    · have ne : ¬ x = y := fun e => nd.1 (List.mem_map.mpr ⟨(x, u), h, e⟩)
      rw [if_neg ne]
      exact lookup_nd nd.2 h
theorem lookup_rev {β : Type} {l : List (Str × β)} {x : Str} {u : β} (nd : (l.map (·.1)).Nodup) (h : (x, u) ∈ l) : l.reverse.lookup x = some u :=
  lookup_nd (by rw [List.map_reverse]; exact (List.reverse_perm _).symm.nodup nd) (by simpa using h)
theorem putAll_at : ∀ {ns : List Str} {us : List Value} {m : Str → Option Value}, ns.Nodup → ∀ f, putAll m (ns.zip us) f = match (ns.zip us).lookup f with
    | some u => some u
    | none => m f
  | [], us, m, _, f => by simp [putAll]
  | n :: ns, [], m, _, f => by simp [putAll]
  | n :: ns, u :: us, m, nd, f => by
    rw [List.nodup_cons] at nd
    rw [List.zip_cons_cons, putAll, putAll_at nd.2, lk_put]
    by_cases h : f = n
    · subst h
      rw [if_pos rfl]
      have : (ns.zip us).lookup f = none := by
        rw [List.lookup_eq_none_iff]
        intro p hp
        have hm : p.1 ∈ ns := (List.of_mem_zip hp).1
        have : ¬ f = p.1 := fun e => nd.1 (by rw [e]; exact hm)
        simpa using this
      rw [this]
      simp
    · rw [if_neg h]
      cases (ns.zip us).lookup f with
      | none => simp [h]
      | some v => simp [h]
theorem relO_zip : ∀ {ns : List Str} {vs : List V} {us : List Value}, Vals vs us → ∀ f, RelO ((ns.zip vs).lookup f) ((ns.zip us).lookup f)
  | [], _, _, _, f => True.intro
  | n :: ns, _, _, .nil, f => True.intro
  | n :: ns, _, _, .cons h r, f => by
    rw [List.zip_cons_cons, List.zip_cons_cons, lk_put, lk_put]
    by_cases e : f = n
    · rw [if_pos e, if_pos e]; exact h
    · rw [if_neg e, if_neg e]; exact relO_zip r f
theorem relO_all {ns : List Str} {vs : List V} {us : List Value} (nd : ns.Nodup) (r : Vals vs us) (f : Str) : RelO ((ns.zip vs).lookup f) (putAll (fun _ => none) (ns.zip us) f) := by
  rw [putAll_at nd]
  have h := relO_zip (ns := ns) r f
  cases e : (ns.zip us).lookup f with
  | none => rw [e] at h; exact h
  | some u => rw [e] at h; exact h
theorem zip3 : ∀ {ns xs : List Str} {us : List Value} {p : (Str × Str) × Value}, p ∈ (ns.zip xs).zip us → (p.1.2, p.2) ∈ xs.zip us
  | [], _, _, _, h => by simp at h
  | _ :: _, [], _, _, h => by simp at h
  | _ :: _, _ :: _, [], _, h => by simp at h
  | n :: ns, x :: xs, u :: us, p, h => by
    rw [List.zip_cons_cons, List.zip_cons_cons] at h
    rw [List.zip_cons_cons]
    rcases List.mem_cons.mp h with h | h
    · subst h; exact List.mem_cons_self ..
    · exact List.mem_cons_of_mem _ (zip3 h)
/-- the text of such an __init__: its parameters xs are stored under ns -/
structure SupB (st : Stmt) (xs ns : List Str) : Prop where
  body : ∃ (txt : Str) (p0 p1 p2 p3 p4 p5 : Pos) (j : Nat) (rest : List Stmt), defBody st = .Expr (.Call (.Attribute (.Call (.Name "super" p0) [] [] p1) "__init__" p2) [.Constant (.str txt) j p3] [] p4) p5 :: rest ∧ SetsAre rest (ns.zip xs) ∧
    (∀ env : Env, ∃ pl : Sem Bool, eval (.Call (.Attribute (.Call (.Name "super" p0) [] [] p1) "__init__" p2) [.Constant (.str txt) j p3] [] p4) env = (do
      let ov ← attributeBase (.Call (.Name "super" p0) [] [] p1) "__init__" env (eval (.Call (.Name "super" p0) [] [] p1) env)
      standAt p2.atName
      let (f, first) ← holding [ov] (getMethod ov "__init__" pl)
      callWith p4 f first (backTo p4 (starEach [.Constant (.str txt) j p3] env)) [])) ∧
    (∀ env : Env, swapsWith (.Call (.Attribute (.Call (.Name "super" p0) [] [] p1) "__init__" p2) [.Constant (.str txt) j p3] [] p4) none p5.line env = pure false)
  sc : (defScope st).names.lookup ("super" : Str) = some .globalImplicit ∧ (defScope st).names.lookup ("__class__" : Str) = some .free ∧ (∀ x ∈ (defScope st).names, x.2 ≠ .cell) ∧ (defScope st).isCoroutine = false ∧ (defScope st).isGenerator = false ∧ (defScope st).kind = .function
  par : ∃ ar, ((defArgs st).posonlyargs ++ (defArgs st).args).head? = some ar ∧ ar.arg = "self"
  loc : ∀ x ∈ ("self" : Str) :: xs, (defScope st).names.lookup x = some .local ∧ (x == ("__debug__" : Str)) = false
  nd : (("self" : Str) :: xs).Nodup
  ndn : ns.Nodup
  len : ns.length = xs.length
  ne : ns ≠ []
  few : ns.length ≤ 900
/-- how its arguments bind -/
def SupA (fd : FuncData) (xs ks : List Str) (n : Nat) (perm : List Nat) : Prop :=
  ∀ (s : Shared) (self : Value) (us ws : List Value), us.length = n → ws.length = ks.length → BindsTo s fd ⟨self :: us, ks.zip ws⟩ ((("self" : Str), self) :: xs.zip (pick perm (us ++ ws)))
section
variable {X : Cx} {pins : List (Addr × Obj)} {σ : St} {H1 : Hp} {Q : VK} {C D fI cc cda : Addr} {qual : Str} {st : Stmt} {fd : FuncData} {xs ns ks : List Str} {perm : List Nat} {n k : Nat}
theorem mk_core {s1 : Shared} {us ws : List Value} {vs : List V} (T : SupC X.prog X.K C D fI cc cda qual st fd) (B : SupB st xs ns) (hA : SupA fd xs ks n perm) (hno : ∀ f ∈ ns, PySem.W.findIn X.K (.ref C) f = some none) (hr : Room (k + 1) X.A) (I1 : Inv X pins σ H1 s1)
    (hn : us.length = n) (hk : ws.length = ks.length) (hz : us.length ≤ sizeLine) (r : Vals vs (pick perm (us ++ ws))) (hlen : vs.length = ns.length)
    (hq : ∀ a dx, H1 a = none → H1 dx = none → a ≠ dx → Q (.ref a) (upd (upd H1 dx (exd dx (ns.zip vs))) a (exo a C (some dx)))) :
    wpAny (model X.prog X.w) X.A (call (.ref C) us (ks.zip ws)) (EP X pins σ Q) X.xe s1 := by
  obtain ⟨nm, q, N, bs, bm, sn, sub, ab, col, dd, k0, k1, k2, k3, k5, hC, hbm⟩ := T.exc
  obtain ⟨txt, p0, p1, p2, p3, p4, p5, j, rest, hbody, hrest, hcall, hswp⟩ := B.body
  obtain ⟨hp, g, dr, tk, os⟩ := s1
  have kk : ∀ b o, hp.get? b = some o → ((hp.push (PySem.W.kdv_tup us)).push (PySem.HandSPX.excO C hp.objs.size)).get? b = some o := fun b o e => Heap.get?_push_of_some _ (Heap.get?_push_of_some _ e)
  have hget : ((hp.push (PySem.W.kdv_tup us)).push (PySem.HandSPX.excO C hp.objs.size)).get? (hp.objs.size + 1) = some (PySem.HandSPX.excO C hp.objs.size) := by heap_get
  have hsz2 : ((hp.push (PySem.W.kdv_tup us)).push (PySem.HandSPX.excO C hp.objs.size)).objs.size = hp.objs.size + 2 := by rw [Heap.size_push, Heap.size_push]
  have nb : ∀ {b : Addr} {o : Obj}, hp.get? b = some o → b ≠ hp.objs.size + 1 := fun {b o} z => Nat.ne_of_lt (Nat.lt_succ_of_lt (Heap.lt_size z))
  have hne : H1 (hp.objs.size + 1) = none := I1.hok.fresh (Nat.le_succ _)
  -- what stands but for the new object
  let hp2 : Heap := (hp.push (PySem.W.kdv_tup us)).push (PySem.HandSPX.excO C hp.objs.size)
  let G : Heap := PySem.W.hideAll hp2 [hp.objs.size + 1]
  have g1 : ∀ b o, hp.get? b = some o → G.get? b = some o := fun b o z => PySem.W.hideAll_get _ (kk b o z) (by simp only [List.mem_singleton]; exact nb z)
  have g2 : ∀ b o, G.get? b = some o → hp2.get? b = some o := fun b o z => PySem.W.of_hideAll _ z
  have gb : ∀ b o, X.base.get? b = some o → G.get? b = some o := fun b o z => g1 b o (I1.bs b o z).1
  have M0 := I1.env0.mod
  have MG : L2.Mod X.K X.mg G := ⟨M0.kin.keeps gb, M0.glob.keeps gb, by
    obtain ⟨mb, h1, h2⟩ := M0.blt
    exact ⟨mb, h1.keeps gb, h2⟩, M0.nolimit.keeps gb⟩
  have lv : vs.length = (pick perm (us ++ ws)).length := r.length
  have hl : (ns.zip xs).length = (pick perm (us ++ ws)).length := by rw [List.length_zip, ← B.len, Nat.min_self, ← hlen, lv]
  have hlx : xs.length = (pick perm (us ++ ws)).length := by rw [← B.len, ← hlen, lv]
  have hkeys : ((((("self" : Str), Value.ref (hp.objs.size + 1)) :: xs.zip (pick perm (us ++ ws)))).map (·.1)).Nodup := by
    rw [List.map_cons, List.map_fst_zip (Nat.le_of_eq hlx)]
    exact B.nd
  have hmap : (ns.zip xs).map (·.1) = ns := List.map_fst_zip (Nat.le_of_eq B.len)
  refine wpAny_call (call_kw F.excBase_ValueError (fun Y => PySem.HandSPX.refsVE_contains Y bm hbm) (I1.kIn _ _ hC) (PySem.W.looks_findIn I1.kIn T.kI) (fun self => PySem.W.bind_fn I1.kIn self T.tI) hz ?_)
  refine init_run (base := G) (fx := ns.zip xs) (ws := pick perm (us ++ ws)) (xs := xs) (us := pick perm (us ++ ws)) MG T g2 (Nat.le_of_eq (PySem.W.hideAll_size _ _)) hget (PySem.W.hideAll_none _ (by simp)) ?_ hbody hrest (hA _ _ us ws hn hk)
    (fun y hy => ?_) B.sc hcall hswp B.par ?_ hl ?_ (fun p hp' => ?_) ?_ (fun p hp' => ?_) fun h' tk' t1 dx kG hdx he' hn' => ?_
  · have := (hr.make C us (ks.zip ws)).depth
    exact this
  · rcases List.mem_cons.mp hy with rfl | hy
    · exact (B.loc _ (List.mem_cons_self ..)).1
    · exact (B.loc _ (List.mem_cons_of_mem _ (List.of_mem_zip hy).1)).1
  · intro z
    have := congrArg (List.map (·.1)) z
    rw [hmap] at this
    exact B.ne this
  · rw [List.length_zip, ← B.len, Nat.min_self]; exact B.few
  · exact lookup_rev hkeys (List.mem_cons_of_mem _ (zip3 hp'))
  · exact lookup_rev hkeys (List.mem_cons_self ..)
  · have hx := B.loc _ (List.mem_cons_of_mem _ (List.of_mem_zip hp').2)
    exact ⟨hx.1, hx.2, hno _ (List.of_mem_zip hp').1⟩
  · refine ⟨rfl, ?_⟩
    have ge : ∀ b o, hp.get? b = some o → h'.get? b = some o := fun b o z => kG b o (g1 b o z)
    have hdx2 : hp.objs.size ≤ dx := Nat.le_trans (by rw [hsz2]; omega) hdx
    have hnd : H1 dx = none := I1.hok.fresh hdx2
    have ndx : hp.objs.size + 1 ≠ dx := fun z => by
      have : hp.objs.size + 2 ≤ dx := by rw [← hsz2]; exact hdx
      omega
    have nd : ∀ {b : Addr} {o : Obj}, hp.get? b = some o → b ≠ dx := fun {b o} z => Nat.ne_of_lt (Nat.lt_of_lt_of_le (Heap.lt_size z) hdx2)
    have Un1 : Un X.fs [] H1 (upd (upd H1 dx (exd dx (ns.zip vs))) (hp.objs.size + 1) (exo (hp.objs.size + 1) C (some dx))) hp h' := {
      keep := fun b o z n _ _ => ge b o z
      slot := fun b o z n _ _ => ⟨o.slots, ge b o z⟩
      free := fun b o z n _ => by rw [upd_ne (nb z), upd_ne (nd z)]; exact n
      there := fun b o z _ => ⟨o, ge b o z⟩
      tups := fun b ys z => by rw [upd_ne (ne_of_none z hne), upd_ne (ne_of_none z hnd)]; exact z
      frzs := fun b o v z => by rw [upd_ne (ne_of_none z hne), upd_ne (ne_of_none z hnd)]; exact z
      tbls := fun b ps z => ⟨#[], by rw [upd_ne (ne_of_none z hne), upd_ne (ne_of_none z hnd), z]; simp⟩ }
    refine ⟨.ref (hp.objs.size + 1), _, I1.un (t' := tk') Un1 fun b o z => ?_, rfl, hq _ dx hne hnd ndx⟩
    by_cases hb : b = hp.objs.size + 1
    · subst hb
      rw [upd_same] at z
      cases z
      exact exo_ok he'
    · rw [upd_ne hb] at z
      by_cases hd : b = dx
      · subst hd
        rw [upd_same] at z
        cases z
        rw [hmap] at hn'
        exact exd_ok hn' (relO_all B.ndn r)
      · rw [upd_ne hd] at z
        exact (I1.hok b o z).stay (fun c v hc z2 => ge c v z2) (fun c hc => by rw [upd_ne (ne_of_none hc hne), upd_ne (ne_of_none hc hnd)]; exact hc) (fun c ys hc => by rw [upd_ne (ne_of_none hc hne), upd_ne (ne_of_none hc hnd)]; exact hc)
end
end VL
namespace VL
open PySem PySem.Spec PyProof.Rows L2
/-! ### own exceptions as values: made, read, asked for their class -/
/-- C(e, .., k = ..), x the class's name: args in the parameters' order by perm, stored under ns -/
def mMkE (x : Str) (ns : List Str) (perm : List Nat) (fs fk : S → R (List W)) (s : S) : R W := (fs s).bind fun ws s1 => (fk s1).bind fun zs s2 => match dsOf (pick perm (ws ++ zs)) with
  | some ds => if ds.length = ns.length then .ok (.d (.exn x ns ds)) s2 else .no
  | none => .no
section
variable {X : Cx} {Wx : WX} {e : Expr} {es : List Expr} {kws : List Keyword} {fs fk : S → R (List W)} {pos p : Pos} {x : Str}
variable {C D fI cc cda : Addr} {qual : Str} {st : Stmt} {fd : FuncData} {xs ns ks : List Str} {perm : List Nat} {n k : Nat}
theorem mkE_use {U : Hp} {g : Wd} {H : Hp} {σ : St} {s : S} {vs : List V} {ws : List W} {Q : VK} (c : Cfg (pm X) U g H σ s) (hm : X.mg x = some (.ref C)) (rs : RWs (pm X) g s.os.length vs ws)
    (q : Post (pm X) U s g σ Wx (TV (pm X) Q) (match dsOf ws with
      | some ds => if ds.length = ns.length then .ok (.d (.exn x ns ds)) s else .no
      | none => .no)) : vs.length = ns.length ∧ ∀ a dx, H a = none → H dx = none → a ≠ dx → Q (.ref a) (upd (upd H dx (exd dx (ns.zip vs))) a (exo a C (some dx))) := by
  split at q
  · rename_i ds hd
    split at q
    · rename_i hl
      have r := dsOf_use rs hd
      refine ⟨r.length.trans hl, fun a dx na nd ne => ?_⟩
      obtain ⟨c1, l1⟩ := c.newF (o := exd dx (ns.zip vs)) nd
      have na2 : upd H dx (exd dx (ns.zip vs)) a = none := by rw [upd_ne ne]; exact na
      obtain ⟨c2, l2⟩ := c1.newF (o := exo a C (some dx)) na2
      refine q _ _ (l1.trans l2) c2 _ (.exn (dx := dx) hm upd_same ?_ (hl.symm.trans r.length.symm) (r.mono (l1.trans l2).F))
      show upd (upd g.F dx (exd dx (ns.zip vs))) a _ dx = _
      rw [upd_ne (Ne.symm ne), upd_same]
    · exact q.elim
  · exact q.elim
theorem ve_mkE (T : SupC X.prog X.K C D fI cc cda qual st fd) (B : SupB st xs ns) (hA : SupA fd xs [] n perm) (hno : ∀ f ∈ ns, PySem.W.findIn X.K (.ref C) f = some none) (hr : Room (k + 1) X.A) (hg : Gl X x) (hm : X.mg x = some (.ref C))
    (ha : VA X Wx (e :: es) fs) (hn : LenIs fs n) (hsm : n ≤ 1000) (hdb : (x == ("__debug__" : Str)) = false := by decide) (he : starEach (e :: es) X.env = (false, eval e X.env) :: starEach es X.env := by rfl) (hpl : (backTo pos (starEach es X.env)).any (·.1) = false := by rfl) :
    VE X Wx (.Call (.Name x p) (e :: es) [] pos) (mMkE x ns perm fs mNil) := by
  refine ⟨⟨fun pins s σ H Q I h => wpAny_Call_Name_kw (ld_glob I hg hm ?_ hdb)⟩⟩
  obtain ⟨U, g, st0, c, q⟩ := h
  have q1 : tL (pm X) Wx fs σ H (fun vs H1 => vs.length = n ∧ (pick perm (vs ++ [])).length = ns.length ∧ ∀ a dx, H1 a = none → H1 dx = none → a ≠ dx → Q (.ref a) (upd (upd H1 dx (exd dx (ns.zip (pick perm (vs ++ []))))) a (exo a C (some dx)))) := by
    refine ⟨U, g, st0, c, ?_⟩
    unfold mMkE at q
    cases e1 : fs st0 with
    | no => rw [e1] at q; exact q.elim
    | err C' ns' xs' s1 => rw [e1] at q; exact q
    | ok ws s1 =>
      rw [e1] at q
      intro g1 H1 l1 c1 vs rs
      have q2 := Post.le (show Post (pm X) U st0 g σ Wx (TV (pm X) Q) (match dsOf (pick perm (ws ++ [])) with
        | some ds => if ds.length = ns.length then .ok (.d (.exn x ns ds)) s1 else .no
        | none => .no) from q) l1
      have rall : RWs (pm X) g1 s1.os.length (pick perm (vs ++ [])) (pick perm (ws ++ [])) := Paired.pick (Paired.app rs .nil) perm
      exact ⟨(Paired.length rs).trans (hn _ _ _ e1), mkE_use c1 hm rall q2⟩
  refine PySem.W.callWith_K (h₀ := X.base) I.ok.mod.kin T.kC (thn (ha.pa.run pos pins s σ H _ I q1) fun us s1 ⟨vs, H1, I1, r, hlv, hl, hq⟩ => ⟨I1.kIn, ?_⟩) he hpl
  have hun : us.length = n := r.length.symm.trans hlv
  exact mk_core (ws := []) (ks := []) T B hA hno hr I1 hun rfl (by show us.length ≤ sizeLine; rw [hun, sizeLine_eq]; omega) (Paired.pick (Paired.app r .nil) perm) hl hq
theorem ve_mkEK0 (T : SupC X.prog X.K C D fI cc cda qual st fd) (B : SupB st xs ns) (hA : SupA fd xs ks 0 perm) (hno : ∀ f ∈ ns, PySem.W.findIn X.K (.ref C) f = some none) (hr : Room (k + 1) X.A) (hg : Gl X x) (hm : X.mg x = some (.ref C))
    (hkw : VKw X Wx kws fk) (hkn : LenIs fk ks.length) (hall : (backToKw pos (keywordEach kws X.env)).all (·.1.isSome) = true := by rfl) (hks : (backToKw pos (keywordEach kws X.env)).filterMap (·.1) = ks := by rfl)
    (hdb : (x == ("__debug__" : Str)) = false := by decide) (hpl : ((backTo pos (starEach [] X.env)).any (·.1) || (backToKw pos (keywordEach kws X.env)).any (·.1.isNone)) = false := by rfl) :
    VE X Wx (.Call (.Name x p) [] kws pos) (mMkE x ns perm mNil fk) := by
  refine ⟨⟨fun pins s σ H Q I h => wpAny_Call_Name_kw (ld_glob I hg hm ?_ hdb)⟩⟩
  obtain ⟨U, g, st0, c, q⟩ := h
  have q1 : tL (pm X) Wx fk σ H (fun zs H1 => zs.length = ks.length ∧ (pick perm ([] ++ zs)).length = ns.length ∧ ∀ a dx, H1 a = none → H1 dx = none → a ≠ dx → Q (.ref a) (upd (upd H1 dx (exd dx (ns.zip (pick perm ([] ++ zs))))) a (exo a C (some dx)))) := by
    refine ⟨U, g, st0, c, ?_⟩
    unfold mMkE at q
    have q : Post (pm X) U st0 g σ Wx (TV (pm X) Q) ((fk st0).bind fun zs s2 => match dsOf (pick perm ([] ++ zs)) with
      | some ds => if ds.length = ns.length then .ok (.d (.exn x ns ds)) s2 else .no
      | none => .no) := q
    cases e1 : fk st0 with
    | no => rw [e1] at q; exact q.elim
    | err C' ns' xs' s1 => rw [e1] at q; exact q
    | ok zs s1 =>
      rw [e1] at q
      intro g1 H1 l1 c1 vs rs
      have q2 := Post.le (show Post (pm X) U st0 g σ Wx (TV (pm X) Q) (match dsOf (pick perm ([] ++ zs)) with
        | some ds => if ds.length = ns.length then .ok (.d (.exn x ns ds)) s1 else .no
        | none => .no) from q) l1
      exact ⟨(Paired.length rs).trans (hkn _ _ _ e1), mkE_use c1 hm (Paired.pick (Paired.app .nil rs) perm) q2⟩
  refine PySem.W.callWith_KW0 (h₀ := X.base) I.ok.mod.kin T.kC hall ?_ hpl
  refine thn (hkw.pk.run pos pins s σ H _ I q1) fun ws s2 ⟨zs, H2, I2, rz, hlz, hl, hq⟩ => ⟨I2.kIn, ?_⟩
  rw [hks]
  exact mk_core (us := []) T B hA hno hr I2 rfl (rz.length.symm.trans hlz) (Nat.zero_le _) (Paired.pick (Paired.app .nil rz) perm) hl hq
end

/-! ### e.f -/
/-- what is read of the classes whose instances are read -/
structure ExcK (K : PySem.W.Frag) (C : Addr) : Prop where
  cl : (PySem.W.clsIn K C).isSome = true
  ga : PySem.W.findIn K (.ref C) "__getattribute__" = some (some (.builtin "BaseException.__getattribute__"))
  gg : ∃ gt, PySem.W.findIn K (.ref C) "__getattr__" = some gt
  exC : PySem.W.subIn K (.ref C) (.type "BaseException") = some true
  hd : PySem.W.hasDictIn K C = true
  ca : PySem.W.findIn K (.ref C) "__class__" = some (some (.builtin "object.__class__"))
  sp : PySem.W.specialIn K (.builtin "object.__class__") "__get__" = some (some (.builtin "getset_descriptor.__get__"))
  tk : PySem.W.takesIn K (.builtin "object.__class__") = some true
  ob : PySem.W.mroIn K C (.type "object") = some true
def mFldE (cs : List Str) (f : Str) (m : S → R W) (s : S) : R W := (m s).bind fun w s1 => match w with
  | .d (.exn x ns xs) => if cs.contains x then (match (ns.zip xs).lookup f with
    | some y => .ok (.d y) s1
    | none => .no) else .no
  | _ => .no
theorem inst_exo {P : Program} {w : World} {H : Hp} {h : Heap} {a C dx : Addr} {fs : List (Str × V)} (hok : HOk P w H h) (h1 : H a = some (exo a C (some dx))) (h2 : H dx = some (exd dx fs)) :
    ∃ (ox od : Obj) (mA : Str → Option Value), PySem.W.InstAt h a ox C (some od) ∧ h.get? dx = some od ∧ (∀ f, PySem.W.lookIn f od = some (mA f)) ∧ ∀ f, RelO (fs.lookup f) (mA f) := by
  obtain ⟨t1, ho⟩ := exo_at hok h1
  obtain ⟨mA, hns, hr⟩ := exd_at hok h2
  obtain ⟨od, hod, hl⟩ := lookIn_ns hns
  exact ⟨_, od, mA, ⟨ho, rfl, rfl, hod⟩, hod, hl, hr⟩
theorem zip_at {p : Pm} {F : Hp} : ∀ {ns : List Str} {vs : List V} {xs : List D} {f : Str} {y : D}, Reps p F vs xs → (ns.zip xs).lookup f = some y → ∃ v, (ns.zip vs).lookup f = some v ∧ Rep p F v y
  | [], _, _, _, _, _, h => by simp at h
  | _ :: _, _, _, _, _, .nil, h => by simp at h
  | n :: ns, _, _, f, y, .cons (v := v) (x := x) r1 r2, h => by
    rw [List.zip_cons_cons, lk_put] at h
    rw [List.zip_cons_cons]
    by_cases e : f = n
    · rw [if_pos e] at h
      cases h
      exact ⟨v, by rw [lk_put, if_pos e], r1⟩
    · rw [if_neg e] at h
      obtain ⟨u, h1, h2⟩ := zip_at r2 h
      exact ⟨u, by rw [lk_put, if_neg e]; exact h1, h2⟩
section
variable {X : Cx} {Wx : WX} {e : Expr} {m : S → R W} {pos : Pos} {f : Str}
theorem ve_fldE {cs : List Str} (hk : ∀ x ∈ cs, ∀ C, X.mg x = some (.ref C) → ExcK X.K C ∧ PySem.W.findIn X.K (.ref C) f = some none) (he : VE X Wx e m)
    (hb : attributeBase e f X.env (eval e X.env) = eval e X.env := by rfl) : VE X Wx (.Attribute e f pos) (mFldE cs f m) := by
  refine ⟨⟨fun pins s σ H Q I h => ?_⟩⟩
  obtain ⟨U, g, s0, c, q⟩ := h
  refine attr_of hb (thn (he.pe.run pins s σ H (fun v H1 => ∃ (a C dx : Addr) (ns : List Str) (vs : List V) (y : V), v = .ref a ∧ ExcK X.K C ∧ PySem.W.findIn X.K (.ref C) f = some none ∧ H1 a = some (exo a C (some dx)) ∧ H1 dx = some (exd dx (ns.zip vs)) ∧ (ns.zip vs).lookup f = some y ∧ Q y H1) I ⟨U, g, s0, c, Post.seq q fun g1 s1 H1 w l1 c1 q1 v rv => ?_⟩) fun u s1 ⟨v, H1, I1, rx, a, C, dx, ns, vs, y, ev, T, hno, h1, h2, hl, hq⟩ => ?_)
  · split at q1
    · rename_i x ns xs
      split at q1
      · rename_i hx
        split at q1
        · rename_i y hy
          have rv' : Rep (pm X) g1.F v (.exn x ns xs) := rv
          cases rv' with
          | @exn _ a C dx _ vs _ hm h1 h2 hln r =>
            obtain ⟨v, hv, rv2⟩ := zip_at r hy
            obtain ⟨T, hno⟩ := hk x (by simpa using hx) C hm
            exact ⟨a, C, dx, ns, vs, v, rfl, T, hno, c1.hF _ _ h1, c1.hF _ _ h2, hv, q1.here c1 v rv2⟩
        · exact q1.elim
      · exact q1.elim
    · exact q1.elim
  · subst ev
    obtain rfl : u = Value.ref a := rx
    obtain ⟨ox, od, mA, J, hod, hlk, hr⟩ := inst_exo I1.hok h1 h2
    obtain ⟨u, hu, ru⟩ := RelO.some_of (v := y) (o := mA f) (by rw [← hl]; exact hr f)
    obtain ⟨gt, hgt⟩ := T.gg
    exact HandSPX.exc_get I1.kIn J T.ga hgt T.exC (PySem.W.findObj_own T.hd hno rfl (by rw [hlk, hu])) (handed_of ru) ⟨y, H1, I1.tok _, ru, hq⟩
end
end VL
namespace VL
open PySem PySem.Spec PyProof.Rows L2
/-! ### isinstance(e, C), isinstance(e, (C1, ..)), e an own exception -/
def mIsiE (tab : List (Str × Bool)) (m : S → R W) (s : S) : R W := (m s).bind fun w s1 => match w with
  | .d (.exn x _ _) => (match tab.lookup x with
    | some b => .ok (.d (.bl b)) s1
    | none => .no)
  | _ => .no
def rIsiE (X : Cx) : List V → Hp → VK → Prop := fun xs H Q => ∃ (a C dx : Addr) (fs : List (Str × V)) (c : V) (u : Value) (b : Bool), xs = [.ref a, c] ∧ ClsV c u ∧ H a = some (exo a C (some dx)) ∧ H dx = some (exd dx fs) ∧ ExcK X.K C ∧ PySem.W.kitOne X.K (.ref C) u = some b ∧ Q (.bl b) H
def rIsiTE (X : Cx) : List V → Hp → VK → Prop := fun xs H Q => ∃ (a C dx : Addr) (fs : List (Str × V)) (tp : Addr) (cs : List V) (us : List Value) (b : Bool), xs = [.ref a, .ref tp] ∧ H tp = some (.tup cs) ∧ Paired ClsV cs us ∧ H a = some (exo a C (some dx)) ∧ H dx = some (exd dx fs) ∧ ExcK X.K C ∧ PySem.W.kitAny X.K (.ref C) us = some b ∧ Q (.bl b) H
section
variable {X : Cx} {Wx : WX} {e c : Expr} {es : List Expr} {m : S → R W} {u : Value} {us : List Value} {p pos tpos : Pos} {k : Nat}
theorem kit_exo {P : Program} {w : World} {H : Hp} {h : Heap} {K : PySem.W.Frag} {a C dx : Addr} {fs : List (Str × V)} (hok : HOk P w H h) (h1 : H a = some (exo a C (some dx))) (h2 : H dx = some (exd dx fs)) (T : ExcK K C) :
    ∃ Ph : Heap → Prop, PySem.W.KitX K (.ref a) (.ref C) Ph ∧ Ph h := by
  obtain ⟨ox, od, mA, J, _, _, _⟩ := inst_exo hok h1 h2
  obtain ⟨gt, hgt⟩ := T.gg
  exact ⟨_, PySem.W.kitx_exc T.cl T.ga hgt T.exC T.ca T.sp T.tk T.ob, J⟩
theorem call_isiE : CallR X (.builtin "isinstance") (rIsiE X) := by
  intro pins s σ H xs us Q I r h
  obtain ⟨a, C, dx, fs, c, u, b, rfl, k, h1, h2, T, e, q⟩ := h
  obtain ⟨u1, u2, rfl, r1, r2⟩ := vals2 r
  have e2 := k.eq r2
  subst e2
  cases (show u1 = Value.ref a from r1)
  obtain ⟨Ph, Z, ph⟩ := kit_exo I.hok h1 h2 T
  exact PySem.W.kia_one Z I.kIn ph e (fun z => nomatch z) fun tk => ⟨.bl b, H, I.tok tk, rfl, q⟩
theorem call_isiTE : CallR X (.builtin "isinstance") (rIsiTE X) := by
  intro pins s σ H xs us Q I r h
  obtain ⟨a, C, dx, fs, tp, cs, ws, b, rfl, hT, k, h1, h2, T, e, q⟩ := h
  obtain ⟨u1, u2, rfl, r1, r2⟩ := vals2 r
  cases (show u2 = Value.ref tp from r2)
  cases (show u1 = Value.ref a from r1)
  obtain ⟨Ph, Z, ph⟩ := kit_exo I.hok h1 h2 T
  obtain ⟨_, its, rv, o, q1, q2, n, q3⟩ := (show ObjOk X.prog X.w H s.heap tp (.tup cs) from I.hok tp _ hT)
  have e3 := ClsV.all k rv
  subst e3
  obtain ⟨oc, od, dt, sl⟩ := o
  simp only at q2 q3
  subst q2 q3
  exact PySem.W.kia_tup Z I.kIn ph q1 e (fun z => nomatch z) fun tk => ⟨.bl b, H, I.tok tk, rfl, q⟩
theorem lk_mem {β : Type} : ∀ {l : List (Str × β)} {x : Str} {b : β}, l.lookup x = some b → (x, b) ∈ l
  | [], _, _, h => by cases h
  | (y, v) :: l, x, b, h => by
    rw [lk_put] at h
    by_cases e : x = y
    · rw [if_pos e] at h; cases h; subst e; exact List.mem_cons_self ..
    · rw [if_neg e] at h; exact List.mem_cons_of_mem _ (lk_mem h)
theorem ve_isiE (tab : List (Str × Bool)) (hg : Gl X "isinstance") (hm : X.mg "isinstance" = none) (h : VE X Wx e m) (hu : PTy X c u) (ht : ∀ p ∈ tab, ∀ C, X.mg p.1 = some (.ref C) → ExcK X.K C ∧ PySem.W.kitOne X.K (.ref C) u = some p.2)
    (he : starEach [e, c] X.env = (false, eval e X.env) :: starEach [c] X.env := by rfl) (he2 : starEach [c] X.env = (false, eval c X.env) :: starEach [] X.env := by rfl) (hpl : (backTo pos (starEach [c] X.env)).any (·.1) = false := by rfl) :
    VE X Wx (.Call (.Name "isinstance" p) [e, c] [] pos) (mIsiE tab m) := by
  obtain ⟨v, hv, kv⟩ := hu
  refine ⟨PE.weak (pe_callB call_isiE hg hm (by decide +kernel) (pa_cons h.pe (pa_cons hv pa_nil he2) he) (he := he) (hpl := hpl)) fun σ H Q ⟨U, g, s, c, q⟩ => ⟨U, g, s, c, Post.seq q fun g1 s1 H1 x l1 c1 q1 w rw_ => ?_⟩⟩
  split at q1
  · rename_i x ns xs
    split at q1
    · rename_i b hb
      have rv' : Rep (pm X) g1.F w (.exn x ns xs) := rw_
      cases rv' with
      | @exn _ a C dx _ vs _ hm h1 h2 hln r =>
        obtain ⟨T, hk⟩ := ht (x, b) (lk_mem hb) C hm
        exact ⟨a, C, dx, _, v, u, b, rfl, kv, c1.hF _ _ h1, c1.hF _ _ h2, T, hk, q1.here c1 _ (.bl _)⟩
    · exact q1.elim
  · exact q1.elim
theorem ve_isiTE (tab : List (Str × Bool)) (hg : Gl X "isinstance") (hm : X.mg "isinstance" = none) (h : VE X Wx e m) (hu : PTys X es us) (hlen : us.length ≤ 1000) (ht : ∀ p ∈ tab, ∀ C, X.mg p.1 = some (.ref C) → ExcK X.K C ∧ PySem.W.kitAny X.K (.ref C) us = some p.2)
    (he : starEach [e, .Tuple es k tpos] X.env = (false, eval e X.env) :: starEach [.Tuple es k tpos] X.env := by rfl) (he2 : starEach [.Tuple es k tpos] X.env = (false, eval (.Tuple es k tpos) X.env) :: starEach [] X.env := by rfl) (hpl : (backTo pos (starEach [.Tuple es k tpos] X.env)).any (·.1) = false := by rfl) :
    VE X Wx (.Call (.Name "isinstance" p) [e, .Tuple es k tpos] [] pos) (mIsiE tab m) := by
  obtain ⟨cs, kc, hp⟩ := hu.pa
  refine ⟨PE.weak (pe_callB call_isiTE hg hm (by decide +kernel) (pa_cons h.pe (pa_cons (pe_tup hp) pa_nil he2) he) (he := he) (hpl := hpl)) fun σ H Q ⟨U, g, s, c, q⟩ => ⟨U, g, s, c, Post.seq q fun g1 s1 H1 x l1 c1 q1 w rw_ => ?_⟩⟩
  split at q1
  · rename_i x ns xs
    split at q1
    · rename_i b hb
      have hl : cs.length ≤ sizeLine := by
        rw [Paired.length kc]
        exact Nat.le_trans hlen (by decide)
      refine ⟨hl, fun tp ntp => ?_⟩
      have rv' : Rep (pm X) g1.F w (.exn x ns xs) := rw_
      cases rv' with
      | @exn _ a C dx _ vs _ hm h1 h2 hln r =>
        obtain ⟨T, hk⟩ := ht (x, b) (lk_mem hb) C hm
        obtain ⟨c2, l2⟩ := c1.newF (o := .tup cs) ntp
        refine ⟨a, C, dx, ns.zip vs, tp, cs, us, b, rfl, upd_same, kc, ?_, ?_, T, hk, q1 _ _ l2 c2 _ (.bl _)⟩
        · rw [upd_ne (ne_of_none (c1.hF _ _ h1) ntp)]; exact c1.hF _ _ h1
        · rw [upd_ne (ne_of_none (c1.hF _ _ h2) ntp)]; exact c1.hF _ _ h2
    · exact q1.elim
  · exact q1.elim
end
end VL
/-! VL: == and != of data that are alike, dicts among them. -/
namespace VLN
open PySem PySem.SeqAt GQ
open AutoSeq1 (wpAny_loadPart')
open MeetsSeq MeetsSeq2 MeetsSeq3 SeqRoads2
section
variable {prog : Program} {w : World} {A : Around} {R : Result → Shared → Prop}
theorem ne_loop (l b : Addr) (N : Nat) (I : Nat → Shared → Prop) (hl : ListI prog w A (fun e s' => R (.error e) s') l b N I)
    (fin : ∀ s, I N s → R (.ok (.ret (.bool false))) s) (k : Nat) :
    ∀ i : Nat, N - i = k → i ≤ N → ∀ s, I i s →
      wpAny (model prog w) A.in1 (Builtin.«list.__eq__.loop» ⟨[.ref l, .ref b, rawInt i, rawInt 3], []⟩) (FinOf prog w A R) (fun e s' => R (.error e) s') s := by
  induction k with
  | zero =>
    intro i hk hi s h
    obtain ⟨items, items2, n, n2, hl1, hb1, hs1, hs2, _⟩ := hl _ _ h
    have hi' : i = N := by omega
    have hR : R (.ok (.ret (.bool false))) s := fin s (hi' ▸ h)
    obtain ⟨hp, g, d, tk, os⟩ := s
    wp_walk using wpAny_loadPart' hl1, wpAny_loadPart' hb1
    have hi1 : items[((i : Nat) : Int).toNat]? = none := by simp; omega
    have hi2 : items2[((i : Nat) : Int).toNat]? = none := by simp; omega
    rw [hi1, hi2]
    wp_walk using wpAny_loadPart' hl1, wpAny_loadPart' hb1
    show R (.ok (.ret (.bool (items.size != items2.size)))) _
    rw [hs1, hs2]
    simpa using hR
  | succ k ih =>
    intro i hk hi s h
    obtain ⟨items, items2, n, n2, hl1, hb1, hs1, hs2, turn⟩ := hl _ _ h
    have hlt : i < items.size := by omega
    have hlt2 : i < items2.size := by omega
    have ht := turn hlt hlt2
    obtain ⟨hp, g, d, tk, os⟩ := s
    wp_walk using wpAny_loadPart' hl1, wpAny_loadPart' hb1
    have hi1 : items[((i : Nat) : Int).toNat]? = some items[i] := by simp [hlt]
    have hi2 : items2[((i : Nat) : Int).toNat]? = some items2[i] := by simp [hlt2]
    have hc : ((i : Int) + 1) = ((i + 1 : Nat) : Int) := by omega
    rw [hi1, hi2]
    refine wpAny_bind (wpAny_mono ht (fun r s2 h2 => ?_) fun _ _ x => x)
    obtain ⟨hr, h2⟩ := h2
    subst hr
    have hrec := ih (i + 1) (by omega) (by omega) s2 h2
    obtain ⟨hp2, g2, d2, tk2, os2⟩ := s2
    wp_walk
    rw [hc]
    exact ⟨plainId_quiet plain_eq_loop _, codeAny_builtin entry_eq_loop (by
      rw [Around.under_plainId plain_eq_loop _]
      exact hrec)⟩
theorem list_ne (l b : Addr) (N : Nat) (I : Nat → Shared → Prop) (hl : ListI prog w A (fun e s' => R (.error e) s') l b N I)
    (fin : ∀ s, I N s → R (.ok (.ret (.bool false))) s) {s : Shared} (h : I 0 s) :
    wpAny (model prog w) A.in1 (Builtin.«list.__ne__» ⟨[.ref l, .ref b], []⟩) (FinOf prog w A R) (fun e s' => R (.error e) s') s := by
  obtain ⟨items, items2, n, n2, hl1, hb1, hs1, hs2, _⟩ := hl _ _ h
  have hrec := ne_loop (A := A) (R := R) l b N I hl fin _ 0 rfl (Nat.zero_le _) s h
  obtain ⟨hp, g, d, tk, os⟩ := s
  have f3 := AutoSeq1.sub_list_list
  have hne : ¬ (items.size != items2.size) = true := by simp [hs1, hs2]
  wp_walk using wpAny_loadPart' hl1, wpAny_loadPart' hb1
  exact ⟨plainId_quiet plain_eq_loop _, codeAny_builtin entry_eq_loop (by
    rw [Around.under_plainId plain_eq_loop _]
    exact hrec)⟩
end
section
variable {prog : Program} {w : World} {A : Around} {E : Value → Shared → Prop} {s : Shared}
theorem rn_list {l b : Addr} {N : Nat} {Q : Value → Shared → Prop} (hu : A.units < cLine) (I : Nat → Shared → Prop) (hl : ListI prog w A E l b N I)
    (fin : ∀ s, I N s → Q (.bool false) s) (h : I 0 s) : wpAny (model prog w) A (richCompare .NotEq (.ref l) (.ref b)) Q E s := by
  obtain ⟨items, items2, n, n2, hl1, hb1, _, _, _⟩ := hl _ _ h
  refine wpAny_richCompare_same_room (op := .NotEq) ⟨_, hl1, rfl⟩ ⟨_, hb1, rfl⟩ F.slot_list_ne (call_here F.slot_list_ne ⟨_, hl1, rfl⟩ F.entry_list_ne (F.args_list_ne_2 _ _) ?_) hu
  exact list_ne (R := wants (fun v s' => v ≠ .notImplemented ∧ Q v s') E) l b N I hl (fun s' q => ⟨(fun x => nomatch x), fin s' q⟩) h
end
end VLN
namespace VL
open PySem PySem.Spec PyProof.Rows L2
mutual
def beqD : D → D → Bool
  | .non, .non => true
  | .bl a, .bl b => a == b
  | .int a, .int b => a == b
  | .str a, .str b => decide (a = b)
  | .lst xs, .lst ys => beqDs xs ys
  | .tup xs, .tup ys => beqDs xs ys
  | .dct ks xs, .dct ls ys => decide (ks = ls) && beqDs xs ys
  | _, _ => false
def beqDs : List D → List D → Bool
  | [], [] => true
  | x :: xs, y :: ys => beqD x y && beqDs xs ys
  | _, _ => false
end
mutual
theorem beqD_eq : ∀ {a b : D}, beqD a b = true → a = b
  | .non, b, h => by cases b <;> simp [beqD] at h ⊢
  | .bl a, b, h => by cases b <;> simp [beqD] at h ⊢; exact h
  | .int a, b, h => by cases b <;> simp [beqD] at h ⊢; exact h
  | .str a, b, h => by cases b <;> simp [beqD] at h ⊢; exact h
  | .lst xs, b, h => by cases b <;> simp [beqD] at h ⊢; exact beqDs_eq h
  | .tup xs, b, h => by cases b <;> simp [beqD] at h ⊢; exact beqDs_eq h
  | .lro xs, b, h => by cases b <;> simp [beqD] at h
  | .dct ks xs, b, h => by cases b <;> simp [beqD] at h ⊢; exact ⟨h.1, beqDs_eq h.2⟩
  | .dtt ks xs, b, h => by cases b <;> simp [beqD] at h
  | .set ns, b, h => by cases b <;> simp [beqD] at h
  | .ins C ns xs, b, h => by cases b <;> simp [beqD] at h
  | .exn C ns xs, b, h => by cases b <;> simp [beqD] at h
  | .ref a, b, h => by cases b <;> simp [beqD] at h
theorem beqDs_eq : ∀ {xs ys : List D}, beqDs xs ys = true → xs = ys
  | [], [], _ => rfl
  | [], _ :: _, h => by simp [beqDs] at h
  | _ :: _, [], h => by simp [beqDs] at h
  | x :: xs, y :: ys, h => by
    simp only [beqDs, Bool.and_eq_true] at h
    rw [beqD_eq h.1, beqDs_eq h.2]
end
/-- of plain data to this depth -/
def okS : Nat → D → Bool
  | 0, d => (scal d).isSome
  | n + 1, .lst xs => xs.all (okS n)
  | n + 1, .tup xs => xs.all (okS n)
  | _ + 1, .dct ks xs => decide ks.Nodup && xs.all fun x => (scal x).isSome
  | _ + 1, d => (scal d).isSome
def SameD (p : Pm) (d : D) : Eqv := fun x y H => Rep p H x d ∧ Rep p H y d
theorem mon_same {p : Pm} {d : D} : Mon (SameD p d) := fun x y H H' e h => ⟨h.1.mono e, h.2.mono e⟩
theorem same_flat {p : Pm} {H : Hp} {x y : V} {d : D} (h1 : Rep p H x d) (h2 : Rep p H y d) (e : (scal d).isSome = true) : x = y ∧ flatV x = true ∧ eqV x x = true ∧ flatB x = true := by
  cases h1 <;> cases h2 <;> first | exact ⟨rfl, rfl, rfl, rfl⟩ | exact ⟨rfl, rfl, by simp [eqV], rfl⟩ | cases e
section
variable {X : Cx}
theorem eqG_scal {d : D} (e : (scal d).isSome = true) (n : Nat) : EqG X n (SameD (pm X) d) :=
  (eqG_flat.mono (Nat.zero_le n)).imp fun x y H h => by
    obtain ⟨rfl, h1, h2, _⟩ := same_flat h.1 h.2 e
    exact ⟨h1, h1, h2⟩
theorem reps_same {p : Pm} {H : Hp} : ∀ {vs ws : List V} {xs : List D}, Reps p H vs xs → Reps p H ws xs → (∀ x ∈ xs, (scal x).isSome = true) → vs = ws ∧ ∀ v ∈ vs, flatB v = true
  | _, _, _, .nil, .nil, _ => ⟨rfl, by simp⟩
  | _, _, _, .cons h1 r1, .cons h2 r2, e => by
    obtain ⟨rfl, _, _, hf⟩ := same_flat h1 h2 (e _ (List.mem_cons_self ..))
    obtain ⟨rfl, hr⟩ := reps_same r1 r2 fun x hx => e x (List.mem_cons_of_mem _ hx)
    exact ⟨rfl, fun v hv => by
      rcases List.mem_cons.mp hv with rfl | hv
      · exact hf
      · exact hr v hv⟩
theorem prs_same {p : Pm} {H : Hp} {D : Eqv} : ∀ {vs ws : List V} {xs : List VL.D}, Reps p H vs xs → Reps p H ws xs → (∀ d ∈ xs, ∀ x y, SameD p d x y H → D x y H) → Prs D vs ws H
  | _, _, _, .nil, .nil, _ => Prs.nil
  | _, _, _, .cons h1 r1, .cons h2 r2, e => Prs.cons (e _ (List.mem_cons_self ..) _ _ ⟨h1, h2⟩) (prs_same r1 r2 fun d hd => e d (List.mem_cons_of_mem _ hd))
theorem valV_nd {κ : Type} [DecidableEq κ] : ∀ {ks : List κ} {vs : List V} {q : κ × V}, ks.Nodup → q ∈ ks.zip vs → valV (ks.zip vs) q.1 = some q.2
  | [], _, _, _, h => by simp at h
  | _ :: _, [], _, _, h => by simp at h
  | k :: ks, v :: vs, q, nd, h => by
    rw [List.nodup_cons] at nd
    rw [List.zip_cons_cons] at h ⊢
    unfold valV
    rw [List.find?_cons]
    rcases List.mem_cons.mp h with h | h
    · subst h; simp
    · have hm : q.1 ∈ ks := (List.of_mem_zip h).1
      have ne : ¬ k = q.1 := fun e => nd.1 (by rw [e]; exact hm)
      simp only [ne, decide_false]
      exact valV_nd nd.2 h
theorem dict_same {p : Pm} {H : Hp} {x y : V} {ks : List Key} {xs : List D} (h1 : Rep p H x (.dct ks xs)) (h2 : Rep p H y (.dct ks xs)) (nd : ks.Nodup) (e : ∀ x ∈ xs, (scal x).isSome = true) :
    ∃ a b kvs, x = .ref a ∧ y = .ref b ∧ H a = some (.dK kvs) ∧ H b = some (.dK kvs) ∧ ∀ q ∈ kvs, valV kvs q.1 = some q.2 ∧ flatB q.2 = true := by
  cases h1 with
  | @dct a _ vs _ f1 l1 r1 =>
    cases h2 with
    | @dct b _ ws _ f2 l2 r2 =>
      obtain ⟨rfl, hf⟩ := reps_same r1 r2 e
      exact ⟨a, b, _, rfl, rfl, f1, f2, fun q hq => ⟨valV_nd nd hq, hf _ (List.of_mem_zip hq).2⟩⟩
def DDict : Eqv := fun x y H => ∃ a b kvs, x = .ref a ∧ y = .ref b ∧ H a = some (.dK kvs) ∧ H b = some (.dK kvs) ∧ ∀ q ∈ kvs, valV kvs q.1 = some q.2 ∧ flatB q.2 = true
theorem rcG_dict (n : Nat) : RcG X (n + 1) DDict := by
  intro A pins s σ H x y u v sb I rx ry d
  obtain ⟨a, b, ks, rfl, rfl, ea, eb, hp⟩ := d
  obtain rfl : u = Value.ref a := rx
  obtain rfl : v = Value.ref b := ry
  obtain ⟨_, ya, va, ra, da⟩ := (show ObjOk X.prog X.w H s.heap a (.dK ks) from I.hok a _ ea)
  obtain ⟨_, yb, vb, rb, db⟩ := (show ObjOk X.prog X.w H s.heap b (.dK ks) from I.hok b _ eb)
  have hl : va.length = vb.length := by rw [← ra.length, ← rb.length]
  exact PySem.W.keq_eq (knd := mixKind X.prog X.w) (r := true) ya yb da db sb.room.units0 (fun _ => hits_all rb ra hp) ⟨by simp [hl], H, I, Ext.rfl'⟩
theorem eqG_same : ∀ (n : Nat) (d : D), okS n d = true → EqG X n (SameD (pm X) d)
  | 0, d, h => eqG_scal h 0
  | n + 1, .lst xs, h => by
    simp only [okS, List.all_eq_true] at h
    have hD : EqG X n (fun x y H => ∃ d ∈ xs, SameD (pm X) d x y H) := fun A pins s σ H x y u v sb I rx ry ⟨d, hd, hs⟩ => eqG_same n d (h d hd) A pins s σ H x y u v sb I rx ry hs
    refine (eqG_list (fun x y H H' e ⟨d, hd, hs⟩ => ⟨d, hd, mon_same x y H H' e hs⟩) hD).imp fun x y H hs => ?_
    obtain ⟨h1, h2⟩ := hs
    cases h1 with
    | lst f1 r1 =>
      cases h2 with
      | lst f2 r2 => exact ⟨_, _, _, _, rfl, rfl, f1, f2, prs_same r1 r2 fun d hd x y hs => ⟨d, hd, hs⟩⟩
  | n + 1, .tup xs, h => by
    simp only [okS, List.all_eq_true] at h
    have hD : EqG X n (fun x y H => ∃ d ∈ xs, SameD (pm X) d x y H) := fun A pins s σ H x y u v sb I rx ry ⟨d, hd, hs⟩ => eqG_same n d (h d hd) A pins s σ H x y u v sb I rx ry hs
    refine (eqG_tup (fun x y H H' e ⟨d, hd, hs⟩ => ⟨d, hd, mon_same x y H H' e hs⟩) hD).imp fun x y H hs => ?_
    obtain ⟨h1, h2⟩ := hs
    cases h1 with
    | tup f1 r1 =>
      cases h2 with
      | tup f2 r2 => exact ⟨_, _, _, _, rfl, rfl, f1, f2, prs_same r1 r2 fun d hd x y hs => ⟨d, hd, hs⟩⟩
  | n + 1, .dct ks xs, h => by
    simp only [okS, Bool.and_eq_true, decide_eq_true_eq, List.all_eq_true] at h
    refine ((rcG_dict n).eqG fun _ _ _ ⟨a, b, _, hx, hy, _⟩ => ⟨a, b, hx, hy⟩).imp fun x y H hs => ?_
    exact dict_same hs.1 hs.2 h.1 h.2
  | n + 1, .non, h => eqG_scal h _
  | n + 1, .bl _, h => eqG_scal h _
  | n + 1, .int _, h => eqG_scal h _
  | n + 1, .str _, h => eqG_scal h _
  | n + 1, .lro _, h => eqG_scal h _
  | n + 1, .dtt _ _, h => eqG_scal h _
  | n + 1, .set _, h => eqG_scal h _
  | n + 1, .ins _ _ _, h => eqG_scal h _
  | n + 1, .exn _ _ _, h => eqG_scal h _
  | n + 1, .ref _, h => eqG_scal h _

/-! ### a != b, alike in all -/
def isLD : D → Bool
  | .lst _ => true
  | .dct _ _ => true
  | _ => false
def dNeS (a b : D) : Option Z := match dNe a b with
  | some z => some z
  | none => if beqD a b && okS 6 a && isLD a then zb false else none
def rNeS (X : Cx) : R2 := fun x y H Q => rNeD X.K x y H Q ∨ ∃ d, Rep (pm X) H x d ∧ Rep (pm X) H y d ∧ okS 6 d = true ∧ isLD d = true ∧ ∀ H', Ext H H' → Q (.bl false) H'
theorem op_neS (hr : Room 6 X.A) : OpR X (compareOp .NotEq) (rNeS X) := by
  intro pins s σ H x y v u Q I rx ry h
  rcases h with h | ⟨d, h1, h2, ok, ld, q⟩
  · exact op_neD (by have := hr.un; omega) pins s σ H x y v u Q I rx ry h
  · cases d with
    | lst xs =>
      simp only [okS, List.all_eq_true] at ok
      have hD : EqG X 5 (fun x y H => ∃ d ∈ xs, SameD (pm X) d x y H) := fun A pins s σ H x y u v sb I rx ry ⟨d, hd, hs⟩ => eqG_same 5 d (ok d hd) A pins s σ H x y u v sb I rx ry hs
      cases h1 with
      | @lst a vs _ f1 r1 =>
        cases h2 with
        | @lst b ws _ f2 r2 =>
          cases (show v = Value.ref a from rx)
          cases (show u = Value.ref b from ry)
          have pr := prs_same (D := fun x y H => ∃ d ∈ xs, SameD (pm X) d x y H) r1 r2 fun d hd x y hs => ⟨d, hd, hs⟩
          have sb : Sub X 6 X.A := ⟨hr, rfl⟩
          show wpAny (model X.prog X.w) X.A (richCompare .NotEq (.ref a) (.ref b)) (EP X pins σ Q) X.xe s
          refine VLN.rn_list (N := vs.length) sb.room.units0 (fun _ s' => LoopI X pins σ H s') (fun i s' z => ?_) (fun s' z => ?_) ⟨H, I, Ext.rfl'⟩
          · obtain ⟨H1, I1, e1⟩ := id z
            obtain ⟨_, its, k, r, e⟩ := I1.hok a _ (e1 _ _ f1)
            obtain ⟨_, its2, k2, rr2, e2⟩ := I1.hok b _ (e1 _ _ f2)
            exact ⟨its.toArray, its2.toArray, k, k2, e, e2, by rw [List.size_toArray, ← r.length], by rw [List.size_toArray, ← rr2.length, ← pr.1], fun h1 h2 => turnG (fun x y H H' e ⟨d, hd, hs⟩ => ⟨d, hd, mon_same x y H H' e hs⟩) hD sb pr r rr2 i h1 h2 s' z⟩
          · obtain ⟨H1, I1, e1⟩ := z
            exact ⟨.bl false, H1, I1, rfl, q H1 e1⟩
    | dct ks xs =>
      simp only [okS, Bool.and_eq_true, decide_eq_true_eq, List.all_eq_true] at ok
      obtain ⟨a, b, kvs, rfl, rfl, ea, eb, hp⟩ := dict_same h1 h2 ok.1 ok.2
      exact op_ne_dictA (by have := hr.un; omega) pins s σ H _ _ v u Q I rx ry ⟨a, b, kvs, kvs, rfl, rfl, ea, eb, rfl, hp, q H Ext.rfl'⟩
    | _ => cases ld
theorem br_neS : BinR X (rNeS X) dNeS := by
  intro U g H σ s x y a b z Q c ta tb e q
  unfold dNeS at e
  cases h : dNe a b with
  | some z' =>
    rw [h] at e
    cases e
    exact .inl (br_ne U g H σ s x y a b _ Q c ta tb h q)
  | none =>
    rw [h] at e
    simp only at e
    split at e
    · rename_i hc
      simp only [Bool.and_eq_true] at hc
      have eb := beqD_eq hc.1.1
      subst eb
      refine .inr ⟨a, ta.rep c.hF, tb.rep c.hF, hc.1.2, hc.2, fun H' e' => ?_⟩
      cases e
      exact q g H' _ Le.refl (c.heap e') (.bl _)
    · cases e
end
end VL
namespace VL
open PySem PySem.Spec PyProof.Rows L2
/-! ### {'k': name} -/
def mDispV (k : Str) (i : Nat) (s : S) : R W := match s.vs[i]? with
  | some (some (.d d)) => .ok (.d (.dct [.inr k] [d])) s
  | _ => .no
section
variable {X : Cx} {Wx : WX} {pos p1 p2 : Pos} {k1 : Nat}
theorem ve_dispV (i : Nat) {k x : Str} (hN : X.N[i]? = some x := by rfl) (hv : Vis X.env.scope x := by first | exact Or.inl rfl | exact Or.inr (Or.inl rfl) | exact Or.inr (Or.inr rfl)) (hd : (x == ("__debug__" : Str)) = false := by decide)
    (hcd : (x == ("__classdict__" : Str)) = false := by decide) : VE X Wx (.Dict [some (.Constant (.str k) k1 p1)] [.Name x p2] pos) (mDispV k i) :=
  ⟨PE.weak (pe_disp (pps_cons pe_str (pe_var hN hv hd hcd) pps_nil) rfl rfl (by simp) (by show 1 ≤ 15; decide)) fun σ H Q ⟨U, g, s, c, q⟩ => fun a n => by
    unfold mDispV at q
    split at q
    · rename_i d hx
      obtain ⟨v, h1, h2⟩ := c.vs i _ hx
      refine ⟨v, h1, upd_same, [(.inr k, v)], rfl, by show 1 ≤ 15; decide, ?_⟩
      obtain ⟨c2, l2⟩ := c.newF (o := .dK [(.inr k, v)]) n
      have e : upd (upd H a (.dK [])) a (.dK (mergeK [] [(Sum.inr k, v)])) = upd H a (.dK [(.inr k, v)]) := by
        funext b
        by_cases h : b = a
        · subst h; rw [upd_same, upd_same]; rfl
        · rw [upd_ne h, upd_ne h, upd_ne h]
      rw [e]
      exact q _ _ l2 c2 _ (.dct (ks := [.inr k]) (vs := [v]) upd_same rfl (.cons (Rep.mono l2.F h2) .nil))
    · exact q.elim⟩
end
/-! ### facts of a class, from the written part -/
theorem mg_cls {mg : Str → Option Value} {x : Str} {C C' : Addr} (h : mg x = some (.ref C)) (h' : mg x = some (.ref C')) : C' = C := by
  rw [h] at h'
  cases h'
  rfl
theorem exck_of {K : PySem.W.Frag} {C N : Addr} {nm q : Str} {bs bm : List Value} {sn : List Str} {sub : List Value} {ab : Bool} {col : Option Bool} {dd : Option Addr} {k0 k1 k2 k3 k5 : Option Value} {gt : Option Value}
    (lc : K.lookup C = some (excClassObj nm q C N bs bm true sn sub ab col dd k0 k1 k2 k3 k5 "ValueError.__new__"))
    (ga : PySem.W.findIn K (.ref C) "__getattribute__" = some (some (.builtin "BaseException.__getattribute__"))) (gg : PySem.W.findIn K (.ref C) "__getattr__" = some gt) (be : PySem.W.subIn K (.ref C) (.type "BaseException") = some true) (hd : PySem.W.hasDictIn K C = true)
    (ca : PySem.W.findIn K (.ref C) "__class__" = some (some (.builtin "object.__class__"))) (ob : PySem.W.mroIn K C (.type "object") = some true)
    (sp : PySem.W.specialIn K (.builtin "object.__class__") "__get__" = some (some (.builtin "getset_descriptor.__get__"))) (tk : PySem.W.takesIn K (.builtin "object.__class__") = some true) : ExcK K C :=
  ⟨by unfold PySem.W.clsIn; rw [lc] <;> rfl, ga, ⟨gt, gg⟩, be, hd, ca, sp, tk, ob⟩
theorem supc_of {P : Program} {K : PySem.W.Frag} {C D fI cc cda N : Addr} {qual : Str} {st : Stmt} {nm q : Str} {bs bm : List Value} {sn : List Str} {sub : List Value} {ab : Bool} {col : Option Bool} {dd : Option Addr} {k0 k1 k2 k3 k5 : Option Value}
    {oc kV doc pm ct ccl cl : Value} {od an cdd cld : Option Addr} {osl ccs csl : Array (Option Value)} {vs : Array Value} {file : Str} {tf : Tok}
    (lc : K.lookup C = some (excClassObj nm q C N bs bm true sn sub ab col dd k0 k1 k2 k3 k5 "ValueError.__new__")) (r : PySem.HandSPX.refsVE bm = true)
    (sa : PySem.W.findIn K (.ref C) "__setattr__" = some (some (.builtin "object.__setattr__"))) (kI : PySem.W.findIn K (.ref C) "__init__" = some (some (.ref fI))) (su : PySem.W.mroIn K C (.ref D) = some true)
    (ini : PySem.W.ks_superIn K C D "__init__" = some (some (.builtin "ValueError.__init__"))) (ve : PySem.W.subIn K (.ref C) (.type "ValueError") = some true) (ex : PySem.W.excInitIn K C veB "ValueError.__new__" = true) (kC : PySem.W.keepIn K (.ref C) = true)
    (lf : K.lookup fI = some ⟨oc, od, .func (PySem.W.ksFn "__init__" qual (defArgs st) (defBody st) (defScope st) .none kV doc pm an (.ref cda) ct cc), osl⟩) (cd : PySem.W.codeIn K (.ref cda) qual = true)
    (fl : K.lookup cda = some ⟨ccl, cdd, .fields vs, ccs⟩) (fv : vs[2]? = some (.str file tf)) (ff : ((P.main.file : Str) == file) = true) (ce : K.lookup cc = some ⟨cl, cld, .cell (some (.ref D)), csl⟩)
    (cD : (PySem.W.clsIn K D).isSome = true) (tI : PySem.W.typeIn K (.ref fI) = some (.type "function")) (zS : PySem.W.nsIn K mainGlobals "super" = some none) (op : PySem.W.nsIn K cStatics "thirdparty.any" = some none)
    (tp : (P.main.scope.names.lookup ("super" : Str)).isSome = false) :
    SupC P K C D fI cc cda qual st (PySem.W.ksFn "__init__" qual (defArgs st) (defBody st) (defScope st) .none kV doc pm an (.ref cda) ct cc) :=
  ⟨sa, ⟨_, _, _, _, _, _, _, _, _, _, _, _, _, _, _, lc, r⟩, ⟨_, _, _, _, _, _, _, _, rfl, lf⟩, cd, ⟨_, _, _, _, _, _, fl, fv, ff⟩, ⟨_, _, _, ce⟩, Option.isSome_iff_exists.mp cD, su, zS, op, ini, ve, ex, tp, kI, tI, kC⟩
/-- C(..) may be said so -/
def MkE (P : Program) (K : PySem.W.Frag) (C : Addr) (qual : Str) (st : Stmt) (xs ks : List Str) (n : Nat) (perm : List Nat) : Prop := ∃ D fI cc cda fd, SupC P K C D fI cc cda qual st fd ∧ SupA fd xs ks n perm
section
variable {X : Cx} {Wx : WX} {e : Expr} {es : List Expr} {kws : List Keyword} {fs fk : S → R (List W)} {pos p : Pos} {x : Str} {C : Addr} {qual : Str} {st : Stmt} {xs ns ks : List Str} {perm : List Nat} {n k : Nat}
theorem ve_mk (h : MkE X.prog X.K C qual st xs [] n perm) (B : SupB st xs ns) (hno : ∀ f ∈ ns, PySem.W.findIn X.K (.ref C) f = some none) (hr : Room (k + 1) X.A) (hg : Gl X x) (hm : X.mg x = some (.ref C))
    (ha : VA X Wx (e :: es) fs) (hn : LenIs fs n) (hsm : n ≤ 1000) (hdb : (x == ("__debug__" : Str)) = false := by decide) (he : starEach (e :: es) X.env = (false, eval e X.env) :: starEach es X.env := by rfl) (hpl : (backTo pos (starEach es X.env)).any (·.1) = false := by rfl) :
    VE X Wx (.Call (.Name x p) (e :: es) [] pos) (mMkE x ns perm fs mNil) := by
  obtain ⟨D, fI, cc, cda, fd, T, hA⟩ := h
  exact ve_mkE T B hA hno hr hg hm ha hn hsm hdb he hpl
theorem ve_mkK (h : MkE X.prog X.K C qual st xs ks 0 perm) (B : SupB st xs ns) (hno : ∀ f ∈ ns, PySem.W.findIn X.K (.ref C) f = some none) (hr : Room (k + 1) X.A) (hg : Gl X x) (hm : X.mg x = some (.ref C))
    (hkw : VKw X Wx kws fk) (hkn : LenIs fk ks.length) (hall : (backToKw pos (keywordEach kws X.env)).all (·.1.isSome) = true := by rfl) (hks : (backToKw pos (keywordEach kws X.env)).filterMap (·.1) = ks := by rfl)
    (hdb : (x == ("__debug__" : Str)) = false := by decide) (hpl : ((backTo pos (starEach [] X.env)).any (·.1) || (backToKw pos (keywordEach kws X.env)).any (·.1.isNone)) = false := by rfl) :
    VE X Wx (.Call (.Name x p) [] kws pos) (mMkE x ns perm mNil fk) := by
  obtain ⟨D, fI, cc, cda, fd, T, hA⟩ := h
  exact ve_mkEK0 T B hA hno hr hg hm hkw hkn hall hks hdb hpl
end
end VL
/-! VL: how what is computed is evaluated. -/
namespace VL
open PySem L2
section
variable {α β : Type} {s : S} {a b d : D} {i j : Int} {x y : W} {vs : List (Option W)} {os : List O} {o : O}
theorem e_bind {f : α → S → R β} {a : α} : (R.ok a s).bind f = f a s := rfl
theorem e_bindE {f : α → S → R β} {C ns xs} : (R.err C ns xs s : R α).bind f = .err C ns xs s := rfl
theorem e_toS {f : α → S → RS} {a : α} : (R.ok a s).toS f = f a s := rfl
theorem e_toSE {f : α → S → RS} {C ns xs} : (R.err C ns xs s : R α).toS f = .err C ns xs s := rfl
theorem e_nx {f : S → RS} : (RS.nx s).bind f = f s := rfl
theorem e_rt {f : S → RS} : (RS.rt x s).bind f = .rt x s := rfl
theorem e_er {f : S → RS} {C ns xs} : (RS.err C ns xs s).bind f = .err C ns xs s := rfl
theorem e_bk {f : S → RS} : (RS.bk s).bind f = .bk s := rfl
theorem e_ct {f : S → RS} : (RS.ct s).bind f = .ct s := rfl
theorem e_op {rg op} {f1 f2 : S → R W} : mOp rg op f1 f2 s = (f1 s).bind fun x s1 => (f2 s1).bind fun y s2 => op2 rg op s2 x y := rfl
theorem e_un {rg op} {f1 : S → R W} : mUn rg op f1 s = (f1 s).bind fun x s1 => op1 rg op s1 x := rfl
theorem e_op2 {rg op} : op2 rg op s (.d a) (.d b) = s.puts rg (op a b) := rfl
theorem e_op2g {rg op} : op2 rg op s x y = match s.pk x, s.pk y with
  | some a, some b => s.puts rg (op a b)
  | _, _ => .no := rfl
theorem e_pkr {n : Nat} : (S.mk vs os).pk (.r n) = (os[n]?).map O.toD := rfl
theorem e_op1 {rg op} : op1 rg op s (.d a) = s.puts rg (op a) := rfl
theorem e_pv {rg} : s.puts rg (some (.v d)) = .ok (.d d) s := rfl
theorem e_pn : s.puts false (some (.n o)) = .ok (.d o.toD) s := rfl
theorem e_pnt : (⟨vs, os⟩ : S).puts true (some (.n o)) = .ok (.r os.length) ⟨vs, os ++ [o]⟩ := rfl
theorem e_put : s.put false (.n o) = .ok (.d o.toD) s := rfl
theorem e_putt : (⟨vs, os⟩ : S).put true (.n o) = .ok (.r os.length) ⟨vs, os ++ [o]⟩ := rfl
theorem e_c : mC d s = .ok (.d d) s := rfl
def varR : Option (Option W) → S → R W
  | some (some x), s => .ok x s
  | _, _ => .no
theorem e_var {i : Nat} {vs : List (Option W)} : mVar i ⟨vs, os⟩ = varR vs[i]? ⟨vs, os⟩ := by
  unfold mVar
  cases h : vs[i]? with
  | none => rfl
  | some o => cases o <;> rfl
theorem e_varR : varR (some (some x)) s = .ok x s := rfl
theorem e_bl {f : S → R W} : mBl f s = (f s).bind fun x s1 => match asB x with
  | some b => .ok b s1
  | none => .no := rfl
theorem e_asB {b : Bool} : asB (.d (.bl b)) = some b := rfl
theorem e_tru {f : S → R W} : mTru f s = (f s).bind fun x s1 => match s1.pk x with
  | some a => (match a.tru with
    | some b => .ok b s1
    | none => .no)
  | none => .no := rfl
theorem e_pkd : s.pk (.d d) = some d := rfl
theorem e_trub {b : Bool} : (D.bl b).tru = some b := rfl
theorem e_dAdd : dAdd (.int i) (.int j) = some (.v (.int (i + j))) := rfl
theorem e_dSub : dSub (.int i) (.int j) = some (.v (.int (i - j))) := rfl
theorem e_dMul (h : okMul i j = true) : dMul (.int i) (.int j) = some (.v (.int (i * j))) := by show (if okMul i j = true then zi (i * j) else none) = _; rw [if_pos h]; rfl
theorem e_dDiv (h : okDiv j = true) : dDiv (.int i) (.int j) = some (.v (.int (i.fdiv j))) := by show (if okDiv j = true then zi (i.fdiv j) else none) = _; rw [if_pos h]; rfl
theorem e_dMod (h : ¬ j = 0) : dMod (.int i) (.int j) = some (.v (.int (i.fmod j))) := by show (if j = 0 then none else zi (i.fmod j)) = _; rw [if_neg h]; rfl
theorem e_dPow (h : okPow i j = true) : dPow (.int i) (.int j) = some (.v (.int (i ^ j.toNat))) := by show (if okPow i j = true then zi (i ^ j.toNat) else none) = _; rw [if_pos h]; rfl
theorem e_dNeg : dNeg (.int i) = some (.v (.int (-i))) := rfl
theorem e_dLt : dLt (.int i) (.int j) = some (.v (.bl (decide (i < j)))) := rfl
theorem e_dLe : dLe (.int i) (.int j) = some (.v (.bl (decide (i ≤ j)))) := rfl
theorem e_dGt : dGt (.int i) (.int j) = some (.v (.bl (decide (j < i)))) := rfl
theorem e_dGe : dGe (.int i) (.int j) = some (.v (.bl (decide (j ≤ i)))) := rfl
theorem e_dIs : dIs a .non = some (.v (.bl a.isNon)) := rfl
theorem e_dIsNot : dIsNot a .non = some (.v (.bl (!a.isNon))) := rfl
theorem e_nil : mNil s = .ok [] s := rfl
theorem e_cons {f : S → R W} {fs : S → R (List W)} : mCons f fs s = (f s).bind fun x s1 => (fs s1).bind fun xs s2 => .ok (x :: xs) s2 := rfl
theorem e_cb {rg op} {fs : S → R (List W)} : mCB rg op fs s = (fs s).bind fun ws s1 => opL rg op s1 ws := rfl
theorem e_opL0 {rg op} : opL rg op s [] = s.puts rg (op []) := rfl
theorem e_opL1 {rg op} : opL rg op s [.d a] = s.puts rg (op [a]) := rfl
theorem e_opLg {rg op} {ws : List W} : opL rg op s ws = match s.pks ws with
  | some ds => s.puts rg (op ds)
  | none => .no := rfl
theorem e_pks0 : s.pks [] = some [] := rfl
theorem e_pks {r : List W} : s.pks (x :: r) = match s.pk x, s.pks r with
  | some d, some ds => some (d :: ds)
  | _, _ => none := rfl
theorem e_lst {rg} {fs : S → R (List W)} : mLst rg fs s = (fs s).bind fun ws s1 => match dsOf ws with
  | some ds => s1.puts rg (zlst ds)
  | none => .no := rfl
theorem e_tup {fs : S → R (List W)} : mTup fs s = (fs s).bind fun ws s1 => match dsOf ws with
  | some ds => if fits ds.length then .ok (.d (.tup ds)) s1 else .no
  | none => .no := rfl
theorem e_ds0 : dsOf [] = some [] := rfl
theorem e_ds {r : List W} : dsOf (.d a :: r) = (dsOf r).map fun xs => a :: xs := rfl
theorem fits_s {n : Nat} (h : n ≤ 100000) : fits n = true := decide_eq_true (Nat.le_trans h (by decide))
theorem e_zlst {ds : List D} (h : ds.length ≤ 100000) : zlst ds = some (.n (.lst ds)) := by unfold zlst; rw [if_pos (fits_s h)]
theorem e_if {c : S → R Bool} {f g : S → RS} : mIf c f g s = (c s).toS fun b s1 => if b then f s1 else g s1 := rfl
theorem e_seq {f g : S → RS} : mSeq f g s = (f s).bind g := rfl
theorem e_skip : mSkip s = .nx s := rfl
theorem e_ret {f : S → R W} : mRet f s = (f s).toS fun x s1 => .rt x s1 := rfl
theorem e_expr {f : S → R W} : mExpr f s = (f s).toS fun _ s1 => .nx s1 := rfl
theorem e_set {i : Nat} {f : S → R W} : mSet i f s = (f s).toS fun x s1 => .nx ⟨s1.vs.set i (some x), s1.os⟩ := rfl
theorem e_par {i j : Nat} {fs : S → R (List W)} : mPar i j fs s = (fs s).toS fun ws s1 => match ws with
  | [x, y] => .nx ⟨(s1.vs.set i (some x)).set j (some y), s1.os⟩
  | _ => .no := rfl
theorem e_par3 {i j l : Nat} {fs : S → R (List W)} : mPar3 i j l fs s = (fs s).toS fun ws s1 => match ws with
  | [x, y, z] => .nx ⟨((s1.vs.set i (some x)).set j (some y)).set l (some z), s1.os⟩
  | _ => .no := rfl
theorem e_not {f : S → R Bool} : mNot f s = (f s).bind fun b s1 => .ok (!b) s1 := rfl
theorem e_andT {f g : S → R Bool} : mAndT f g s = (f s).bind fun b s1 => if b then g s1 else .ok false s1 := rfl
theorem e_orT {f g : S → R Bool} : mOrT f g s = (f s).bind fun b s1 => if b then .ok true s1 else g s1 := rfl
theorem e_and {f g : S → R W} : mAnd f g s = (f s).bind fun x s1 => match asB x with
  | some true => g s1
  | some false => .ok (.d (.bl false)) s1
  | none => .no := rfl
theorem e_or {f g : S → R W} : mOr f g s = (f s).bind fun x s1 => match asB x with
  | some true => .ok (.d (.bl true)) s1
  | some false => g s1
  | none => .no := rfl
theorem e_notV {f : S → R W} : mNotV f s = (f s).bind fun x s1 => match asB x with
  | some b => .ok (.d (.bl (!b))) s1
  | none => .no := rfl
theorem e_ifE {c : S → R Bool} {f g : S → R W} : mIfE c f g s = (c s).bind fun b s1 => if b then f s1 else g s1 := rfl
theorem e_call {m : S → R W} {fs : S → R (List W)} : mCall m fs s = (fs s).bind fun ws s1 => callM m ws s1 := rfl
theorem e_callK {m : S → R W} {n k perm} {fs fk : S → R (List W)} : mCallK m n k perm fs fk s = (fs s).bind fun ws s1 => (fk s1).bind fun zs s2 => callM m (pick perm (ws ++ zs)) s2 := rfl
theorem e_isi {f : D → Option Bool} {m : S → R W} : mIsi f m s = (m s).bind fun x s1 => match s1.pk x with
  | some d => (match f d with
    | some b => .ok (.d (.bl b)) s1
    | none => .no)
  | none => .no := rfl
theorem e_setIx {fv fo fi : S → R W} : mSetIx fv fo fi s = (fv s).toS fun w s1 => (fo s1).toS fun x s2 => (fi s2).toS fun y s3 => match w, x, y with
  | .d d, .r n, .d (.int k) => (match s3.os[n]? with
    | some (.lst xs) => (match ixN xs.length k with
      | some j => .nx ⟨s3.vs, s3.os.set n (.lst (xs.set j d))⟩
      | none => .no)
    | _ => .no)
  | _, _, _ => .no := rfl
theorem e_lstD {xs : List D} : (O.lst xs).toD = .lst xs := rfl
theorem e_oLen {xs : List D} : oLen [.lst xs] = some (.v (.int xs.length)) := rfl
theorem e_oLenL {xs : List D} : oLen [.lro xs] = some (.v (.int xs.length)) := rfl
theorem e_oInt : oInt [.int i] = some (.v (.int i)) := rfl
theorem e_oIntB {b : Bool} : oInt [.bl b] = some (.v (.int (if b then 1 else 0))) := rfl
theorem e_oAbs : oAbs [.int i] = some (.v (.int (if i < 0 then -i else i))) := rfl
theorem e_oIx {xs : List D} : oIx (.lst xs) (.int i) = (atI xs i).map Z.v := rfl
/-- calls -/
theorem call_d {m : S → R W} {ws : List W} (h : regs ws = []) (e : m ⟨ws.map some, []⟩ = .ok (.d d) ⟨[], []⟩) : callM m ws s = .ok (.d d) s := by
  unfold callM
  rw [h]
  simp only [List.nodup_nil, if_true, getOs]
  have e1 : (ws.map fun x => some (remap [] x)) = ws.map some := by
    cases ws with
    | nil => rfl
    | cons w ws =>
      refine List.map_congr_left fun x hx => ?_
      cases x with
      | d x => rfl
      | r n =>
        exfalso
        have : n ∈ regs (w :: ws) := mem_regs hx
        rw [h] at this; cases this
  rw [e1, e]
  rfl
/-- one region comes in front -/
theorem call_r {m : S → R W} {n : Nat} {ws : List W} {o o' : O} (hw : regs ws = []) (hn : os[n]? = some o) (e : m ⟨some (.r 0) :: ws.map some, [o]⟩ = .ok (.d d) ⟨[], [o']⟩) : callM m (.r n :: ws) ⟨vs, os⟩ = .ok (.d d) ⟨vs, os.set n o'⟩ := by
  unfold callM
  have hr : regs (.r n :: ws) = [n] := by simp only [regs, hw]
  rw [hr]
  have nd : [n].Nodup := by simp
  rw [if_pos nd]
  simp only [getOs, hn]
  have e1 : ((W.r n :: ws).map fun x => some (remap [n] x)) = some (.r 0) :: ws.map some := by
    rw [List.map_cons]
    have e2 : remap [n] (.r n) = .r 0 := by simp [remap]
    rw [e2]
    congr 1
    refine List.map_congr_left fun x hx => ?_
    cases x with
    | d x => rfl
    | r k =>
      exfalso
      have : k ∈ regs ws := mem_regs hx
      rw [hw] at this; cases this
  rw [e1, e]
  rfl
end
end VL
/-! what the defs compute (printed by gen2.py) -/
namespace LawV
open PySem L2 VL
abbrev cs_part : List Str := ["BadNumber", "BadWeb", "BadTable", "BadLot", "Misfit"]
abbrev cs_item : List Str := ["BadText"]
abbrev cs_line : List Str := ["BadText"]
abbrev cs_most : List Str := ["TooMany"]
abbrev cs_what : List Str := ["TooMany"]
abbrev cs_value : List Str := ["Missing", "NoPlace", "NoTie", "Twice"]
abbrev tab_is_BadText : List (Str × Bool) := [("Missing", false), ("BadNumber", false), ("BadWeb", false), ("BadTable", false), ("BadLot", false), ("Misfit", false), ("NoPlace", false), ("NoTie", false), ("Twice", false), ("TooMany", false), ("BadText", true)]
abbrev tab_is_TooMany : List (Str × Bool) := [("Missing", false), ("BadNumber", false), ("BadWeb", false), ("BadTable", false), ("BadLot", false), ("Misfit", false), ("NoPlace", false), ("NoTie", false), ("Twice", false), ("TooMany", true), ("BadText", false)]
abbrev tab_is_Twice : List (Str × Bool) := [("Missing", false), ("BadNumber", false), ("BadWeb", false), ("BadTable", false), ("BadLot", false), ("Misfit", false), ("NoPlace", false), ("NoTie", false), ("Twice", true), ("TooMany", false), ("BadText", false)]
abbrev tab_is_NoTie : List (Str × Bool) := [("Missing", false), ("BadNumber", false), ("BadWeb", false), ("BadTable", false), ("BadLot", false), ("Misfit", false), ("NoPlace", false), ("NoTie", true), ("Twice", false), ("TooMany", false), ("BadText", false)]
abbrev tab_is_NoPlace : List (Str × Bool) := [("Missing", false), ("BadNumber", false), ("BadWeb", false), ("BadTable", false), ("BadLot", false), ("Misfit", false), ("NoPlace", true), ("NoTie", false), ("Twice", false), ("TooMany", false), ("BadText", false)]
abbrev tab_is_Misfit : List (Str × Bool) := [("Missing", false), ("BadNumber", false), ("BadWeb", false), ("BadTable", false), ("BadLot", false), ("Misfit", true), ("NoPlace", false), ("NoTie", false), ("Twice", false), ("TooMany", false), ("BadText", false)]
abbrev tab_is_BadLot : List (Str × Bool) := [("Missing", false), ("BadNumber", false), ("BadWeb", false), ("BadTable", false), ("BadLot", true), ("Misfit", false), ("NoPlace", false), ("NoTie", false), ("Twice", false), ("TooMany", false), ("BadText", false)]
abbrev tab_is_BadTable : List (Str × Bool) := [("Missing", false), ("BadNumber", false), ("BadWeb", false), ("BadTable", true), ("BadLot", false), ("Misfit", false), ("NoPlace", false), ("NoTie", false), ("Twice", false), ("TooMany", false), ("BadText", false)]
abbrev tab_is_BadWeb : List (Str × Bool) := [("Missing", false), ("BadNumber", false), ("BadWeb", true), ("BadTable", false), ("BadLot", false), ("Misfit", false), ("NoPlace", false), ("NoTie", false), ("Twice", false), ("TooMany", false), ("BadText", false)]
abbrev tab_is_BadNumber : List (Str × Bool) := [("Missing", false), ("BadNumber", true), ("BadWeb", false), ("BadTable", false), ("BadLot", false), ("Misfit", false), ("NoPlace", false), ("NoTie", false), ("Twice", false), ("TooMany", false), ("BadText", false)]
abbrev tab_is_LookupError_TypeError_ArithmeticError_AttributeError_RuntimeError : List (Str × Bool) := [("Missing", false), ("BadNumber", false), ("BadWeb", false), ("BadTable", false), ("BadLot", false), ("Misfit", false), ("NoPlace", false), ("NoTie", false), ("Twice", false), ("TooMany", false), ("BadText", false)]
abbrev tab_is_NetError : List (Str × Bool) := [("Missing", true), ("BadNumber", true), ("BadWeb", true), ("BadTable", true), ("BadLot", true), ("Misfit", true), ("NoPlace", true), ("NoTie", true), ("Twice", true), ("TooMany", true), ("BadText", true)]
abbrev tab_is_ValueError : List (Str × Bool) := [("Missing", true), ("BadNumber", true), ("BadWeb", true), ("BadTable", true), ("BadLot", true), ("Misfit", true), ("NoPlace", true), ("NoTie", true), ("Twice", true), ("TooMany", true), ("BadText", true)]
abbrev tab_is_Missing : List (Str × Bool) := [("Missing", true), ("BadNumber", false), ("BadWeb", false), ("BadTable", false), ("BadLot", false), ("Misfit", false), ("NoPlace", true), ("NoTie", true), ("Twice", false), ("TooMany", false), ("BadText", false)]
def y__law_cruet : S → RS := (mRet (mLst true (mCons (mLc false (mSeqIt (mSl false oSl (mVar 0) mNoP (mPart (mC (.int 60))))) [1] (gSet 1) mYes (mCB false oInt (mCons (mVar 1) mNil))) (mCons (mC (.int 0)) (mCons (mC (.int 0)) mNil)))))
def m__law_cruet : S → R W := fnB 2 y__law_cruet
def y__law_dash : S → RS := (mSeq (mIf (mBl (mOp false dGt (mOp false oIx (mVar 0) (mC (.int 2))) (mC (.int 0)))) (mSeq (mSet 5 (mCB false oInt (mCons (mOp false oIx (mVar 0) (mC (.int 2))) mNil)))
    (mSeq (mSetIx (mOp false dDiv (mVar 5) (mVar 1)) (mVar 0) (mC (.int 2)))
    (mRet (mOp false dMod (mCB false oInt (mCons (mVar 5) mNil)) (mVar 1)))))
    mSkip)
    (mSeq (mSet 2 (mOp false oIx (mVar 0) (mC (.int 1))))
    (mSeq (mSetIx (mOp false dAdd (mVar 2) (mC (.int 1))) (mVar 0) (mC (.int 1)))
    (mSeq (mSet 3 (mOp false dAdd (mOp false dMul (mC (.int 120011)) (mVar 2)) (mC (.int 9011))))
    (mSeq (mIf (mBl (mOp false dNeS (mOp false oIx (mVar 0) (mC (.int 0))) (mLst false mNil))) (mSet 3 (mOp false oIx (mOp false oIx (mVar 0) (mC (.int 0))) (mOp false dMod (mCB false oInt (mCons (mVar 2) mNil)) (mCB false oLen (mCons (mOp false oIx (mVar 0) (mC (.int 0))) mNil)))))
    mSkip)
    (mSeq (mIf (mAndT (mBl (mOp false dLt (mVar 2) (mCB false oLen (mCons (mOp false oIx (mVar 0) (mC (.int 0))) mNil)))) (mBl (mOp false dGe (mCB false oAbs (mCons (mVar 3) mNil)) (mOp false dPow (mC (.int 10)) (mC (.int 18)))))) (mSeq (mSet 5 (mOp false dAdd (mOp false dMul (mC (.int 2)) (mOp false dSub (mCB false oAbs (mCons (mCB false oInt (mCons (mVar 3) mNil)) mNil)) (mOp false dPow (mC (.int 10)) (mC (.int 18))))) (mCB false oInt (mCons (mOp false dLt (mVar 3) (mC (.int 0))) mNil))))
    (mSeq (mSetIx (mOp false dDiv (mVar 5) (mVar 1)) (mVar 0) (mC (.int 2)))
    (mRet (mOp false dMod (mCB false oInt (mCons (mVar 5) mNil)) (mVar 1)))))
    mSkip)
    (mSeq (mSet 4 (mOp false dMod (mCB false oInt (mCons (mOp false dPow (mOp false dAdd (mOp false dAdd (mOp false dMod (mCB false oInt (mCons (mVar 3) mNil)) (mC (.int 2147483549))) (mOp false dMul (mC (.int 80021)) (mVar 2))) (mC (.int 9011))) (mC (.int 5))) mNil)) (mC (.int 2147483563))))
    (mSeq (mSet 4 (mOp false dMod (mCB false oInt (mCons (mOp false dPow (mOp false dAdd (mOp false dAdd (mOp false dMul (mVar 4) (mOp false dAdd (mOp false dMul (mC (.int 2)) (mVar 2)) (mC (.int 6007)))) (mOp false dMul (mOp false dMul (mC (.int 120011)) (mVar 2)) (mVar 2))) (mC (.int 80021))) (mC (.int 3))) mNil)) (mC (.int 2147483587))))
    (mRet (mOp false dMod (mCB false oInt (mCons (mOp false dDiv (mVar 4) (mC (.int 64))) mNil)) (mVar 1)))))))))))
def m__law_dash : S → R W := fnB 6 y__law_dash
def y__law_kin : S → RS := (mSeq (mSet 1 (mLst false (mCons (mIsiE tab_is_BadNumber (mVar 0)) (mCons (mIsiE tab_is_BadWeb (mVar 0)) (mCons (mIsiE tab_is_BadTable (mVar 0)) (mCons (mIsiE tab_is_BadLot (mVar 0)) (mCons (mIsiE tab_is_Misfit (mVar 0)) mNil)))))))
    (mSeq (mSet 1 (mOp false dAdd (mVar 1) (mLst false (mCons (mIsiE tab_is_NoPlace (mVar 0)) (mCons (mIsiE tab_is_NoTie (mVar 0)) (mCons (mIsiE tab_is_Twice (mVar 0)) (mCons (mIsiE tab_is_TooMany (mVar 0)) mNil)))))))
    (mRet (mOp false dAdd (mVar 1) (mLst false (mCons (mIsiE tab_is_BadText (mVar 0)) mNil))))))
def m__law_kin : S → R W := fnB 2 y__law_kin
def y__law_one_of : S → RS := (mRet (mOp false oIx (mVar 1) (mCall m__law_dash (mCons (mVar 0) (mCons (mCB false oLen (mCons (mVar 1) mNil)) mNil)))))
def m__law_one_of : S → R W := fnB 2 y__law_one_of
def y__law_stands : S → RS := (mSeq (mIf (mOrT (mNot (mTru (mIsiE tab_is_NetError (mVar 0)))) (mOrT (mNot (mTru (mIsiE tab_is_ValueError (mVar 0)))) (mBl (mOp false dNeS (mIsiE tab_is_Missing (mVar 0)) (mOp false dInT (mVar 1) (mTup (mCons (mC (.int 5)) (mCons (mC (.int 6)) mNil)))))))) (mRet (mC (.bl false)))
    mSkip)
    (mSeq (mIf (mTru (mIsiE tab_is_LookupError_TypeError_ArithmeticError_AttributeError_RuntimeError (mVar 0))) (mRet (mC (.bl false)))
    mSkip)
    (mRet (mOp false dEq (mCall m__law_kin (mCons (mVar 0) mNil)) (mLc false (mRange1 (mCons (mC (.int 10)) mNil)) [2] (gSet 2) mYes (mOp false dEq (mVar 2) (mVar 1)))))))
def m__law_stands : S → R W := fnB 3 y__law_stands
def y__law_any : S → RS := (mSeq (mSet 1 (mCall m__law_dash (mCons (mVar 0) (mCons (mC (.int 70)) mNil))))
    (mSeq (mSet 2 (mLst false (mCons (mVar 1) (mCons (mOp false dSub (mUn false dNeg (mOp false dPow (mC (.int 10)) (mC (.int 25)))) (mVar 1)) (mCons (mOp false dAdd (mC (.str "w")) (mCB false oStr (mCons (mVar 1) mNil))) (mCons (mC (.str "")) (mCons (mC .non) (mCons (mC (.bl false)) (mCons (mLst false (mCons (mVar 1) (mCons (mTup (mCons (mC .non) mNil)) mNil))) (mCons (mTup (mCons (mVar 1) (mCons (mLst false (mCons (mVar 1) mNil)) mNil))) (mCons (mPut false (.n (.dct [] []))) (mCons (mLst false mNil) (mCons (mDispV "a" 1) mNil)))))))))))))
    (mRet (mCall m__law_one_of (mCons (mVar 0) (mCons (mVar 2) mNil))))))
def m__law_any : S → R W := fnB 3 y__law_any
def y__law_parts_right : S → RS := (mSeq (mSet 1 (mLst false (mCons (mMkE "BadNumber" ["part"] [0] (mCons (mVar 0) mNil) mNil) (mCons (mMkE "BadWeb" ["part"] [0] (mCons (mVar 0) mNil) mNil) (mCons (mMkE "BadTable" ["part"] [0] (mCons (mVar 0) mNil) mNil) (mCons (mMkE "BadLot" ["part"] [0] (mCons (mVar 0) mNil) mNil) (mCons (mMkE "Misfit" ["part"] [0] (mCons (mVar 0) mNil) mNil) mNil)))))))
    (mSeq (mSet 2 (mLst false (mCons (mMkE "BadNumber" ["part"] [0] mNil (mCons (mVar 0) mNil)) (mCons (mMkE "BadWeb" ["part"] [0] mNil (mCons (mVar 0) mNil)) (mCons (mMkE "BadTable" ["part"] [0] mNil (mCons (mVar 0) mNil)) (mCons (mMkE "BadLot" ["part"] [0] mNil (mCons (mVar 0) mNil)) (mCons (mMkE "Misfit" ["part"] [0] mNil (mCons (mVar 0) mNil)) mNil)))))))
    (mSeq (mFor (mRange1 (mCons (mC (.int 5)) mNil)) (gSet 3)
    (mFor (mSeqIt (mTup (mCons (mOp false oIx (mVar 1) (mVar 3)) (mCons (mOp false oIx (mVar 2) (mVar 3)) mNil)))) (gSet 4)
    (mIf (mOrT (mBl (mOp false dNeS (mFldE cs_part "part" (mVar 4)) (mVar 0))) (mNot (mTru (mCall m__law_stands (mCons (mVar 4) (mCons (mVar 3) mNil)))))) (mRet (mC (.bl false)))
    mSkip)))
    (mRet (mC (.bl true))))))
def m__law_parts_right : S → R W := fnB 5 y__law_parts_right
def y__law_fields_right : S → RS := (mSeq (mSet 2 (mLst false (mCons (mMkE "NoPlace" ["value"] [0] (mCons (mVar 0) mNil) mNil) (mCons (mMkE "NoTie" ["value"] [0] (mCons (mVar 0) mNil) mNil) (mCons (mMkE "Twice" ["value"] [0] (mCons (mVar 0) mNil) mNil) (mCons (mMkE "NoPlace" ["value"] [0] mNil (mCons (mVar 0) mNil)) (mCons (mMkE "NoTie" ["value"] [0] mNil (mCons (mVar 0) mNil)) (mCons (mMkE "Twice" ["value"] [0] mNil (mCons (mVar 0) mNil)) mNil))))))))
    (mSeq (mFor (mEnum (mCons (mVar 2) mNil)) (gTupF (gConsF (gSet 3) (gConsF (gSet 4) gNilF)))
    (mIf (mOrT (mBl (mOp false dNeS (mFldE cs_value "value" (mVar 4)) (mVar 0))) (mNot (mTru (mCall m__law_stands (mCons (mVar 4) (mCons (mOp false dAdd (mC (.int 5)) (mOp false dMod (mCB false oInt (mCons (mVar 3) mNil)) (mC (.int 3)))) mNil)))))) (mRet (mC (.bl false)))
    mSkip))
    (mSeq (mSet 5 (mMkE "Missing" ["value"] [0] mNil (mCons (mVar 0) mNil)))
    (mSeq (mIf (mOrT (mBl (mOp false dNeS (mFldE cs_value "value" (mVar 5)) (mVar 0))) (mOrT (mBl (mOp false dNeS (mFldE cs_value "value" (mMkE "Missing" ["value"] [0] (mCons (mVar 1) mNil) mNil)) (mVar 1))) (mOrT (mBl (mOp false dNeS (mCall m__law_kin (mCons (mVar 5) mNil)) (mOp false dMul (mLst false (mCons (mC (.bl false)) mNil)) (mC (.int 10))))) (mNot (mTru (mIsiE tab_is_NetError (mVar 5))))))) (mRet (mC (.bl false)))
    mSkip)
    (mSeq (mFor (mSeqIt (mTup (mCons (mMkE "TooMany" ["what", "most"] [0, 1] (mCons (mVar 0) (mCons (mVar 1) mNil)) mNil) (mCons (mMkE "TooMany" ["what", "most"] [1, 0] mNil (mCons (mVar 1) (mCons (mVar 0) mNil))) mNil)))) (gSet 4)
    (mIf (mOrT (mBl (mOp false dNeS (mLst false (mCons (mFldE cs_what "what" (mVar 4)) (mCons (mFldE cs_most "most" (mVar 4)) mNil))) (mLst false (mCons (mVar 0) (mCons (mVar 1) mNil))))) (mNot (mTru (mCall m__law_stands (mCons (mVar 4) (mCons (mC (.int 8)) mNil)))))) (mRet (mC (.bl false)))
    mSkip))
    (mSeq (mFor (mSeqIt (mTup (mCons (mMkE "BadText" ["line", "item"] [0, 1] (mCons (mVar 0) (mCons (mVar 1) mNil)) mNil) (mCons (mMkE "BadText" ["line", "item"] [1, 0] mNil (mCons (mVar 1) (mCons (mVar 0) mNil))) mNil)))) (gSet 4)
    (mIf (mOrT (mBl (mOp false dNeS (mLst false (mCons (mFldE cs_line "line" (mVar 4)) (mCons (mFldE cs_item "item" (mVar 4)) mNil))) (mLst false (mCons (mVar 0) (mCons (mVar 1) mNil))))) (mNot (mTru (mCall m__law_stands (mCons (mVar 4) (mCons (mC (.int 9)) mNil)))))) (mRet (mC (.bl false)))
    mSkip))
    (mRet (mC (.bl true)))))))))
def m__law_fields_right : S → R W := fnB 6 y__law_fields_right
def y_law : S → RS := (mSeq (mSet 1 (mCall m__law_cruet (mCons (mVar 0) mNil)))
    (mSeq (mFor (mRange1 (mCons (mC (.int 3)) mNil)) (gSet 2)
    (mSeq (mPar 3 4 (mCons (mCall m__law_any (mCons (mVar 1) mNil)) (mCons (mCall m__law_any (mCons (mVar 1) mNil)) mNil)))
    (mIf (mOrT (mNot (mTru (mCall m__law_parts_right (mCons (mVar 3) mNil)))) (mNot (mTru (mCall m__law_fields_right (mCons (mVar 3) (mCons (mVar 4) mNil)))))) (mRet (mC (.bl false)))
    mSkip)))
    (mRet (mC (.bl true)))))
def m_law : S → R W := fnB 5 y_law
end LawV
/-! the walk (printed by gen2.py) -/
namespace LawV
open PySem PySem.Spec PyProof.Rows L2 VL
def top (i : Nat) : Stmt := PySem.Challenge.pw_flowtells_k00_errors_keep_their_fields.main.body.getD i (.Pass ⟨0, 0, 0, 0⟩)
theorem u64 {k : Nat} {A : Around} (hr : Room k A) : A.units + 64 < cLine := by have := hr.un; omega
theorem u65 {k : Nat} {A : Around} (hr : Room k A) : A.units + 65 < cLine := by have := hr.un; omega
theorem u66 {k : Nat} {A : Around} (hr : Room k A) : A.units + 66 < cLine := by have := hr.un; omega
abbrev ini_Missing : Stmt := inClass (top 7) 0
theorem sb_Missing : SupB ini_Missing ["value"] ["value"] := ⟨⟨_, _, _, _, _, _, _, _, _, rfl, .cons ⟨_, _, _, _, rfl⟩ (.nil), fun env => ⟨_, rfl⟩, fun env => rfl⟩, ⟨by decide +kernel, by decide +kernel, by decide +kernel, rfl, rfl, rfl⟩, ⟨_, rfl, rfl⟩, by decide +kernel, by decide +kernel, by decide +kernel, rfl, by decide, by decide⟩
abbrev ini_BadNumber : Stmt := inClass (top 2) 0
theorem sb_BadNumber : SupB ini_BadNumber ["part"] ["part"] := ⟨⟨_, _, _, _, _, _, _, _, _, rfl, .cons ⟨_, _, _, _, rfl⟩ (.nil), fun env => ⟨_, rfl⟩, fun env => rfl⟩, ⟨by decide +kernel, by decide +kernel, by decide +kernel, rfl, rfl, rfl⟩, ⟨_, rfl, rfl⟩, by decide +kernel, by decide +kernel, by decide +kernel, rfl, by decide, by decide⟩
abbrev ini_BadWeb : Stmt := inClass (top 3) 0
theorem sb_BadWeb : SupB ini_BadWeb ["part"] ["part"] := ⟨⟨_, _, _, _, _, _, _, _, _, rfl, .cons ⟨_, _, _, _, rfl⟩ (.nil), fun env => ⟨_, rfl⟩, fun env => rfl⟩, ⟨by decide +kernel, by decide +kernel, by decide +kernel, rfl, rfl, rfl⟩, ⟨_, rfl, rfl⟩, by decide +kernel, by decide +kernel, by decide +kernel, rfl, by decide, by decide⟩
abbrev ini_BadTable : Stmt := inClass (top 4) 0
theorem sb_BadTable : SupB ini_BadTable ["part"] ["part"] := ⟨⟨_, _, _, _, _, _, _, _, _, rfl, .cons ⟨_, _, _, _, rfl⟩ (.nil), fun env => ⟨_, rfl⟩, fun env => rfl⟩, ⟨by decide +kernel, by decide +kernel, by decide +kernel, rfl, rfl, rfl⟩, ⟨_, rfl, rfl⟩, by decide +kernel, by decide +kernel, by decide +kernel, rfl, by decide, by decide⟩
abbrev ini_BadLot : Stmt := inClass (top 5) 0
theorem sb_BadLot : SupB ini_BadLot ["part"] ["part"] := ⟨⟨_, _, _, _, _, _, _, _, _, rfl, .cons ⟨_, _, _, _, rfl⟩ (.nil), fun env => ⟨_, rfl⟩, fun env => rfl⟩, ⟨by decide +kernel, by decide +kernel, by decide +kernel, rfl, rfl, rfl⟩, ⟨_, rfl, rfl⟩, by decide +kernel, by decide +kernel, by decide +kernel, rfl, by decide, by decide⟩
abbrev ini_Misfit : Stmt := inClass (top 6) 0
theorem sb_Misfit : SupB ini_Misfit ["part"] ["part"] := ⟨⟨_, _, _, _, _, _, _, _, _, rfl, .cons ⟨_, _, _, _, rfl⟩ (.nil), fun env => ⟨_, rfl⟩, fun env => rfl⟩, ⟨by decide +kernel, by decide +kernel, by decide +kernel, rfl, rfl, rfl⟩, ⟨_, rfl, rfl⟩, by decide +kernel, by decide +kernel, by decide +kernel, rfl, by decide, by decide⟩
abbrev ini_Twice : Stmt := inClass (top 10) 0
theorem sb_Twice : SupB ini_Twice ["value"] ["value"] := ⟨⟨_, _, _, _, _, _, _, _, _, rfl, .cons ⟨_, _, _, _, rfl⟩ (.nil), fun env => ⟨_, rfl⟩, fun env => rfl⟩, ⟨by decide +kernel, by decide +kernel, by decide +kernel, rfl, rfl, rfl⟩, ⟨_, rfl, rfl⟩, by decide +kernel, by decide +kernel, by decide +kernel, rfl, by decide, by decide⟩
abbrev ini_TooMany : Stmt := inClass (top 11) 0
theorem sb_TooMany : SupB ini_TooMany ["what", "most"] ["what", "most"] := ⟨⟨_, _, _, _, _, _, _, _, _, rfl, .cons ⟨_, _, _, _, rfl⟩ (.cons ⟨_, _, _, _, rfl⟩ (.nil)), fun env => ⟨_, rfl⟩, fun env => rfl⟩, ⟨by decide +kernel, by decide +kernel, by decide +kernel, rfl, rfl, rfl⟩, ⟨_, rfl, rfl⟩, by decide +kernel, by decide +kernel, by decide +kernel, rfl, by decide, by decide⟩
abbrev ini_BadText : Stmt := inClass (top 12) 0
theorem sb_BadText : SupB ini_BadText ["line", "item"] ["line", "item"] := ⟨⟨_, _, _, _, _, _, _, _, _, rfl, .cons ⟨_, _, _, _, rfl⟩ (.cons ⟨_, _, _, _, rfl⟩ (.nil)), fun env => ⟨_, rfl⟩, fun env => rfl⟩, ⟨by decide +kernel, by decide +kernel, by decide +kernel, rfl, rfl, rfl⟩, ⟨_, rfl, rfl⟩, by decide +kernel, by decide +kernel, by decide +kernel, rfl, by decide, by decide⟩
abbrev st__law_cruet : Stmt := top 14
abbrev N__law_cruet : List Str := ["script", "cell"]
abbrev st__law_dash : Stmt := top 15
abbrev N__law_dash : List Str := ["cruet", "many", "turn", "cell", "mixed", "left"]
abbrev st__law_kin : Stmt := top 18
abbrev N__law_kin : List Str := ["error", "told"]
abbrev st__law_one_of : Stmt := top 16
abbrev N__law_one_of : List Str := ["cruet", "some"]
abbrev st__law_stands : Stmt := top 19
abbrev N__law_stands : List Str := ["error", "at", "spot"]
abbrev st__law_any : Stmt := top 17
abbrev N__law_any : List Str := ["cruet", "number", "some"]
abbrev st__law_parts_right : Stmt := top 20
abbrev N__law_parts_right : List Str := ["one", "made", "named", "at", "error"]
abbrev st__law_fields_right : Stmt := top 21
abbrev N__law_fields_right : List Str := ["one", "other", "values", "at", "error", "base"]
abbrev st_law : Stmt := top 22
abbrev N_law : List Str := ["script", "cruet", "turn", "one", "other"]
structure Txt (P : Program) (K : PySem.W.Frag) (mg : Str → Option Value) (f__law_cruet f__law_dash f__law_kin f__law_one_of f__law_stands f__law_any f__law_parts_right f__law_fields_right f_law : Addr) (d__law_cruet d__law_dash d__law_kin d__law_one_of d__law_stands d__law_any d__law_parts_right d__law_fields_right d_law : FuncData) (c_Missing c_BadNumber c_BadWeb c_BadTable c_BadLot c_Misfit c_NoPlace c_NoTie c_Twice c_TooMany c_BadText c_NetError : Addr) : Prop where
  F__law_cruet : Fun K "_law_cruet" "_law_cruet" st__law_cruet f__law_cruet d__law_cruet
  M__law_cruet : mg "_law_cruet" = some (.ref f__law_cruet)
  F__law_dash : Fun K "_law_dash" "_law_dash" st__law_dash f__law_dash d__law_dash
  M__law_dash : mg "_law_dash" = some (.ref f__law_dash)
  F__law_kin : Fun K "_law_kin" "_law_kin" st__law_kin f__law_kin d__law_kin
  M__law_kin : mg "_law_kin" = some (.ref f__law_kin)
  F__law_one_of : Fun K "_law_one_of" "_law_one_of" st__law_one_of f__law_one_of d__law_one_of
  M__law_one_of : mg "_law_one_of" = some (.ref f__law_one_of)
  F__law_stands : Fun K "_law_stands" "_law_stands" st__law_stands f__law_stands d__law_stands
  M__law_stands : mg "_law_stands" = some (.ref f__law_stands)
  F__law_any : Fun K "_law_any" "_law_any" st__law_any f__law_any d__law_any
  M__law_any : mg "_law_any" = some (.ref f__law_any)
  F__law_parts_right : Fun K "_law_parts_right" "_law_parts_right" st__law_parts_right f__law_parts_right d__law_parts_right
  M__law_parts_right : mg "_law_parts_right" = some (.ref f__law_parts_right)
  F__law_fields_right : Fun K "_law_fields_right" "_law_fields_right" st__law_fields_right f__law_fields_right d__law_fields_right
  M__law_fields_right : mg "_law_fields_right" = some (.ref f__law_fields_right)
  F_law : Fun K "law" "law" st_law f_law d_law
  M_law : mg "law" = some (.ref f_law)
  b_ArithmeticError : mg "ArithmeticError" = none
  b_AttributeError : mg "AttributeError" = none
  b_LookupError : mg "LookupError" = none
  b_RuntimeError : mg "RuntimeError" = none
  b_TypeError : mg "TypeError" = none
  b_ValueError : mg "ValueError" = none
  b_abs : mg "abs" = none
  b_enumerate : mg "enumerate" = none
  b_int : mg "int" = none
  b_isinstance : mg "isinstance" = none
  b_len : mg "len" = none
  b_range : mg "range" = none
  b_str : mg "str" = none
  M_Missing : mg "Missing" = some (.ref c_Missing)
  M_BadNumber : mg "BadNumber" = some (.ref c_BadNumber)
  M_BadWeb : mg "BadWeb" = some (.ref c_BadWeb)
  M_BadTable : mg "BadTable" = some (.ref c_BadTable)
  M_BadLot : mg "BadLot" = some (.ref c_BadLot)
  M_Misfit : mg "Misfit" = some (.ref c_Misfit)
  M_NoPlace : mg "NoPlace" = some (.ref c_NoPlace)
  M_NoTie : mg "NoTie" = some (.ref c_NoTie)
  M_Twice : mg "Twice" = some (.ref c_Twice)
  M_TooMany : mg "TooMany" = some (.ref c_TooMany)
  M_BadText : mg "BadText" = some (.ref c_BadText)
  M_NetError : mg "NetError" = some (.ref c_NetError)
  mk_Misfit_0_part : MkE P K c_Misfit "Misfit.__init__" ini_Misfit ["part"] ["part"] 0 [0]
  mk_BadLot_0_part : MkE P K c_BadLot "BadLot.__init__" ini_BadLot ["part"] ["part"] 0 [0]
  mk_BadTable_0_part : MkE P K c_BadTable "BadTable.__init__" ini_BadTable ["part"] ["part"] 0 [0]
  mk_BadWeb_0_part : MkE P K c_BadWeb "BadWeb.__init__" ini_BadWeb ["part"] ["part"] 0 [0]
  mk_BadNumber_0_part : MkE P K c_BadNumber "BadNumber.__init__" ini_BadNumber ["part"] ["part"] 0 [0]
  mk_Misfit_1_ : MkE P K c_Misfit "Misfit.__init__" ini_Misfit ["part"] [] 1 [0]
  mk_BadLot_1_ : MkE P K c_BadLot "BadLot.__init__" ini_BadLot ["part"] [] 1 [0]
  mk_BadTable_1_ : MkE P K c_BadTable "BadTable.__init__" ini_BadTable ["part"] [] 1 [0]
  mk_BadWeb_1_ : MkE P K c_BadWeb "BadWeb.__init__" ini_BadWeb ["part"] [] 1 [0]
  mk_BadNumber_1_ : MkE P K c_BadNumber "BadNumber.__init__" ini_BadNumber ["part"] [] 1 [0]
  mk_BadText_0_item_line : MkE P K c_BadText "BadText.__init__" ini_BadText ["line", "item"] ["item", "line"] 0 [1, 0]
  mk_BadText_2_ : MkE P K c_BadText "BadText.__init__" ini_BadText ["line", "item"] [] 2 [0, 1]
  mk_TooMany_0_most_what : MkE P K c_TooMany "TooMany.__init__" ini_TooMany ["what", "most"] ["most", "what"] 0 [1, 0]
  mk_TooMany_2_ : MkE P K c_TooMany "TooMany.__init__" ini_TooMany ["what", "most"] [] 2 [0, 1]
  mk_Missing_1_ : MkE P K c_Missing "Missing.__init__" ini_Missing ["value"] [] 1 [0]
  mk_Missing_0_value : MkE P K c_Missing "Missing.__init__" ini_Missing ["value"] ["value"] 0 [0]
  mk_Twice_0_value : MkE P K c_Twice "Twice.__init__" ini_Twice ["value"] ["value"] 0 [0]
  mk_NoTie_0_value : MkE P K c_NoTie "Missing.__init__" ini_Missing ["value"] ["value"] 0 [0]
  mk_NoPlace_0_value : MkE P K c_NoPlace "Missing.__init__" ini_Missing ["value"] ["value"] 0 [0]
  mk_Twice_1_ : MkE P K c_Twice "Twice.__init__" ini_Twice ["value"] [] 1 [0]
  mk_NoTie_1_ : MkE P K c_NoTie "Missing.__init__" ini_Missing ["value"] [] 1 [0]
  mk_NoPlace_1_ : MkE P K c_NoPlace "Missing.__init__" ini_Missing ["value"] [] 1 [0]
  no_Missing : ∀ f ∈ (["value"] : List Str), PySem.W.findIn K (.ref c_Missing) f = some none
  no_BadNumber : ∀ f ∈ (["part"] : List Str), PySem.W.findIn K (.ref c_BadNumber) f = some none
  no_BadWeb : ∀ f ∈ (["part"] : List Str), PySem.W.findIn K (.ref c_BadWeb) f = some none
  no_BadTable : ∀ f ∈ (["part"] : List Str), PySem.W.findIn K (.ref c_BadTable) f = some none
  no_BadLot : ∀ f ∈ (["part"] : List Str), PySem.W.findIn K (.ref c_BadLot) f = some none
  no_Misfit : ∀ f ∈ (["part"] : List Str), PySem.W.findIn K (.ref c_Misfit) f = some none
  no_NoPlace : ∀ f ∈ (["value"] : List Str), PySem.W.findIn K (.ref c_NoPlace) f = some none
  no_NoTie : ∀ f ∈ (["value"] : List Str), PySem.W.findIn K (.ref c_NoTie) f = some none
  no_Twice : ∀ f ∈ (["value"] : List Str), PySem.W.findIn K (.ref c_Twice) f = some none
  no_TooMany : ∀ f ∈ (["what", "most"] : List Str), PySem.W.findIn K (.ref c_TooMany) f = some none
  no_BadText : ∀ f ∈ (["line", "item"] : List Str), PySem.W.findIn K (.ref c_BadText) f = some none
  fl_part : ∀ x ∈ cs_part, ∀ C, mg x = some (.ref C) → ExcK K C ∧ PySem.W.findIn K (.ref C) "part" = some none
  fl_item : ∀ x ∈ cs_item, ∀ C, mg x = some (.ref C) → ExcK K C ∧ PySem.W.findIn K (.ref C) "item" = some none
  fl_line : ∀ x ∈ cs_line, ∀ C, mg x = some (.ref C) → ExcK K C ∧ PySem.W.findIn K (.ref C) "line" = some none
  fl_most : ∀ x ∈ cs_most, ∀ C, mg x = some (.ref C) → ExcK K C ∧ PySem.W.findIn K (.ref C) "most" = some none
  fl_what : ∀ x ∈ cs_what, ∀ C, mg x = some (.ref C) → ExcK K C ∧ PySem.W.findIn K (.ref C) "what" = some none
  fl_value : ∀ x ∈ cs_value, ∀ C, mg x = some (.ref C) → ExcK K C ∧ PySem.W.findIn K (.ref C) "value" = some none
  is_BadText : ∀ p ∈ tab_is_BadText, ∀ C, mg p.1 = some (.ref C) → ExcK K C ∧ PySem.W.kitOne K (.ref C) (.ref c_BadText) = some p.2
  is_TooMany : ∀ p ∈ tab_is_TooMany, ∀ C, mg p.1 = some (.ref C) → ExcK K C ∧ PySem.W.kitOne K (.ref C) (.ref c_TooMany) = some p.2
  is_Twice : ∀ p ∈ tab_is_Twice, ∀ C, mg p.1 = some (.ref C) → ExcK K C ∧ PySem.W.kitOne K (.ref C) (.ref c_Twice) = some p.2
  is_NoTie : ∀ p ∈ tab_is_NoTie, ∀ C, mg p.1 = some (.ref C) → ExcK K C ∧ PySem.W.kitOne K (.ref C) (.ref c_NoTie) = some p.2
  is_NoPlace : ∀ p ∈ tab_is_NoPlace, ∀ C, mg p.1 = some (.ref C) → ExcK K C ∧ PySem.W.kitOne K (.ref C) (.ref c_NoPlace) = some p.2
  is_Misfit : ∀ p ∈ tab_is_Misfit, ∀ C, mg p.1 = some (.ref C) → ExcK K C ∧ PySem.W.kitOne K (.ref C) (.ref c_Misfit) = some p.2
  is_BadLot : ∀ p ∈ tab_is_BadLot, ∀ C, mg p.1 = some (.ref C) → ExcK K C ∧ PySem.W.kitOne K (.ref C) (.ref c_BadLot) = some p.2
  is_BadTable : ∀ p ∈ tab_is_BadTable, ∀ C, mg p.1 = some (.ref C) → ExcK K C ∧ PySem.W.kitOne K (.ref C) (.ref c_BadTable) = some p.2
  is_BadWeb : ∀ p ∈ tab_is_BadWeb, ∀ C, mg p.1 = some (.ref C) → ExcK K C ∧ PySem.W.kitOne K (.ref C) (.ref c_BadWeb) = some p.2
  is_BadNumber : ∀ p ∈ tab_is_BadNumber, ∀ C, mg p.1 = some (.ref C) → ExcK K C ∧ PySem.W.kitOne K (.ref C) (.ref c_BadNumber) = some p.2
  is_LookupError_TypeError_ArithmeticError_AttributeError_RuntimeError : ∀ p ∈ tab_is_LookupError_TypeError_ArithmeticError_AttributeError_RuntimeError, ∀ C, mg p.1 = some (.ref C) → ExcK K C ∧ PySem.W.kitAny K (.ref C) [(.type "LookupError"), (.type "TypeError"), (.type "ArithmeticError"), (.type "AttributeError"), (.type "RuntimeError")] = some p.2
  is_NetError : ∀ p ∈ tab_is_NetError, ∀ C, mg p.1 = some (.ref C) → ExcK K C ∧ PySem.W.kitOne K (.ref C) (.ref c_NetError) = some p.2
  is_ValueError : ∀ p ∈ tab_is_ValueError, ∀ C, mg p.1 = some (.ref C) → ExcK K C ∧ PySem.W.kitOne K (.ref C) (.type "ValueError") = some p.2
  is_Missing : ∀ p ∈ tab_is_Missing, ∀ C, mg p.1 = some (.ref C) → ExcK K C ∧ PySem.W.kitOne K (.ref C) (.ref c_Missing) = some p.2
section
variable {P : Program} {w : World} {K : PySem.W.Frag} {mg : Str → Option Value} {base : Heap} {f__law_cruet f__law_dash f__law_kin f__law_one_of f__law_stands f__law_any f__law_parts_right f__law_fields_right f_law : Addr} {d__law_cruet d__law_dash d__law_kin d__law_one_of d__law_stands d__law_any d__law_parts_right d__law_fields_right d_law : FuncData} {c_Missing c_BadNumber c_BadWeb c_BadTable c_BadLot c_Misfit c_NoPlace c_NoTie c_Twice c_TooMany c_BadText c_NetError : Addr}
theorem b__law_cruet (T : Txt P K mg f__law_cruet f__law_dash f__law_kin f__law_one_of f__law_stands f__law_any f__law_parts_right f__law_fields_right f_law d__law_cruet d__law_dash d__law_kin d__law_one_of d__law_stands d__law_any d__law_parts_right d__law_fields_right d_law c_Missing c_BadNumber c_BadWeb c_BadTable c_BadLot c_Misfit c_NoPlace c_NoTie c_Twice c_TooMany c_BadText c_NetError) : Binds K d__law_cruet ["script"] [] := T.F__law_cruet.binds fun _ _ _ _ _ _ us hl => match us, hl with | [_], _ => rfl
theorem sc__law_cruet : FnScope N__law_cruet ["script"] (defScope st__law_cruet) := ⟨rfl, rfl, rfl, by decide +kernel, rfl, by decide +kernel, by decide +kernel⟩
theorem ok__law_cruet (T : Txt P K mg f__law_cruet f__law_dash f__law_kin f__law_one_of f__law_stands f__law_any f__law_parts_right f__law_fields_right f_law d__law_cruet d__law_dash d__law_kin d__law_one_of d__law_stands d__law_any d__law_parts_right d__law_fields_right d_law c_Missing c_BadNumber c_BadWeb c_BadTable c_BadLot c_Misfit c_NoPlace c_NoTie c_Twice c_TooMany c_BadText c_NetError) : FnG P w K mg base (L2.CX P w) 11 f__law_cruet d__law_cruet ["script"] (spM ⟨K, w, mg⟩ 1 m__law_cruet) :=
  fn_v (N := N__law_cruet) T.F__law_cruet sc__law_cruet (k := 10) (body := y__law_cruet) (fun cdv A outer s H E gd hr => (vss_one (vs_ret (ve_lst (rg := true) (va_cons (ve_lc (rg := false) (own := [("cell", 1)]) (is := [1]) (Wb := lft E0) rfl sc__law_cruet.nd (vi_seq (ve_sl (rg := false) sl_any sr_any (ve_var 0) vo_none (vo_some ve_int))) (blkOk_by (N := N__law_cruet) (sc := defScope st__law_cruet) (own := [("cell", 1)]) (by decide +kernel)) (by decide) (fun _ _ _ _ _ => (vg_name 1 sc__law_cruet.nd rfl (by first | exact Or.inl rfl | exact Or.inr rfl))) (fun _ _ _ _ _ => vts_nil) (fun _ _ _ _ _ => (ve_ct (rg := false) call_int1 cr_int rfl T.b_int (by decide +kernel) (va_cons (ve_var 1) va_nil)))) (va_cons ve_int (va_cons ve_int va_nil)))))))
theorem b__law_dash (T : Txt P K mg f__law_cruet f__law_dash f__law_kin f__law_one_of f__law_stands f__law_any f__law_parts_right f__law_fields_right f_law d__law_cruet d__law_dash d__law_kin d__law_one_of d__law_stands d__law_any d__law_parts_right d__law_fields_right d_law c_Missing c_BadNumber c_BadWeb c_BadTable c_BadLot c_Misfit c_NoPlace c_NoTie c_Twice c_TooMany c_BadText c_NetError) : Binds K d__law_dash ["cruet", "many"] [] := T.F__law_dash.binds fun _ _ _ _ _ _ us hl => match us, hl with | [_, _], _ => rfl
theorem sc__law_dash : FnScope N__law_dash ["cruet", "many"] (defScope st__law_dash) := ⟨rfl, rfl, rfl, by decide +kernel, rfl, by decide +kernel, by decide +kernel⟩
theorem ok__law_dash (T : Txt P K mg f__law_cruet f__law_dash f__law_kin f__law_one_of f__law_stands f__law_any f__law_parts_right f__law_fields_right f_law d__law_cruet d__law_dash d__law_kin d__law_one_of d__law_stands d__law_any d__law_parts_right d__law_fields_right d_law c_Missing c_BadNumber c_BadWeb c_BadTable c_BadLot c_Misfit c_NoPlace c_NoTie c_Twice c_TooMany c_BadText c_NetError) : FnG P w K mg base (L2.CX P w) 11 f__law_dash d__law_dash ["cruet", "many"] (spM ⟨K, w, mg⟩ 2 m__law_dash) :=
  fn_v (N := N__law_dash) T.F__law_dash sc__law_dash (k := 10) (body := y__law_dash) (fun cdv A outer s H E gd hr => (vss_cons (vs_if (vt_cmp op_gt br_cmp (ve_ix ix_seq br_ix (ve_var 0) ve_int (fun _ _ => rfl)) ve_int (nomark _)) (vss_cons (vs_set 5 sc__law_dash.nd rfl (by first | exact Or.inl rfl | exact Or.inr rfl) (ve_ct (rg := false) call_int1 cr_int rfl T.b_int (by decide +kernel) (va_cons (ve_ix ix_seq br_ix (ve_var 0) ve_int (fun _ _ => rfl)) va_nil)))
    (vss_cons (vs_setIx (ve_op (rg := false) op_divA br_div (ve_var 5) (ve_var 1)) (ve_var 0) ve_int)
    (vss_one (vs_ret (ve_op (rg := false) op_modN br_mod (ve_ct (rg := false) call_int1 cr_int rfl T.b_int (by decide +kernel) (va_cons (ve_var 5) va_nil)) (ve_var 1))))))
    vss_nil)
    (vss_cons (vs_set 2 sc__law_dash.nd rfl (by first | exact Or.inl rfl | exact Or.inr rfl) (ve_ix ix_seq br_ix (ve_var 0) ve_int (fun _ _ => rfl)))
    (vss_cons (vs_setIx (ve_op (rg := false) op_addA br_add (ve_var 2) ve_int) (ve_var 0) ve_int)
    (vss_cons (vs_set 3 sc__law_dash.nd rfl (by first | exact Or.inl rfl | exact Or.inr rfl) (ve_op (rg := false) op_addA br_add (ve_op (rg := false) op_mulA br_mul ve_int (ve_var 2)) ve_int))
    (vss_cons (vs_if (vt_cmp (op_neS (hr.mono (by decide))) br_neS (ve_ix ix_seq br_ix (ve_var 0) ve_int (fun _ _ => rfl)) (ve_lst (rg := false) va_nil) (nomark _)) (vss_one (vs_set 3 sc__law_dash.nd rfl (by first | exact Or.inl rfl | exact Or.inr rfl) (ve_ix ix_seq br_ix (ve_ix ix_seq br_ix (ve_var 0) ve_int (fun _ _ => rfl)) (ve_op (rg := false) op_modN br_mod (ve_ct (rg := false) call_int1 cr_int rfl T.b_int (by decide +kernel) (va_cons (ve_var 2) va_nil)) (ve_cb (rg := false) cl_len cr_len rfl T.b_len (by decide +kernel) (va_cons (ve_ix ix_seq br_ix (ve_var 0) ve_int (fun _ _ => rfl)) va_nil))) (fun _ _ => rfl))))
    vss_nil)
    (vss_cons (vs_if (VW.vt (vw_and (vt_cmp op_lt br_cmp (ve_var 2) (ve_cb (rg := false) cl_len cr_len rfl T.b_len (by decide +kernel) (va_cons (ve_ix ix_seq br_ix (ve_var 0) ve_int (fun _ _ => rfl)) va_nil)) (nomark _)) (vw_and1 (vt_cmp op_ge br_cmp (ve_cb (rg := false) call_abs cr_abs rfl T.b_abs (by decide +kernel) (va_cons (ve_var 3) va_nil)) (ve_op (rg := false) op_pow br_pow ve_int ve_int) (nomark _))))) (vss_cons (vs_set 5 sc__law_dash.nd rfl (by first | exact Or.inl rfl | exact Or.inr rfl) (ve_op (rg := false) op_addA br_add (ve_op (rg := false) op_mulA br_mul ve_int (ve_op (rg := false) op_sub br_sub (ve_cb (rg := false) call_abs cr_abs rfl T.b_abs (by decide +kernel) (va_cons (ve_ct (rg := false) call_int1 cr_int rfl T.b_int (by decide +kernel) (va_cons (ve_var 3) va_nil)) va_nil)) (ve_op (rg := false) op_pow br_pow ve_int ve_int))) (ve_ct (rg := false) call_int1 cr_int rfl T.b_int (by decide +kernel) (va_cons (ve_cmp op_lt br_cmp (ve_var 3) ve_int (nomark _)) va_nil))))
    (vss_cons (vs_setIx (ve_op (rg := false) op_divA br_div (ve_var 5) (ve_var 1)) (ve_var 0) ve_int)
    (vss_one (vs_ret (ve_op (rg := false) op_modN br_mod (ve_ct (rg := false) call_int1 cr_int rfl T.b_int (by decide +kernel) (va_cons (ve_var 5) va_nil)) (ve_var 1))))))
    vss_nil)
    (vss_cons (vs_set 4 sc__law_dash.nd rfl (by first | exact Or.inl rfl | exact Or.inr rfl) (ve_op (rg := false) op_modN br_mod (ve_ct (rg := false) call_int1 cr_int rfl T.b_int (by decide +kernel) (va_cons (ve_op (rg := false) op_pow br_pow (ve_op (rg := false) op_addA br_add (ve_op (rg := false) op_addA br_add (ve_op (rg := false) op_modN br_mod (ve_ct (rg := false) call_int1 cr_int rfl T.b_int (by decide +kernel) (va_cons (ve_var 3) va_nil)) ve_int) (ve_op (rg := false) op_mulA br_mul ve_int (ve_var 2))) ve_int) ve_int) va_nil)) ve_int))
    (vss_cons (vs_set 4 sc__law_dash.nd rfl (by first | exact Or.inl rfl | exact Or.inr rfl) (ve_op (rg := false) op_modN br_mod (ve_ct (rg := false) call_int1 cr_int rfl T.b_int (by decide +kernel) (va_cons (ve_op (rg := false) op_pow br_pow (ve_op (rg := false) op_addA br_add (ve_op (rg := false) op_addA br_add (ve_op (rg := false) op_mulA br_mul (ve_var 4) (ve_op (rg := false) op_addA br_add (ve_op (rg := false) op_mulA br_mul ve_int (ve_var 2)) ve_int)) (ve_op (rg := false) op_mulA br_mul (ve_op (rg := false) op_mulA br_mul ve_int (ve_var 2)) (ve_var 2))) ve_int) ve_int) va_nil)) ve_int))
    (vss_one (vs_ret (ve_op (rg := false) op_modN br_mod (ve_ct (rg := false) call_int1 cr_int rfl T.b_int (by decide +kernel) (va_cons (ve_op (rg := false) op_divA br_div (ve_var 4) ve_int) va_nil)) (ve_var 1)))))))))))))
theorem b__law_kin (T : Txt P K mg f__law_cruet f__law_dash f__law_kin f__law_one_of f__law_stands f__law_any f__law_parts_right f__law_fields_right f_law d__law_cruet d__law_dash d__law_kin d__law_one_of d__law_stands d__law_any d__law_parts_right d__law_fields_right d_law c_Missing c_BadNumber c_BadWeb c_BadTable c_BadLot c_Misfit c_NoPlace c_NoTie c_Twice c_TooMany c_BadText c_NetError) : Binds K d__law_kin ["error"] [] := T.F__law_kin.binds fun _ _ _ _ _ _ us hl => match us, hl with | [_], _ => rfl
theorem sc__law_kin : FnScope N__law_kin ["error"] (defScope st__law_kin) := ⟨rfl, rfl, rfl, by decide +kernel, rfl, by decide +kernel, by decide +kernel⟩
theorem ok__law_kin (T : Txt P K mg f__law_cruet f__law_dash f__law_kin f__law_one_of f__law_stands f__law_any f__law_parts_right f__law_fields_right f_law d__law_cruet d__law_dash d__law_kin d__law_one_of d__law_stands d__law_any d__law_parts_right d__law_fields_right d_law c_Missing c_BadNumber c_BadWeb c_BadTable c_BadLot c_Misfit c_NoPlace c_NoTie c_Twice c_TooMany c_BadText c_NetError) : FnG P w K mg base (L2.CX P w) 11 f__law_kin d__law_kin ["error"] (spM ⟨K, w, mg⟩ 1 m__law_kin) :=
  fn_v (N := N__law_kin) T.F__law_kin sc__law_kin (k := 10) (body := y__law_kin) (fun cdv A outer s H E gd hr => (vss_cons (vs_set 1 sc__law_kin.nd rfl (by first | exact Or.inl rfl | exact Or.inr rfl) (ve_lst (rg := false) (va_cons (ve_isiE tab_is_BadNumber rfl T.b_isinstance (ve_var 0) (pty_own rfl T.M_BadNumber) T.is_BadNumber) (va_cons (ve_isiE tab_is_BadWeb rfl T.b_isinstance (ve_var 0) (pty_own rfl T.M_BadWeb) T.is_BadWeb) (va_cons (ve_isiE tab_is_BadTable rfl T.b_isinstance (ve_var 0) (pty_own rfl T.M_BadTable) T.is_BadTable) (va_cons (ve_isiE tab_is_BadLot rfl T.b_isinstance (ve_var 0) (pty_own rfl T.M_BadLot) T.is_BadLot) (va_cons (ve_isiE tab_is_Misfit rfl T.b_isinstance (ve_var 0) (pty_own rfl T.M_Misfit) T.is_Misfit) va_nil)))))))
    (vss_cons (vs_set 1 sc__law_kin.nd rfl (by first | exact Or.inl rfl | exact Or.inr rfl) (ve_op (rg := false) op_addA br_add (ve_var 1) (ve_lst (rg := false) (va_cons (ve_isiE tab_is_NoPlace rfl T.b_isinstance (ve_var 0) (pty_own rfl T.M_NoPlace) T.is_NoPlace) (va_cons (ve_isiE tab_is_NoTie rfl T.b_isinstance (ve_var 0) (pty_own rfl T.M_NoTie) T.is_NoTie) (va_cons (ve_isiE tab_is_Twice rfl T.b_isinstance (ve_var 0) (pty_own rfl T.M_Twice) T.is_Twice) (va_cons (ve_isiE tab_is_TooMany rfl T.b_isinstance (ve_var 0) (pty_own rfl T.M_TooMany) T.is_TooMany) va_nil)))))))
    (vss_one (vs_ret (ve_op (rg := false) op_addA br_add (ve_var 1) (ve_lst (rg := false) (va_cons (ve_isiE tab_is_BadText rfl T.b_isinstance (ve_var 0) (pty_own rfl T.M_BadText) T.is_BadText) va_nil))))))))
theorem b__law_one_of (T : Txt P K mg f__law_cruet f__law_dash f__law_kin f__law_one_of f__law_stands f__law_any f__law_parts_right f__law_fields_right f_law d__law_cruet d__law_dash d__law_kin d__law_one_of d__law_stands d__law_any d__law_parts_right d__law_fields_right d_law c_Missing c_BadNumber c_BadWeb c_BadTable c_BadLot c_Misfit c_NoPlace c_NoTie c_Twice c_TooMany c_BadText c_NetError) : Binds K d__law_one_of ["cruet", "some"] [] := T.F__law_one_of.binds fun _ _ _ _ _ _ us hl => match us, hl with | [_, _], _ => rfl
theorem sc__law_one_of : FnScope N__law_one_of ["cruet", "some"] (defScope st__law_one_of) := ⟨rfl, rfl, rfl, by decide +kernel, rfl, by decide +kernel, by decide +kernel⟩
theorem ok__law_one_of (T : Txt P K mg f__law_cruet f__law_dash f__law_kin f__law_one_of f__law_stands f__law_any f__law_parts_right f__law_fields_right f_law d__law_cruet d__law_dash d__law_kin d__law_one_of d__law_stands d__law_any d__law_parts_right d__law_fields_right d_law c_Missing c_BadNumber c_BadWeb c_BadTable c_BadLot c_Misfit c_NoPlace c_NoTie c_Twice c_TooMany c_BadText c_NetError) : FnG P w K mg base (L2.CX P w) 12 f__law_one_of d__law_one_of ["cruet", "some"] (spM ⟨K, w, mg⟩ 2 m__law_one_of) :=
  fn_v (N := N__law_one_of) T.F__law_one_of sc__law_one_of (k := 11) (body := y__law_one_of) (fun cdv A outer s H E gd hr => (vss_one (vs_ret (ve_ix ix_seq br_ix (ve_var 1) (ve_call (ok__law_dash T) gd (hr.mono (by decide)) rfl T.M__law_dash T.F__law_dash.kp (b__law_dash T) passesE (va_cons (ve_var 0) (va_cons (ve_cb (rg := false) cl_len cr_len rfl T.b_len (by decide +kernel) (va_cons (ve_var 1) va_nil)) va_nil)) (len_cons (len_cons len_nil))) (fun _ _ => rfl)))))
theorem b__law_stands (T : Txt P K mg f__law_cruet f__law_dash f__law_kin f__law_one_of f__law_stands f__law_any f__law_parts_right f__law_fields_right f_law d__law_cruet d__law_dash d__law_kin d__law_one_of d__law_stands d__law_any d__law_parts_right d__law_fields_right d_law c_Missing c_BadNumber c_BadWeb c_BadTable c_BadLot c_Misfit c_NoPlace c_NoTie c_Twice c_TooMany c_BadText c_NetError) : Binds K d__law_stands ["error", "at"] [] := T.F__law_stands.binds fun _ _ _ _ _ _ us hl => match us, hl with | [_, _], _ => rfl
theorem sc__law_stands : FnScope N__law_stands ["error", "at"] (defScope st__law_stands) := ⟨rfl, rfl, rfl, by decide +kernel, rfl, by decide +kernel, by decide +kernel⟩
theorem ok__law_stands (T : Txt P K mg f__law_cruet f__law_dash f__law_kin f__law_one_of f__law_stands f__law_any f__law_parts_right f__law_fields_right f_law d__law_cruet d__law_dash d__law_kin d__law_one_of d__law_stands d__law_any d__law_parts_right d__law_fields_right d_law c_Missing c_BadNumber c_BadWeb c_BadTable c_BadLot c_Misfit c_NoPlace c_NoTie c_Twice c_TooMany c_BadText c_NetError) : FnG P w K mg base (L2.CX P w) 12 f__law_stands d__law_stands ["error", "at"] (spM ⟨K, w, mg⟩ 2 m__law_stands) :=
  fn_v (N := N__law_stands) T.F__law_stands sc__law_stands (k := 11) (body := y__law_stands) (fun cdv A outer s H E gd hr => (vss_cons (vs_if (VW.vt (vw_or (vt_not (vt_tru (ve_isiE tab_is_NetError rfl T.b_isinstance (ve_var 0) (pty_own rfl T.M_NetError) T.is_NetError))) (vw_or (vt_not (vt_tru (ve_isiE tab_is_ValueError rfl T.b_isinstance (ve_var 0) (pty rfl T.b_ValueError (by decide +kernel)) T.is_ValueError))) (vw_or1 (vt_cmp (op_neS (hr.mono (by decide))) br_neS (ve_isiE tab_is_Missing rfl T.b_isinstance (ve_var 0) (pty_own rfl T.M_Missing) T.is_Missing) (ve_cmp op_in_seq br_inT (ve_var 1) (ve_tup (va_cons ve_int (va_cons ve_int va_nil))) (by with_unfolding_all rfl)) (nomark _)))))) (vss_one (vs_ret ve_bl))
    vss_nil)
    (vss_cons (vs_if (vt_tru (ve_isiTE tab_is_LookupError_TypeError_ArithmeticError_AttributeError_RuntimeError rfl T.b_isinstance (ve_var 0) (PTys.cons (pty rfl T.b_LookupError (by decide +kernel)) (PTys.cons (pty rfl T.b_TypeError (by decide +kernel)) (PTys.cons (pty rfl T.b_ArithmeticError (by decide +kernel)) (PTys.cons (pty rfl T.b_AttributeError (by decide +kernel)) (PTys.cons (pty rfl T.b_RuntimeError (by decide +kernel)) PTys.nil (by rfl)) (by rfl)) (by rfl)) (by rfl)) (by rfl)) (by show 5 ≤ 1000; decide) T.is_LookupError_TypeError_ArithmeticError_AttributeError_RuntimeError)) (vss_one (vs_ret ve_bl))
    vss_nil)
    (vss_one (vs_ret (ve_cmp (op_eqD (u64 hr)) br_eq (ve_call (ok__law_kin T) gd (hr.mono (by decide)) rfl T.M__law_kin T.F__law_kin.kp (b__law_kin T) passesE (va_cons (ve_var 0) va_nil) (len_cons len_nil)) (ve_lc (rg := false) (own := [("spot", 2)]) (is := [2]) (Wb := lft E0) rfl sc__law_stands.nd (vi_range1 rfl T.b_range (va_cons ve_int va_nil)) (blkOk_by (N := N__law_stands) (sc := defScope st__law_stands) (own := [("spot", 2)]) (by decide +kernel)) (by decide) (fun _ _ _ _ _ => (vg_name 2 sc__law_stands.nd rfl (by first | exact Or.inl rfl | exact Or.inr rfl))) (fun _ _ _ _ _ => vts_nil) (fun _ _ _ _ _ => (ve_cmp (op_eqD (u64 hr)) br_eq (ve_var 2) (ve_var 1) (nomark _)))) (nomark _)))))))
theorem b__law_any (T : Txt P K mg f__law_cruet f__law_dash f__law_kin f__law_one_of f__law_stands f__law_any f__law_parts_right f__law_fields_right f_law d__law_cruet d__law_dash d__law_kin d__law_one_of d__law_stands d__law_any d__law_parts_right d__law_fields_right d_law c_Missing c_BadNumber c_BadWeb c_BadTable c_BadLot c_Misfit c_NoPlace c_NoTie c_Twice c_TooMany c_BadText c_NetError) : Binds K d__law_any ["cruet"] [] := T.F__law_any.binds fun _ _ _ _ _ _ us hl => match us, hl with | [_], _ => rfl
theorem sc__law_any : FnScope N__law_any ["cruet"] (defScope st__law_any) := ⟨rfl, rfl, rfl, by decide +kernel, rfl, by decide +kernel, by decide +kernel⟩
theorem ok__law_any (T : Txt P K mg f__law_cruet f__law_dash f__law_kin f__law_one_of f__law_stands f__law_any f__law_parts_right f__law_fields_right f_law d__law_cruet d__law_dash d__law_kin d__law_one_of d__law_stands d__law_any d__law_parts_right d__law_fields_right d_law c_Missing c_BadNumber c_BadWeb c_BadTable c_BadLot c_Misfit c_NoPlace c_NoTie c_Twice c_TooMany c_BadText c_NetError) : FnG P w K mg base (L2.CX P w) 13 f__law_any d__law_any ["cruet"] (spM ⟨K, w, mg⟩ 1 m__law_any) :=
  fn_v (N := N__law_any) T.F__law_any sc__law_any (k := 12) (body := y__law_any) (fun cdv A outer s H E gd hr => (vss_cons (vs_set 1 sc__law_any.nd rfl (by first | exact Or.inl rfl | exact Or.inr rfl) (ve_call (ok__law_dash T) gd (hr.mono (by decide)) rfl T.M__law_dash T.F__law_dash.kp (b__law_dash T) passesE (va_cons (ve_var 0) (va_cons ve_int va_nil)) (len_cons (len_cons len_nil))))
    (vss_cons (vs_set 2 sc__law_any.nd rfl (by first | exact Or.inl rfl | exact Or.inr rfl) (ve_lst (rg := false) (va_cons (ve_var 1) (va_cons (ve_op (rg := false) op_sub br_sub (ve_un un_neg ur_neg (ve_op (rg := false) op_pow br_pow ve_int ve_int)) (ve_var 1)) (va_cons (ve_op (rg := false) op_addA br_add ve_str (ve_ct (rg := false) call_str_int cr_str rfl T.b_str (by decide +kernel) (va_cons (ve_var 1) va_nil))) (va_cons ve_str (va_cons ve_non (va_cons ve_bl (va_cons (ve_lst (rg := false) (va_cons (ve_var 1) (va_cons (ve_tup (va_cons ve_non va_nil)) va_nil))) (va_cons (ve_tup (va_cons (ve_var 1) (va_cons (ve_lst (rg := false) (va_cons (ve_var 1) va_nil)) va_nil))) (va_cons (ve_dnew (rg := false)) (va_cons (ve_lst (rg := false) va_nil) (va_cons (ve_dispV 1) va_nil)))))))))))))
    (vss_one (vs_ret (ve_call (ok__law_one_of T) gd (hr.mono (by decide)) rfl T.M__law_one_of T.F__law_one_of.kp (b__law_one_of T) passesE (va_cons (ve_var 0) (va_cons (ve_var 2) va_nil)) (len_cons (len_cons len_nil))))))))
theorem b__law_parts_right (T : Txt P K mg f__law_cruet f__law_dash f__law_kin f__law_one_of f__law_stands f__law_any f__law_parts_right f__law_fields_right f_law d__law_cruet d__law_dash d__law_kin d__law_one_of d__law_stands d__law_any d__law_parts_right d__law_fields_right d_law c_Missing c_BadNumber c_BadWeb c_BadTable c_BadLot c_Misfit c_NoPlace c_NoTie c_Twice c_TooMany c_BadText c_NetError) : Binds K d__law_parts_right ["one"] [] := T.F__law_parts_right.binds fun _ _ _ _ _ _ us hl => match us, hl with | [_], _ => rfl
theorem sc__law_parts_right : FnScope N__law_parts_right ["one"] (defScope st__law_parts_right) := ⟨rfl, rfl, rfl, by decide +kernel, rfl, by decide +kernel, by decide +kernel⟩
theorem ok__law_parts_right (T : Txt P K mg f__law_cruet f__law_dash f__law_kin f__law_one_of f__law_stands f__law_any f__law_parts_right f__law_fields_right f_law d__law_cruet d__law_dash d__law_kin d__law_one_of d__law_stands d__law_any d__law_parts_right d__law_fields_right d_law c_Missing c_BadNumber c_BadWeb c_BadTable c_BadLot c_Misfit c_NoPlace c_NoTie c_Twice c_TooMany c_BadText c_NetError) : FnG P w K mg base (L2.CX P w) 13 f__law_parts_right d__law_parts_right ["one"] (spM ⟨K, w, mg⟩ 1 m__law_parts_right) :=
  fn_v (N := N__law_parts_right) T.F__law_parts_right sc__law_parts_right (k := 12) (body := y__law_parts_right) (fun cdv A outer s H E gd hr => (vss_cons (vs_set 1 sc__law_parts_right.nd rfl (by first | exact Or.inl rfl | exact Or.inr rfl) (ve_lst (rg := false) (va_cons (ve_mk (xs := ["part"]) (perm := [0]) (k := 2) T.mk_BadNumber_1_ sb_BadNumber T.no_BadNumber (hr.mono (by decide)) rfl T.M_BadNumber (va_cons (ve_var 0) va_nil) (len_cons len_nil) (by decide)) (va_cons (ve_mk (xs := ["part"]) (perm := [0]) (k := 2) T.mk_BadWeb_1_ sb_BadWeb T.no_BadWeb (hr.mono (by decide)) rfl T.M_BadWeb (va_cons (ve_var 0) va_nil) (len_cons len_nil) (by decide)) (va_cons (ve_mk (xs := ["part"]) (perm := [0]) (k := 2) T.mk_BadTable_1_ sb_BadTable T.no_BadTable (hr.mono (by decide)) rfl T.M_BadTable (va_cons (ve_var 0) va_nil) (len_cons len_nil) (by decide)) (va_cons (ve_mk (xs := ["part"]) (perm := [0]) (k := 2) T.mk_BadLot_1_ sb_BadLot T.no_BadLot (hr.mono (by decide)) rfl T.M_BadLot (va_cons (ve_var 0) va_nil) (len_cons len_nil) (by decide)) (va_cons (ve_mk (xs := ["part"]) (perm := [0]) (k := 2) T.mk_Misfit_1_ sb_Misfit T.no_Misfit (hr.mono (by decide)) rfl T.M_Misfit (va_cons (ve_var 0) va_nil) (len_cons len_nil) (by decide)) va_nil)))))))
    (vss_cons (vs_set 2 sc__law_parts_right.nd rfl (by first | exact Or.inl rfl | exact Or.inr rfl) (ve_lst (rg := false) (va_cons (ve_mkK (xs := ["part"]) (ks := ["part"]) (perm := [0]) (k := 2) T.mk_BadNumber_0_part sb_BadNumber T.no_BadNumber (hr.mono (by decide)) rfl T.M_BadNumber (vk_cons (ve_var 0) vk_nil) (len_cons len_nil)) (va_cons (ve_mkK (xs := ["part"]) (ks := ["part"]) (perm := [0]) (k := 2) T.mk_BadWeb_0_part sb_BadWeb T.no_BadWeb (hr.mono (by decide)) rfl T.M_BadWeb (vk_cons (ve_var 0) vk_nil) (len_cons len_nil)) (va_cons (ve_mkK (xs := ["part"]) (ks := ["part"]) (perm := [0]) (k := 2) T.mk_BadTable_0_part sb_BadTable T.no_BadTable (hr.mono (by decide)) rfl T.M_BadTable (vk_cons (ve_var 0) vk_nil) (len_cons len_nil)) (va_cons (ve_mkK (xs := ["part"]) (ks := ["part"]) (perm := [0]) (k := 2) T.mk_BadLot_0_part sb_BadLot T.no_BadLot (hr.mono (by decide)) rfl T.M_BadLot (vk_cons (ve_var 0) vk_nil) (len_cons len_nil)) (va_cons (ve_mkK (xs := ["part"]) (ks := ["part"]) (perm := [0]) (k := 2) T.mk_Misfit_0_part sb_Misfit T.no_Misfit (hr.mono (by decide)) rfl T.M_Misfit (vk_cons (ve_var 0) vk_nil) (len_cons len_nil)) va_nil)))))))
    (vss_cons (vs_for (passes_of rfl) rfl (vi_range1 rfl T.b_range (va_cons ve_int va_nil)) (vg_name 3 sc__law_parts_right.nd rfl (by first | exact Or.inl rfl | exact Or.inr rfl))
    (vss_one (vs_for (passes_of rfl) rfl (vi_seq (ve_tup (va_cons (ve_ix ix_seq br_ix (ve_var 1) (ve_var 3) (fun _ _ => rfl)) (va_cons (ve_ix ix_seq br_ix (ve_var 2) (ve_var 3) (fun _ _ => rfl)) va_nil)))) (vg_name 4 sc__law_parts_right.nd rfl (by first | exact Or.inl rfl | exact Or.inr rfl))
    (vss_one (vs_if (VW.vt (vw_or (vt_cmp (op_neS (hr.mono (by decide))) br_neS (ve_fldE T.fl_part (ve_var 4)) (ve_var 0) (nomark _)) (vw_or1 (vt_not (vt_tru (ve_call (ok__law_stands T) gd (hr.mono (by decide)) rfl T.M__law_stands T.F__law_stands.kp (b__law_stands T) passesE (va_cons (ve_var 4) (va_cons (ve_var 3) va_nil)) (len_cons (len_cons len_nil)))))))) (vss_one (vs_ret ve_bl))
    vss_nil)))))
    (vss_one (vs_ret ve_bl))))))
theorem b__law_fields_right (T : Txt P K mg f__law_cruet f__law_dash f__law_kin f__law_one_of f__law_stands f__law_any f__law_parts_right f__law_fields_right f_law d__law_cruet d__law_dash d__law_kin d__law_one_of d__law_stands d__law_any d__law_parts_right d__law_fields_right d_law c_Missing c_BadNumber c_BadWeb c_BadTable c_BadLot c_Misfit c_NoPlace c_NoTie c_Twice c_TooMany c_BadText c_NetError) : Binds K d__law_fields_right ["one", "other"] [] := T.F__law_fields_right.binds fun _ _ _ _ _ _ us hl => match us, hl with | [_, _], _ => rfl
theorem sc__law_fields_right : FnScope N__law_fields_right ["one", "other"] (defScope st__law_fields_right) := ⟨rfl, rfl, rfl, by decide +kernel, rfl, by decide +kernel, by decide +kernel⟩
theorem ok__law_fields_right (T : Txt P K mg f__law_cruet f__law_dash f__law_kin f__law_one_of f__law_stands f__law_any f__law_parts_right f__law_fields_right f_law d__law_cruet d__law_dash d__law_kin d__law_one_of d__law_stands d__law_any d__law_parts_right d__law_fields_right d_law c_Missing c_BadNumber c_BadWeb c_BadTable c_BadLot c_Misfit c_NoPlace c_NoTie c_Twice c_TooMany c_BadText c_NetError) : FnG P w K mg base (L2.CX P w) 13 f__law_fields_right d__law_fields_right ["one", "other"] (spM ⟨K, w, mg⟩ 2 m__law_fields_right) :=
  fn_v (N := N__law_fields_right) T.F__law_fields_right sc__law_fields_right (k := 12) (body := y__law_fields_right) (fun cdv A outer s H E gd hr => (vss_cons (vs_set 2 sc__law_fields_right.nd rfl (by first | exact Or.inl rfl | exact Or.inr rfl) (ve_lst (rg := false) (va_cons (ve_mk (xs := ["value"]) (perm := [0]) (k := 2) T.mk_NoPlace_1_ sb_Missing T.no_NoPlace (hr.mono (by decide)) rfl T.M_NoPlace (va_cons (ve_var 0) va_nil) (len_cons len_nil) (by decide)) (va_cons (ve_mk (xs := ["value"]) (perm := [0]) (k := 2) T.mk_NoTie_1_ sb_Missing T.no_NoTie (hr.mono (by decide)) rfl T.M_NoTie (va_cons (ve_var 0) va_nil) (len_cons len_nil) (by decide)) (va_cons (ve_mk (xs := ["value"]) (perm := [0]) (k := 2) T.mk_Twice_1_ sb_Twice T.no_Twice (hr.mono (by decide)) rfl T.M_Twice (va_cons (ve_var 0) va_nil) (len_cons len_nil) (by decide)) (va_cons (ve_mkK (xs := ["value"]) (ks := ["value"]) (perm := [0]) (k := 2) T.mk_NoPlace_0_value sb_Missing T.no_NoPlace (hr.mono (by decide)) rfl T.M_NoPlace (vk_cons (ve_var 0) vk_nil) (len_cons len_nil)) (va_cons (ve_mkK (xs := ["value"]) (ks := ["value"]) (perm := [0]) (k := 2) T.mk_NoTie_0_value sb_Missing T.no_NoTie (hr.mono (by decide)) rfl T.M_NoTie (vk_cons (ve_var 0) vk_nil) (len_cons len_nil)) (va_cons (ve_mkK (xs := ["value"]) (ks := ["value"]) (perm := [0]) (k := 2) T.mk_Twice_0_value sb_Twice T.no_Twice (hr.mono (by decide)) rfl T.M_Twice (vk_cons (ve_var 0) vk_nil) (len_cons len_nil)) va_nil))))))))
    (vss_cons (vs_for (passes_of rfl) rfl (vi_enum rfl T.b_enumerate (va_cons (ve_var 2) va_nil)) (vg_tup rfl (vgs_cons (vg_name 3 sc__law_fields_right.nd rfl (by first | exact Or.inl rfl | exact Or.inr rfl)) (vgs_cons (vg_name 4 sc__law_fields_right.nd rfl (by first | exact Or.inl rfl | exact Or.inr rfl)) vgs_nil)) (hlen := (gConsF_len (gConsF_len (fun _ _ h => gNilF_len h)))))
    (vss_one (vs_if (VW.vt (vw_or (vt_cmp (op_neS (hr.mono (by decide))) br_neS (ve_fldE T.fl_value (ve_var 4)) (ve_var 0) (nomark _)) (vw_or1 (vt_not (vt_tru (ve_call (ok__law_stands T) gd (hr.mono (by decide)) rfl T.M__law_stands T.F__law_stands.kp (b__law_stands T) passesE (va_cons (ve_var 4) (va_cons (ve_op (rg := false) op_addA br_add ve_int (ve_op (rg := false) op_modN br_mod (ve_ct (rg := false) call_int1 cr_int rfl T.b_int (by decide +kernel) (va_cons (ve_var 3) va_nil)) ve_int)) va_nil)) (len_cons (len_cons len_nil)))))))) (vss_one (vs_ret ve_bl))
    vss_nil)))
    (vss_cons (vs_set 5 sc__law_fields_right.nd rfl (by first | exact Or.inl rfl | exact Or.inr rfl) (ve_mkK (xs := ["value"]) (ks := ["value"]) (perm := [0]) (k := 2) T.mk_Missing_0_value sb_Missing T.no_Missing (hr.mono (by decide)) rfl T.M_Missing (vk_cons (ve_var 0) vk_nil) (len_cons len_nil)))
    (vss_cons (vs_if (VW.vt (vw_or (vt_cmp (op_neS (hr.mono (by decide))) br_neS (ve_fldE T.fl_value (ve_var 5)) (ve_var 0) (nomark _)) (vw_or (vt_cmp (op_neS (hr.mono (by decide))) br_neS (ve_fldE T.fl_value (ve_mk (xs := ["value"]) (perm := [0]) (k := 2) T.mk_Missing_1_ sb_Missing T.no_Missing (hr.mono (by decide)) rfl T.M_Missing (va_cons (ve_var 1) va_nil) (len_cons len_nil) (by decide))) (ve_var 1) (nomark _)) (vw_or (vt_cmp (op_neS (hr.mono (by decide))) br_neS (ve_call (ok__law_kin T) gd (hr.mono (by decide)) rfl T.M__law_kin T.F__law_kin.kp (b__law_kin T) passesE (va_cons (ve_var 5) va_nil) (len_cons len_nil)) (ve_op (rg := false) op_mulA br_mul (ve_lst (rg := false) (va_cons ve_bl va_nil)) ve_int) (nomark _)) (vw_or1 (vt_not (vt_tru (ve_isiE tab_is_NetError rfl T.b_isinstance (ve_var 5) (pty_own rfl T.M_NetError) T.is_NetError)))))))) (vss_one (vs_ret ve_bl))
    vss_nil)
    (vss_cons (vs_for (passes_of rfl) rfl (vi_seq (ve_tup (va_cons (ve_mk (xs := ["what", "most"]) (perm := [0, 1]) (k := 2) T.mk_TooMany_2_ sb_TooMany T.no_TooMany (hr.mono (by decide)) rfl T.M_TooMany (va_cons (ve_var 0) (va_cons (ve_var 1) va_nil)) (len_cons (len_cons len_nil)) (by decide)) (va_cons (ve_mkK (xs := ["what", "most"]) (ks := ["most", "what"]) (perm := [1, 0]) (k := 2) T.mk_TooMany_0_most_what sb_TooMany T.no_TooMany (hr.mono (by decide)) rfl T.M_TooMany (vk_cons (ve_var 1) (vk_cons (ve_var 0) vk_nil)) (len_cons (len_cons len_nil))) va_nil)))) (vg_name 4 sc__law_fields_right.nd rfl (by first | exact Or.inl rfl | exact Or.inr rfl))
    (vss_one (vs_if (VW.vt (vw_or (vt_cmp (op_neS (hr.mono (by decide))) br_neS (ve_lst (rg := false) (va_cons (ve_fldE T.fl_what (ve_var 4)) (va_cons (ve_fldE T.fl_most (ve_var 4)) va_nil))) (ve_lst (rg := false) (va_cons (ve_var 0) (va_cons (ve_var 1) va_nil))) (nomark _)) (vw_or1 (vt_not (vt_tru (ve_call (ok__law_stands T) gd (hr.mono (by decide)) rfl T.M__law_stands T.F__law_stands.kp (b__law_stands T) passesE (va_cons (ve_var 4) (va_cons ve_int va_nil)) (len_cons (len_cons len_nil)))))))) (vss_one (vs_ret ve_bl))
    vss_nil)))
    (vss_cons (vs_for (passes_of rfl) rfl (vi_seq (ve_tup (va_cons (ve_mk (xs := ["line", "item"]) (perm := [0, 1]) (k := 2) T.mk_BadText_2_ sb_BadText T.no_BadText (hr.mono (by decide)) rfl T.M_BadText (va_cons (ve_var 0) (va_cons (ve_var 1) va_nil)) (len_cons (len_cons len_nil)) (by decide)) (va_cons (ve_mkK (xs := ["line", "item"]) (ks := ["item", "line"]) (perm := [1, 0]) (k := 2) T.mk_BadText_0_item_line sb_BadText T.no_BadText (hr.mono (by decide)) rfl T.M_BadText (vk_cons (ve_var 1) (vk_cons (ve_var 0) vk_nil)) (len_cons (len_cons len_nil))) va_nil)))) (vg_name 4 sc__law_fields_right.nd rfl (by first | exact Or.inl rfl | exact Or.inr rfl))
    (vss_one (vs_if (VW.vt (vw_or (vt_cmp (op_neS (hr.mono (by decide))) br_neS (ve_lst (rg := false) (va_cons (ve_fldE T.fl_line (ve_var 4)) (va_cons (ve_fldE T.fl_item (ve_var 4)) va_nil))) (ve_lst (rg := false) (va_cons (ve_var 0) (va_cons (ve_var 1) va_nil))) (nomark _)) (vw_or1 (vt_not (vt_tru (ve_call (ok__law_stands T) gd (hr.mono (by decide)) rfl T.M__law_stands T.F__law_stands.kp (b__law_stands T) passesE (va_cons (ve_var 4) (va_cons ve_int va_nil)) (len_cons (len_cons len_nil)))))))) (vss_one (vs_ret ve_bl))
    vss_nil)))
    (vss_one (vs_ret ve_bl)))))))))
theorem b_law (T : Txt P K mg f__law_cruet f__law_dash f__law_kin f__law_one_of f__law_stands f__law_any f__law_parts_right f__law_fields_right f_law d__law_cruet d__law_dash d__law_kin d__law_one_of d__law_stands d__law_any d__law_parts_right d__law_fields_right d_law c_Missing c_BadNumber c_BadWeb c_BadTable c_BadLot c_Misfit c_NoPlace c_NoTie c_Twice c_TooMany c_BadText c_NetError) : Binds K d_law ["script"] [] := T.F_law.binds fun _ _ _ _ _ _ us hl => match us, hl with | [_], _ => rfl
theorem sc_law : FnScope N_law ["script"] (defScope st_law) := ⟨rfl, rfl, rfl, by decide +kernel, rfl, by decide +kernel, by decide +kernel⟩
theorem ok_law (T : Txt P K mg f__law_cruet f__law_dash f__law_kin f__law_one_of f__law_stands f__law_any f__law_parts_right f__law_fields_right f_law d__law_cruet d__law_dash d__law_kin d__law_one_of d__law_stands d__law_any d__law_parts_right d__law_fields_right d_law c_Missing c_BadNumber c_BadWeb c_BadTable c_BadLot c_Misfit c_NoPlace c_NoTie c_Twice c_TooMany c_BadText c_NetError) : FnG P w K mg base (L2.CX P w) 14 f_law d_law ["script"] (spM ⟨K, w, mg⟩ 1 m_law) :=
  fn_v (N := N_law) T.F_law sc_law (k := 13) (body := y_law) (fun cdv A outer s H E gd hr => (vss_cons (vs_set 1 sc_law.nd rfl (by first | exact Or.inl rfl | exact Or.inr rfl) (ve_call (ok__law_cruet T) gd (hr.mono (by decide)) rfl T.M__law_cruet T.F__law_cruet.kp (b__law_cruet T) passesE (va_cons (ve_var 0) va_nil) (len_cons len_nil)))
    (vss_cons (vs_for (passes_of rfl) rfl (vi_range1 rfl T.b_range (va_cons ve_int va_nil)) (vg_name 2 sc_law.nd rfl (by first | exact Or.inl rfl | exact Or.inr rfl))
    (vss_cons (vs_par 3 4 rfl sc_law.nd rfl rfl (by decide) rfl rfl (va_cons (ve_call (ok__law_any T) gd (hr.mono (by decide)) rfl T.M__law_any T.F__law_any.kp (b__law_any T) passesE (va_cons (ve_var 1) va_nil) (len_cons len_nil)) (va_cons (ve_call (ok__law_any T) gd (hr.mono (by decide)) rfl T.M__law_any T.F__law_any.kp (b__law_any T) passesE (va_cons (ve_var 1) va_nil) (len_cons len_nil)) va_nil)) (by rfl))
    (vss_one (vs_if (VW.vt (vw_or (vt_not (vt_tru (ve_call (ok__law_parts_right T) gd (hr.mono (by decide)) rfl T.M__law_parts_right T.F__law_parts_right.kp (b__law_parts_right T) passesE (va_cons (ve_var 3) va_nil) (len_cons len_nil)))) (vw_or1 (vt_not (vt_tru (ve_call (ok__law_fields_right T) gd (hr.mono (by decide)) rfl T.M__law_fields_right T.F__law_fields_right.kp (b__law_fields_right T) passesE (va_cons (ve_var 3) (va_cons (ve_var 4) va_nil)) (len_cons (len_cons len_nil)))))))) (vss_one (vs_ret ve_bl))
    vss_nil))))
    (vss_one (vs_ret ve_bl)))))
end
theorem all_mk {w : World} {K : PySem.W.Frag} {h : Heap} {mg : Str → Option Value} {fa f__law_cruet f__law_dash f__law_kin f__law_one_of f__law_stands f__law_any f__law_parts_right f__law_fields_right f_law c_Missing c_BadNumber c_BadWeb c_BadTable c_BadLot c_Misfit c_NoPlace c_NoTie c_Twice c_TooMany c_BadText c_NetError : Addr} (X : K.In h) (G : h.Ns mainGlobals mg) (hfa : mg "law" = some (.ref fa))
    {od__law_cruet an__law_cruet : Option Addr} {sl__law_cruet : Array (Option Value)} {oc__law_cruet kV__law_cruet dc__law_cruet pm__law_cruet cd__law_cruet ct__law_cruet : Value}
    (a__law_cruet : PySem.W.nsIn K mainGlobals "_law_cruet" = some (some (.ref f__law_cruet)))
    (l__law_cruet : K.lookup f__law_cruet = some ⟨oc__law_cruet, od__law_cruet, .func (PySem.W.fnOf "_law_cruet" "_law_cruet" (defArgs st__law_cruet) (defBody st__law_cruet) (defScope st__law_cruet) .none kV__law_cruet dc__law_cruet pm__law_cruet an__law_cruet cd__law_cruet ct__law_cruet), sl__law_cruet⟩)
    (c__law_cruet : PySem.W.codeIn K cd__law_cruet "_law_cruet" = true)
    (k__law_cruet : PySem.W.keepIn K (.ref f__law_cruet) = true)
    {od__law_dash an__law_dash : Option Addr} {sl__law_dash : Array (Option Value)} {oc__law_dash kV__law_dash dc__law_dash pm__law_dash cd__law_dash ct__law_dash : Value}
    (a__law_dash : PySem.W.nsIn K mainGlobals "_law_dash" = some (some (.ref f__law_dash)))
    (l__law_dash : K.lookup f__law_dash = some ⟨oc__law_dash, od__law_dash, .func (PySem.W.fnOf "_law_dash" "_law_dash" (defArgs st__law_dash) (defBody st__law_dash) (defScope st__law_dash) .none kV__law_dash dc__law_dash pm__law_dash an__law_dash cd__law_dash ct__law_dash), sl__law_dash⟩)
    (c__law_dash : PySem.W.codeIn K cd__law_dash "_law_dash" = true)
    (k__law_dash : PySem.W.keepIn K (.ref f__law_dash) = true)
    {od__law_kin an__law_kin : Option Addr} {sl__law_kin : Array (Option Value)} {oc__law_kin kV__law_kin dc__law_kin pm__law_kin cd__law_kin ct__law_kin : Value}
    (a__law_kin : PySem.W.nsIn K mainGlobals "_law_kin" = some (some (.ref f__law_kin)))
    (l__law_kin : K.lookup f__law_kin = some ⟨oc__law_kin, od__law_kin, .func (PySem.W.fnOf "_law_kin" "_law_kin" (defArgs st__law_kin) (defBody st__law_kin) (defScope st__law_kin) .none kV__law_kin dc__law_kin pm__law_kin an__law_kin cd__law_kin ct__law_kin), sl__law_kin⟩)
    (c__law_kin : PySem.W.codeIn K cd__law_kin "_law_kin" = true)
    (k__law_kin : PySem.W.keepIn K (.ref f__law_kin) = true)
    {od__law_one_of an__law_one_of : Option Addr} {sl__law_one_of : Array (Option Value)} {oc__law_one_of kV__law_one_of dc__law_one_of pm__law_one_of cd__law_one_of ct__law_one_of : Value}
    (a__law_one_of : PySem.W.nsIn K mainGlobals "_law_one_of" = some (some (.ref f__law_one_of)))
    (l__law_one_of : K.lookup f__law_one_of = some ⟨oc__law_one_of, od__law_one_of, .func (PySem.W.fnOf "_law_one_of" "_law_one_of" (defArgs st__law_one_of) (defBody st__law_one_of) (defScope st__law_one_of) .none kV__law_one_of dc__law_one_of pm__law_one_of an__law_one_of cd__law_one_of ct__law_one_of), sl__law_one_of⟩)
    (c__law_one_of : PySem.W.codeIn K cd__law_one_of "_law_one_of" = true)
    (k__law_one_of : PySem.W.keepIn K (.ref f__law_one_of) = true)
    {od__law_stands an__law_stands : Option Addr} {sl__law_stands : Array (Option Value)} {oc__law_stands kV__law_stands dc__law_stands pm__law_stands cd__law_stands ct__law_stands : Value}
    (a__law_stands : PySem.W.nsIn K mainGlobals "_law_stands" = some (some (.ref f__law_stands)))
    (l__law_stands : K.lookup f__law_stands = some ⟨oc__law_stands, od__law_stands, .func (PySem.W.fnOf "_law_stands" "_law_stands" (defArgs st__law_stands) (defBody st__law_stands) (defScope st__law_stands) .none kV__law_stands dc__law_stands pm__law_stands an__law_stands cd__law_stands ct__law_stands), sl__law_stands⟩)
    (c__law_stands : PySem.W.codeIn K cd__law_stands "_law_stands" = true)
    (k__law_stands : PySem.W.keepIn K (.ref f__law_stands) = true)
    {od__law_any an__law_any : Option Addr} {sl__law_any : Array (Option Value)} {oc__law_any kV__law_any dc__law_any pm__law_any cd__law_any ct__law_any : Value}
    (a__law_any : PySem.W.nsIn K mainGlobals "_law_any" = some (some (.ref f__law_any)))
    (l__law_any : K.lookup f__law_any = some ⟨oc__law_any, od__law_any, .func (PySem.W.fnOf "_law_any" "_law_any" (defArgs st__law_any) (defBody st__law_any) (defScope st__law_any) .none kV__law_any dc__law_any pm__law_any an__law_any cd__law_any ct__law_any), sl__law_any⟩)
    (c__law_any : PySem.W.codeIn K cd__law_any "_law_any" = true)
    (k__law_any : PySem.W.keepIn K (.ref f__law_any) = true)
    {od__law_parts_right an__law_parts_right : Option Addr} {sl__law_parts_right : Array (Option Value)} {oc__law_parts_right kV__law_parts_right dc__law_parts_right pm__law_parts_right cd__law_parts_right ct__law_parts_right : Value}
    (a__law_parts_right : PySem.W.nsIn K mainGlobals "_law_parts_right" = some (some (.ref f__law_parts_right)))
    (l__law_parts_right : K.lookup f__law_parts_right = some ⟨oc__law_parts_right, od__law_parts_right, .func (PySem.W.fnOf "_law_parts_right" "_law_parts_right" (defArgs st__law_parts_right) (defBody st__law_parts_right) (defScope st__law_parts_right) .none kV__law_parts_right dc__law_parts_right pm__law_parts_right an__law_parts_right cd__law_parts_right ct__law_parts_right), sl__law_parts_right⟩)
    (c__law_parts_right : PySem.W.codeIn K cd__law_parts_right "_law_parts_right" = true)
    (k__law_parts_right : PySem.W.keepIn K (.ref f__law_parts_right) = true)
    {od__law_fields_right an__law_fields_right : Option Addr} {sl__law_fields_right : Array (Option Value)} {oc__law_fields_right kV__law_fields_right dc__law_fields_right pm__law_fields_right cd__law_fields_right ct__law_fields_right : Value}
    (a__law_fields_right : PySem.W.nsIn K mainGlobals "_law_fields_right" = some (some (.ref f__law_fields_right)))
    (l__law_fields_right : K.lookup f__law_fields_right = some ⟨oc__law_fields_right, od__law_fields_right, .func (PySem.W.fnOf "_law_fields_right" "_law_fields_right" (defArgs st__law_fields_right) (defBody st__law_fields_right) (defScope st__law_fields_right) .none kV__law_fields_right dc__law_fields_right pm__law_fields_right an__law_fields_right cd__law_fields_right ct__law_fields_right), sl__law_fields_right⟩)
    (c__law_fields_right : PySem.W.codeIn K cd__law_fields_right "_law_fields_right" = true)
    (k__law_fields_right : PySem.W.keepIn K (.ref f__law_fields_right) = true)
    {od_law an_law : Option Addr} {sl_law : Array (Option Value)} {oc_law kV_law dc_law pm_law cd_law ct_law : Value}
    (a_law : PySem.W.nsIn K mainGlobals "law" = some (some (.ref f_law)))
    (l_law : K.lookup f_law = some ⟨oc_law, od_law, .func (PySem.W.fnOf "law" "law" (defArgs st_law) (defBody st_law) (defScope st_law) .none kV_law dc_law pm_law an_law cd_law ct_law), sl_law⟩)
    (c_law : PySem.W.codeIn K cd_law "law" = true)
    (k_law : PySem.W.keepIn K (.ref f_law) = true)
    (z_ArithmeticError : PySem.W.nsIn K mainGlobals "ArithmeticError" = some none)
    (z_AttributeError : PySem.W.nsIn K mainGlobals "AttributeError" = some none)
    (z_LookupError : PySem.W.nsIn K mainGlobals "LookupError" = some none)
    (z_RuntimeError : PySem.W.nsIn K mainGlobals "RuntimeError" = some none)
    (z_TypeError : PySem.W.nsIn K mainGlobals "TypeError" = some none)
    (z_ValueError : PySem.W.nsIn K mainGlobals "ValueError" = some none)
    (z_abs : PySem.W.nsIn K mainGlobals "abs" = some none)
    (z_enumerate : PySem.W.nsIn K mainGlobals "enumerate" = some none)
    (z_int : PySem.W.nsIn K mainGlobals "int" = some none)
    (z_isinstance : PySem.W.nsIn K mainGlobals "isinstance" = some none)
    (z_len : PySem.W.nsIn K mainGlobals "len" = some none)
    (z_range : PySem.W.nsIn K mainGlobals "range" = some none)
    (z_str : PySem.W.nsIn K mainGlobals "str" = some none)
    (zS : PySem.W.nsIn K mainGlobals "super" = some none)
    (opq : PySem.W.nsIn K cStatics "thirdparty.any" = some none)
    (spc : PySem.W.specialIn K (.builtin "object.__class__") "__get__" = some (some (.builtin "getset_descriptor.__get__")))
    (tkc : PySem.W.takesIn K (.builtin "object.__class__") = some true)
    (a_Missing : PySem.W.nsIn K mainGlobals "Missing" = some (some (.ref c_Missing)))
    (a_BadNumber : PySem.W.nsIn K mainGlobals "BadNumber" = some (some (.ref c_BadNumber)))
    (a_BadWeb : PySem.W.nsIn K mainGlobals "BadWeb" = some (some (.ref c_BadWeb)))
    (a_BadTable : PySem.W.nsIn K mainGlobals "BadTable" = some (some (.ref c_BadTable)))
    (a_BadLot : PySem.W.nsIn K mainGlobals "BadLot" = some (some (.ref c_BadLot)))
    (a_Misfit : PySem.W.nsIn K mainGlobals "Misfit" = some (some (.ref c_Misfit)))
    (a_NoPlace : PySem.W.nsIn K mainGlobals "NoPlace" = some (some (.ref c_NoPlace)))
    (a_NoTie : PySem.W.nsIn K mainGlobals "NoTie" = some (some (.ref c_NoTie)))
    (a_Twice : PySem.W.nsIn K mainGlobals "Twice" = some (some (.ref c_Twice)))
    (a_TooMany : PySem.W.nsIn K mainGlobals "TooMany" = some (some (.ref c_TooMany)))
    (a_BadText : PySem.W.nsIn K mainGlobals "BadText" = some (some (.ref c_BadText)))
    (a_NetError : PySem.W.nsIn K mainGlobals "NetError" = some (some (.ref c_NetError)))
    {fi_Missing cda_Missing cc_Missing : Addr}
    {fi_BadNumber cda_BadNumber cc_BadNumber : Addr}
    {fi_BadWeb cda_BadWeb cc_BadWeb : Addr}
    {fi_BadTable cda_BadTable cc_BadTable : Addr}
    {fi_BadLot cda_BadLot cc_BadLot : Addr}
    {fi_Misfit cda_Misfit cc_Misfit : Addr}
    {fi_Twice cda_Twice cc_Twice : Addr}
    {fi_TooMany cda_TooMany cc_TooMany : Addr}
    {fi_BadText cda_BadText cc_BadText : Addr}
    {nm_Missing q_Missing : Str} {N_Missing : Addr} {bs_Missing bm_Missing sub_Missing : List Value} {sn_Missing : List Str} {ab_Missing : Bool} {col_Missing : Option Bool} {dd_Missing : Option Addr} {k0_Missing k1_Missing k2_Missing k3_Missing k5_Missing gt_Missing : Option Value}
    (lc_Missing : K.lookup c_Missing = some (excClassObj nm_Missing q_Missing c_Missing N_Missing bs_Missing bm_Missing true sn_Missing sub_Missing ab_Missing col_Missing dd_Missing k0_Missing k1_Missing k2_Missing k3_Missing k5_Missing "ValueError.__new__"))
    (r_Missing : PySem.HandSPX.refsVE bm_Missing = true)
    (sa_Missing : PySem.W.findIn K (.ref c_Missing) "__setattr__" = some (some (.builtin "object.__setattr__")))
    (kI_Missing : PySem.W.findIn K (.ref c_Missing) "__init__" = some (some (.ref fi_Missing)))
    (su_Missing : PySem.W.mroIn K c_Missing (.ref c_Missing) = some true)
    (in_Missing : PySem.W.ks_superIn K c_Missing c_Missing "__init__" = some (some (.builtin "ValueError.__init__")))
    (ve_Missing : PySem.W.subIn K (.ref c_Missing) (.type "ValueError") = some true)
    (ex_Missing : PySem.W.excInitIn K c_Missing veB "ValueError.__new__" = true)
    (kC_Missing : PySem.W.keepIn K (.ref c_Missing) = true)
    (ga_Missing : PySem.W.findIn K (.ref c_Missing) "__getattribute__" = some (some (.builtin "BaseException.__getattribute__")))
    (gg_Missing : PySem.W.findIn K (.ref c_Missing) "__getattr__" = some gt_Missing)
    (be_Missing : PySem.W.subIn K (.ref c_Missing) (.type "BaseException") = some true)
    (hd_Missing : PySem.W.hasDictIn K c_Missing = true)
    (ca_Missing : PySem.W.findIn K (.ref c_Missing) "__class__" = some (some (.builtin "object.__class__")))
    (ob_Missing : PySem.W.mroIn K c_Missing (.type "object") = some true)
    (no_Missing_value : PySem.W.findIn K (.ref c_Missing) "value" = some none)
    {nm_BadNumber q_BadNumber : Str} {N_BadNumber : Addr} {bs_BadNumber bm_BadNumber sub_BadNumber : List Value} {sn_BadNumber : List Str} {ab_BadNumber : Bool} {col_BadNumber : Option Bool} {dd_BadNumber : Option Addr} {k0_BadNumber k1_BadNumber k2_BadNumber k3_BadNumber k5_BadNumber gt_BadNumber : Option Value}
    (lc_BadNumber : K.lookup c_BadNumber = some (excClassObj nm_BadNumber q_BadNumber c_BadNumber N_BadNumber bs_BadNumber bm_BadNumber true sn_BadNumber sub_BadNumber ab_BadNumber col_BadNumber dd_BadNumber k0_BadNumber k1_BadNumber k2_BadNumber k3_BadNumber k5_BadNumber "ValueError.__new__"))
    (r_BadNumber : PySem.HandSPX.refsVE bm_BadNumber = true)
    (sa_BadNumber : PySem.W.findIn K (.ref c_BadNumber) "__setattr__" = some (some (.builtin "object.__setattr__")))
    (kI_BadNumber : PySem.W.findIn K (.ref c_BadNumber) "__init__" = some (some (.ref fi_BadNumber)))
    (su_BadNumber : PySem.W.mroIn K c_BadNumber (.ref c_BadNumber) = some true)
    (in_BadNumber : PySem.W.ks_superIn K c_BadNumber c_BadNumber "__init__" = some (some (.builtin "ValueError.__init__")))
    (ve_BadNumber : PySem.W.subIn K (.ref c_BadNumber) (.type "ValueError") = some true)
    (ex_BadNumber : PySem.W.excInitIn K c_BadNumber veB "ValueError.__new__" = true)
    (kC_BadNumber : PySem.W.keepIn K (.ref c_BadNumber) = true)
    (ga_BadNumber : PySem.W.findIn K (.ref c_BadNumber) "__getattribute__" = some (some (.builtin "BaseException.__getattribute__")))
    (gg_BadNumber : PySem.W.findIn K (.ref c_BadNumber) "__getattr__" = some gt_BadNumber)
    (be_BadNumber : PySem.W.subIn K (.ref c_BadNumber) (.type "BaseException") = some true)
    (hd_BadNumber : PySem.W.hasDictIn K c_BadNumber = true)
    (ca_BadNumber : PySem.W.findIn K (.ref c_BadNumber) "__class__" = some (some (.builtin "object.__class__")))
    (ob_BadNumber : PySem.W.mroIn K c_BadNumber (.type "object") = some true)
    (no_BadNumber_part : PySem.W.findIn K (.ref c_BadNumber) "part" = some none)
    {nm_BadWeb q_BadWeb : Str} {N_BadWeb : Addr} {bs_BadWeb bm_BadWeb sub_BadWeb : List Value} {sn_BadWeb : List Str} {ab_BadWeb : Bool} {col_BadWeb : Option Bool} {dd_BadWeb : Option Addr} {k0_BadWeb k1_BadWeb k2_BadWeb k3_BadWeb k5_BadWeb gt_BadWeb : Option Value}
    (lc_BadWeb : K.lookup c_BadWeb = some (excClassObj nm_BadWeb q_BadWeb c_BadWeb N_BadWeb bs_BadWeb bm_BadWeb true sn_BadWeb sub_BadWeb ab_BadWeb col_BadWeb dd_BadWeb k0_BadWeb k1_BadWeb k2_BadWeb k3_BadWeb k5_BadWeb "ValueError.__new__"))
    (r_BadWeb : PySem.HandSPX.refsVE bm_BadWeb = true)
    (sa_BadWeb : PySem.W.findIn K (.ref c_BadWeb) "__setattr__" = some (some (.builtin "object.__setattr__")))
    (kI_BadWeb : PySem.W.findIn K (.ref c_BadWeb) "__init__" = some (some (.ref fi_BadWeb)))
    (su_BadWeb : PySem.W.mroIn K c_BadWeb (.ref c_BadWeb) = some true)
    (in_BadWeb : PySem.W.ks_superIn K c_BadWeb c_BadWeb "__init__" = some (some (.builtin "ValueError.__init__")))
    (ve_BadWeb : PySem.W.subIn K (.ref c_BadWeb) (.type "ValueError") = some true)
    (ex_BadWeb : PySem.W.excInitIn K c_BadWeb veB "ValueError.__new__" = true)
    (kC_BadWeb : PySem.W.keepIn K (.ref c_BadWeb) = true)
    (ga_BadWeb : PySem.W.findIn K (.ref c_BadWeb) "__getattribute__" = some (some (.builtin "BaseException.__getattribute__")))
    (gg_BadWeb : PySem.W.findIn K (.ref c_BadWeb) "__getattr__" = some gt_BadWeb)
    (be_BadWeb : PySem.W.subIn K (.ref c_BadWeb) (.type "BaseException") = some true)
    (hd_BadWeb : PySem.W.hasDictIn K c_BadWeb = true)
    (ca_BadWeb : PySem.W.findIn K (.ref c_BadWeb) "__class__" = some (some (.builtin "object.__class__")))
    (ob_BadWeb : PySem.W.mroIn K c_BadWeb (.type "object") = some true)
    (no_BadWeb_part : PySem.W.findIn K (.ref c_BadWeb) "part" = some none)
    {nm_BadTable q_BadTable : Str} {N_BadTable : Addr} {bs_BadTable bm_BadTable sub_BadTable : List Value} {sn_BadTable : List Str} {ab_BadTable : Bool} {col_BadTable : Option Bool} {dd_BadTable : Option Addr} {k0_BadTable k1_BadTable k2_BadTable k3_BadTable k5_BadTable gt_BadTable : Option Value}
    (lc_BadTable : K.lookup c_BadTable = some (excClassObj nm_BadTable q_BadTable c_BadTable N_BadTable bs_BadTable bm_BadTable true sn_BadTable sub_BadTable ab_BadTable col_BadTable dd_BadTable k0_BadTable k1_BadTable k2_BadTable k3_BadTable k5_BadTable "ValueError.__new__"))
    (r_BadTable : PySem.HandSPX.refsVE bm_BadTable = true)
    (sa_BadTable : PySem.W.findIn K (.ref c_BadTable) "__setattr__" = some (some (.builtin "object.__setattr__")))
    (kI_BadTable : PySem.W.findIn K (.ref c_BadTable) "__init__" = some (some (.ref fi_BadTable)))
    (su_BadTable : PySem.W.mroIn K c_BadTable (.ref c_BadTable) = some true)
    (in_BadTable : PySem.W.ks_superIn K c_BadTable c_BadTable "__init__" = some (some (.builtin "ValueError.__init__")))
    (ve_BadTable : PySem.W.subIn K (.ref c_BadTable) (.type "ValueError") = some true)
    (ex_BadTable : PySem.W.excInitIn K c_BadTable veB "ValueError.__new__" = true)
    (kC_BadTable : PySem.W.keepIn K (.ref c_BadTable) = true)
    (ga_BadTable : PySem.W.findIn K (.ref c_BadTable) "__getattribute__" = some (some (.builtin "BaseException.__getattribute__")))
    (gg_BadTable : PySem.W.findIn K (.ref c_BadTable) "__getattr__" = some gt_BadTable)
    (be_BadTable : PySem.W.subIn K (.ref c_BadTable) (.type "BaseException") = some true)
    (hd_BadTable : PySem.W.hasDictIn K c_BadTable = true)
    (ca_BadTable : PySem.W.findIn K (.ref c_BadTable) "__class__" = some (some (.builtin "object.__class__")))
    (ob_BadTable : PySem.W.mroIn K c_BadTable (.type "object") = some true)
    (no_BadTable_part : PySem.W.findIn K (.ref c_BadTable) "part" = some none)
    {nm_BadLot q_BadLot : Str} {N_BadLot : Addr} {bs_BadLot bm_BadLot sub_BadLot : List Value} {sn_BadLot : List Str} {ab_BadLot : Bool} {col_BadLot : Option Bool} {dd_BadLot : Option Addr} {k0_BadLot k1_BadLot k2_BadLot k3_BadLot k5_BadLot gt_BadLot : Option Value}
    (lc_BadLot : K.lookup c_BadLot = some (excClassObj nm_BadLot q_BadLot c_BadLot N_BadLot bs_BadLot bm_BadLot true sn_BadLot sub_BadLot ab_BadLot col_BadLot dd_BadLot k0_BadLot k1_BadLot k2_BadLot k3_BadLot k5_BadLot "ValueError.__new__"))
    (r_BadLot : PySem.HandSPX.refsVE bm_BadLot = true)
    (sa_BadLot : PySem.W.findIn K (.ref c_BadLot) "__setattr__" = some (some (.builtin "object.__setattr__")))
    (kI_BadLot : PySem.W.findIn K (.ref c_BadLot) "__init__" = some (some (.ref fi_BadLot)))
    (su_BadLot : PySem.W.mroIn K c_BadLot (.ref c_BadLot) = some true)
    (in_BadLot : PySem.W.ks_superIn K c_BadLot c_BadLot "__init__" = some (some (.builtin "ValueError.__init__")))
    (ve_BadLot : PySem.W.subIn K (.ref c_BadLot) (.type "ValueError") = some true)
    (ex_BadLot : PySem.W.excInitIn K c_BadLot veB "ValueError.__new__" = true)
    (kC_BadLot : PySem.W.keepIn K (.ref c_BadLot) = true)
    (ga_BadLot : PySem.W.findIn K (.ref c_BadLot) "__getattribute__" = some (some (.builtin "BaseException.__getattribute__")))
    (gg_BadLot : PySem.W.findIn K (.ref c_BadLot) "__getattr__" = some gt_BadLot)
    (be_BadLot : PySem.W.subIn K (.ref c_BadLot) (.type "BaseException") = some true)
    (hd_BadLot : PySem.W.hasDictIn K c_BadLot = true)
    (ca_BadLot : PySem.W.findIn K (.ref c_BadLot) "__class__" = some (some (.builtin "object.__class__")))
    (ob_BadLot : PySem.W.mroIn K c_BadLot (.type "object") = some true)
    (no_BadLot_part : PySem.W.findIn K (.ref c_BadLot) "part" = some none)
    {nm_Misfit q_Misfit : Str} {N_Misfit : Addr} {bs_Misfit bm_Misfit sub_Misfit : List Value} {sn_Misfit : List Str} {ab_Misfit : Bool} {col_Misfit : Option Bool} {dd_Misfit : Option Addr} {k0_Misfit k1_Misfit k2_Misfit k3_Misfit k5_Misfit gt_Misfit : Option Value}
    (lc_Misfit : K.lookup c_Misfit = some (excClassObj nm_Misfit q_Misfit c_Misfit N_Misfit bs_Misfit bm_Misfit true sn_Misfit sub_Misfit ab_Misfit col_Misfit dd_Misfit k0_Misfit k1_Misfit k2_Misfit k3_Misfit k5_Misfit "ValueError.__new__"))
    (r_Misfit : PySem.HandSPX.refsVE bm_Misfit = true)
    (sa_Misfit : PySem.W.findIn K (.ref c_Misfit) "__setattr__" = some (some (.builtin "object.__setattr__")))
    (kI_Misfit : PySem.W.findIn K (.ref c_Misfit) "__init__" = some (some (.ref fi_Misfit)))
    (su_Misfit : PySem.W.mroIn K c_Misfit (.ref c_Misfit) = some true)
    (in_Misfit : PySem.W.ks_superIn K c_Misfit c_Misfit "__init__" = some (some (.builtin "ValueError.__init__")))
    (ve_Misfit : PySem.W.subIn K (.ref c_Misfit) (.type "ValueError") = some true)
    (ex_Misfit : PySem.W.excInitIn K c_Misfit veB "ValueError.__new__" = true)
    (kC_Misfit : PySem.W.keepIn K (.ref c_Misfit) = true)
    (ga_Misfit : PySem.W.findIn K (.ref c_Misfit) "__getattribute__" = some (some (.builtin "BaseException.__getattribute__")))
    (gg_Misfit : PySem.W.findIn K (.ref c_Misfit) "__getattr__" = some gt_Misfit)
    (be_Misfit : PySem.W.subIn K (.ref c_Misfit) (.type "BaseException") = some true)
    (hd_Misfit : PySem.W.hasDictIn K c_Misfit = true)
    (ca_Misfit : PySem.W.findIn K (.ref c_Misfit) "__class__" = some (some (.builtin "object.__class__")))
    (ob_Misfit : PySem.W.mroIn K c_Misfit (.type "object") = some true)
    (no_Misfit_part : PySem.W.findIn K (.ref c_Misfit) "part" = some none)
    {nm_NoPlace q_NoPlace : Str} {N_NoPlace : Addr} {bs_NoPlace bm_NoPlace sub_NoPlace : List Value} {sn_NoPlace : List Str} {ab_NoPlace : Bool} {col_NoPlace : Option Bool} {dd_NoPlace : Option Addr} {k0_NoPlace k1_NoPlace k2_NoPlace k3_NoPlace k5_NoPlace gt_NoPlace : Option Value}
    (lc_NoPlace : K.lookup c_NoPlace = some (excClassObj nm_NoPlace q_NoPlace c_NoPlace N_NoPlace bs_NoPlace bm_NoPlace true sn_NoPlace sub_NoPlace ab_NoPlace col_NoPlace dd_NoPlace k0_NoPlace k1_NoPlace k2_NoPlace k3_NoPlace k5_NoPlace "ValueError.__new__"))
    (r_NoPlace : PySem.HandSPX.refsVE bm_NoPlace = true)
    (sa_NoPlace : PySem.W.findIn K (.ref c_NoPlace) "__setattr__" = some (some (.builtin "object.__setattr__")))
    (kI_NoPlace : PySem.W.findIn K (.ref c_NoPlace) "__init__" = some (some (.ref fi_Missing)))
    (su_NoPlace : PySem.W.mroIn K c_NoPlace (.ref c_Missing) = some true)
    (in_NoPlace : PySem.W.ks_superIn K c_NoPlace c_Missing "__init__" = some (some (.builtin "ValueError.__init__")))
    (ve_NoPlace : PySem.W.subIn K (.ref c_NoPlace) (.type "ValueError") = some true)
    (ex_NoPlace : PySem.W.excInitIn K c_NoPlace veB "ValueError.__new__" = true)
    (kC_NoPlace : PySem.W.keepIn K (.ref c_NoPlace) = true)
    (ga_NoPlace : PySem.W.findIn K (.ref c_NoPlace) "__getattribute__" = some (some (.builtin "BaseException.__getattribute__")))
    (gg_NoPlace : PySem.W.findIn K (.ref c_NoPlace) "__getattr__" = some gt_NoPlace)
    (be_NoPlace : PySem.W.subIn K (.ref c_NoPlace) (.type "BaseException") = some true)
    (hd_NoPlace : PySem.W.hasDictIn K c_NoPlace = true)
    (ca_NoPlace : PySem.W.findIn K (.ref c_NoPlace) "__class__" = some (some (.builtin "object.__class__")))
    (ob_NoPlace : PySem.W.mroIn K c_NoPlace (.type "object") = some true)
    (no_NoPlace_value : PySem.W.findIn K (.ref c_NoPlace) "value" = some none)
    {nm_NoTie q_NoTie : Str} {N_NoTie : Addr} {bs_NoTie bm_NoTie sub_NoTie : List Value} {sn_NoTie : List Str} {ab_NoTie : Bool} {col_NoTie : Option Bool} {dd_NoTie : Option Addr} {k0_NoTie k1_NoTie k2_NoTie k3_NoTie k5_NoTie gt_NoTie : Option Value}
    (lc_NoTie : K.lookup c_NoTie = some (excClassObj nm_NoTie q_NoTie c_NoTie N_NoTie bs_NoTie bm_NoTie true sn_NoTie sub_NoTie ab_NoTie col_NoTie dd_NoTie k0_NoTie k1_NoTie k2_NoTie k3_NoTie k5_NoTie "ValueError.__new__"))
    (r_NoTie : PySem.HandSPX.refsVE bm_NoTie = true)
    (sa_NoTie : PySem.W.findIn K (.ref c_NoTie) "__setattr__" = some (some (.builtin "object.__setattr__")))
    (kI_NoTie : PySem.W.findIn K (.ref c_NoTie) "__init__" = some (some (.ref fi_Missing)))
    (su_NoTie : PySem.W.mroIn K c_NoTie (.ref c_Missing) = some true)
    (in_NoTie : PySem.W.ks_superIn K c_NoTie c_Missing "__init__" = some (some (.builtin "ValueError.__init__")))
    (ve_NoTie : PySem.W.subIn K (.ref c_NoTie) (.type "ValueError") = some true)
    (ex_NoTie : PySem.W.excInitIn K c_NoTie veB "ValueError.__new__" = true)
    (kC_NoTie : PySem.W.keepIn K (.ref c_NoTie) = true)
    (ga_NoTie : PySem.W.findIn K (.ref c_NoTie) "__getattribute__" = some (some (.builtin "BaseException.__getattribute__")))
    (gg_NoTie : PySem.W.findIn K (.ref c_NoTie) "__getattr__" = some gt_NoTie)
    (be_NoTie : PySem.W.subIn K (.ref c_NoTie) (.type "BaseException") = some true)
    (hd_NoTie : PySem.W.hasDictIn K c_NoTie = true)
    (ca_NoTie : PySem.W.findIn K (.ref c_NoTie) "__class__" = some (some (.builtin "object.__class__")))
    (ob_NoTie : PySem.W.mroIn K c_NoTie (.type "object") = some true)
    (no_NoTie_value : PySem.W.findIn K (.ref c_NoTie) "value" = some none)
    {nm_Twice q_Twice : Str} {N_Twice : Addr} {bs_Twice bm_Twice sub_Twice : List Value} {sn_Twice : List Str} {ab_Twice : Bool} {col_Twice : Option Bool} {dd_Twice : Option Addr} {k0_Twice k1_Twice k2_Twice k3_Twice k5_Twice gt_Twice : Option Value}
    (lc_Twice : K.lookup c_Twice = some (excClassObj nm_Twice q_Twice c_Twice N_Twice bs_Twice bm_Twice true sn_Twice sub_Twice ab_Twice col_Twice dd_Twice k0_Twice k1_Twice k2_Twice k3_Twice k5_Twice "ValueError.__new__"))
    (r_Twice : PySem.HandSPX.refsVE bm_Twice = true)
    (sa_Twice : PySem.W.findIn K (.ref c_Twice) "__setattr__" = some (some (.builtin "object.__setattr__")))
    (kI_Twice : PySem.W.findIn K (.ref c_Twice) "__init__" = some (some (.ref fi_Twice)))
    (su_Twice : PySem.W.mroIn K c_Twice (.ref c_Twice) = some true)
    (in_Twice : PySem.W.ks_superIn K c_Twice c_Twice "__init__" = some (some (.builtin "ValueError.__init__")))
    (ve_Twice : PySem.W.subIn K (.ref c_Twice) (.type "ValueError") = some true)
    (ex_Twice : PySem.W.excInitIn K c_Twice veB "ValueError.__new__" = true)
    (kC_Twice : PySem.W.keepIn K (.ref c_Twice) = true)
    (ga_Twice : PySem.W.findIn K (.ref c_Twice) "__getattribute__" = some (some (.builtin "BaseException.__getattribute__")))
    (gg_Twice : PySem.W.findIn K (.ref c_Twice) "__getattr__" = some gt_Twice)
    (be_Twice : PySem.W.subIn K (.ref c_Twice) (.type "BaseException") = some true)
    (hd_Twice : PySem.W.hasDictIn K c_Twice = true)
    (ca_Twice : PySem.W.findIn K (.ref c_Twice) "__class__" = some (some (.builtin "object.__class__")))
    (ob_Twice : PySem.W.mroIn K c_Twice (.type "object") = some true)
    (no_Twice_value : PySem.W.findIn K (.ref c_Twice) "value" = some none)
    {nm_TooMany q_TooMany : Str} {N_TooMany : Addr} {bs_TooMany bm_TooMany sub_TooMany : List Value} {sn_TooMany : List Str} {ab_TooMany : Bool} {col_TooMany : Option Bool} {dd_TooMany : Option Addr} {k0_TooMany k1_TooMany k2_TooMany k3_TooMany k5_TooMany gt_TooMany : Option Value}
    (lc_TooMany : K.lookup c_TooMany = some (excClassObj nm_TooMany q_TooMany c_TooMany N_TooMany bs_TooMany bm_TooMany true sn_TooMany sub_TooMany ab_TooMany col_TooMany dd_TooMany k0_TooMany k1_TooMany k2_TooMany k3_TooMany k5_TooMany "ValueError.__new__"))
    (r_TooMany : PySem.HandSPX.refsVE bm_TooMany = true)
    (sa_TooMany : PySem.W.findIn K (.ref c_TooMany) "__setattr__" = some (some (.builtin "object.__setattr__")))
    (kI_TooMany : PySem.W.findIn K (.ref c_TooMany) "__init__" = some (some (.ref fi_TooMany)))
    (su_TooMany : PySem.W.mroIn K c_TooMany (.ref c_TooMany) = some true)
    (in_TooMany : PySem.W.ks_superIn K c_TooMany c_TooMany "__init__" = some (some (.builtin "ValueError.__init__")))
    (ve_TooMany : PySem.W.subIn K (.ref c_TooMany) (.type "ValueError") = some true)
    (ex_TooMany : PySem.W.excInitIn K c_TooMany veB "ValueError.__new__" = true)
    (kC_TooMany : PySem.W.keepIn K (.ref c_TooMany) = true)
    (ga_TooMany : PySem.W.findIn K (.ref c_TooMany) "__getattribute__" = some (some (.builtin "BaseException.__getattribute__")))
    (gg_TooMany : PySem.W.findIn K (.ref c_TooMany) "__getattr__" = some gt_TooMany)
    (be_TooMany : PySem.W.subIn K (.ref c_TooMany) (.type "BaseException") = some true)
    (hd_TooMany : PySem.W.hasDictIn K c_TooMany = true)
    (ca_TooMany : PySem.W.findIn K (.ref c_TooMany) "__class__" = some (some (.builtin "object.__class__")))
    (ob_TooMany : PySem.W.mroIn K c_TooMany (.type "object") = some true)
    (no_TooMany_what : PySem.W.findIn K (.ref c_TooMany) "what" = some none)
    (no_TooMany_most : PySem.W.findIn K (.ref c_TooMany) "most" = some none)
    {nm_BadText q_BadText : Str} {N_BadText : Addr} {bs_BadText bm_BadText sub_BadText : List Value} {sn_BadText : List Str} {ab_BadText : Bool} {col_BadText : Option Bool} {dd_BadText : Option Addr} {k0_BadText k1_BadText k2_BadText k3_BadText k5_BadText gt_BadText : Option Value}
    (lc_BadText : K.lookup c_BadText = some (excClassObj nm_BadText q_BadText c_BadText N_BadText bs_BadText bm_BadText true sn_BadText sub_BadText ab_BadText col_BadText dd_BadText k0_BadText k1_BadText k2_BadText k3_BadText k5_BadText "ValueError.__new__"))
    (r_BadText : PySem.HandSPX.refsVE bm_BadText = true)
    (sa_BadText : PySem.W.findIn K (.ref c_BadText) "__setattr__" = some (some (.builtin "object.__setattr__")))
    (kI_BadText : PySem.W.findIn K (.ref c_BadText) "__init__" = some (some (.ref fi_BadText)))
    (su_BadText : PySem.W.mroIn K c_BadText (.ref c_BadText) = some true)
    (in_BadText : PySem.W.ks_superIn K c_BadText c_BadText "__init__" = some (some (.builtin "ValueError.__init__")))
    (ve_BadText : PySem.W.subIn K (.ref c_BadText) (.type "ValueError") = some true)
    (ex_BadText : PySem.W.excInitIn K c_BadText veB "ValueError.__new__" = true)
    (kC_BadText : PySem.W.keepIn K (.ref c_BadText) = true)
    (ga_BadText : PySem.W.findIn K (.ref c_BadText) "__getattribute__" = some (some (.builtin "BaseException.__getattribute__")))
    (gg_BadText : PySem.W.findIn K (.ref c_BadText) "__getattr__" = some gt_BadText)
    (be_BadText : PySem.W.subIn K (.ref c_BadText) (.type "BaseException") = some true)
    (hd_BadText : PySem.W.hasDictIn K c_BadText = true)
    (ca_BadText : PySem.W.findIn K (.ref c_BadText) "__class__" = some (some (.builtin "object.__class__")))
    (ob_BadText : PySem.W.mroIn K c_BadText (.type "object") = some true)
    (no_BadText_line : PySem.W.findIn K (.ref c_BadText) "line" = some none)
    (no_BadText_item : PySem.W.findIn K (.ref c_BadText) "item" = some none)
    {ooc_Missing okV_Missing odc_Missing opm_Missing oct_Missing occ_Missing ocl_Missing : Value} {ood_Missing oan_Missing ocdd_Missing ocld_Missing : Option Addr} {osl_Missing occs_Missing ocsl_Missing : Array (Option Value)} {ovs_Missing : Array Value} {ofi_Missing : Str} {otf_Missing : Tok}
    (lf_Missing : K.lookup fi_Missing = some ⟨ooc_Missing, ood_Missing, .func (PySem.W.ksFn "__init__" "Missing.__init__" (defArgs ini_Missing) (defBody ini_Missing) (defScope ini_Missing) .none okV_Missing odc_Missing opm_Missing oan_Missing (.ref cda_Missing) oct_Missing cc_Missing), osl_Missing⟩)
    (cd_Missing : PySem.W.codeIn K (.ref cda_Missing) "Missing.__init__" = true)
    (fl_Missing : K.lookup cda_Missing = some ⟨occ_Missing, ocdd_Missing, .fields ovs_Missing, occs_Missing⟩)
    (fv_Missing : ovs_Missing[2]? = some (.str ofi_Missing otf_Missing))
    (ff_Missing : ((PySem.Challenge.rw_flowtells_k00_errors_keep_their_fields.prog.main.file : Str) == ofi_Missing) = true)
    (ce_Missing : K.lookup cc_Missing = some ⟨ocl_Missing, ocld_Missing, .cell (some (.ref c_Missing)), ocsl_Missing⟩)
    (cD_Missing : PySem.W.isClsIn K c_Missing = true)
    (tI_Missing : PySem.W.typeIn K (.ref fi_Missing) = some (.type "function"))
    {ooc_BadNumber okV_BadNumber odc_BadNumber opm_BadNumber oct_BadNumber occ_BadNumber ocl_BadNumber : Value} {ood_BadNumber oan_BadNumber ocdd_BadNumber ocld_BadNumber : Option Addr} {osl_BadNumber occs_BadNumber ocsl_BadNumber : Array (Option Value)} {ovs_BadNumber : Array Value} {ofi_BadNumber : Str} {otf_BadNumber : Tok}
    (lf_BadNumber : K.lookup fi_BadNumber = some ⟨ooc_BadNumber, ood_BadNumber, .func (PySem.W.ksFn "__init__" "BadNumber.__init__" (defArgs ini_BadNumber) (defBody ini_BadNumber) (defScope ini_BadNumber) .none okV_BadNumber odc_BadNumber opm_BadNumber oan_BadNumber (.ref cda_BadNumber) oct_BadNumber cc_BadNumber), osl_BadNumber⟩)
    (cd_BadNumber : PySem.W.codeIn K (.ref cda_BadNumber) "BadNumber.__init__" = true)
    (fl_BadNumber : K.lookup cda_BadNumber = some ⟨occ_BadNumber, ocdd_BadNumber, .fields ovs_BadNumber, occs_BadNumber⟩)
    (fv_BadNumber : ovs_BadNumber[2]? = some (.str ofi_BadNumber otf_BadNumber))
    (ff_BadNumber : ((PySem.Challenge.rw_flowtells_k00_errors_keep_their_fields.prog.main.file : Str) == ofi_BadNumber) = true)
    (ce_BadNumber : K.lookup cc_BadNumber = some ⟨ocl_BadNumber, ocld_BadNumber, .cell (some (.ref c_BadNumber)), ocsl_BadNumber⟩)
    (cD_BadNumber : PySem.W.isClsIn K c_BadNumber = true)
    (tI_BadNumber : PySem.W.typeIn K (.ref fi_BadNumber) = some (.type "function"))
    {ooc_BadWeb okV_BadWeb odc_BadWeb opm_BadWeb oct_BadWeb occ_BadWeb ocl_BadWeb : Value} {ood_BadWeb oan_BadWeb ocdd_BadWeb ocld_BadWeb : Option Addr} {osl_BadWeb occs_BadWeb ocsl_BadWeb : Array (Option Value)} {ovs_BadWeb : Array Value} {ofi_BadWeb : Str} {otf_BadWeb : Tok}
    (lf_BadWeb : K.lookup fi_BadWeb = some ⟨ooc_BadWeb, ood_BadWeb, .func (PySem.W.ksFn "__init__" "BadWeb.__init__" (defArgs ini_BadWeb) (defBody ini_BadWeb) (defScope ini_BadWeb) .none okV_BadWeb odc_BadWeb opm_BadWeb oan_BadWeb (.ref cda_BadWeb) oct_BadWeb cc_BadWeb), osl_BadWeb⟩)
    (cd_BadWeb : PySem.W.codeIn K (.ref cda_BadWeb) "BadWeb.__init__" = true)
    (fl_BadWeb : K.lookup cda_BadWeb = some ⟨occ_BadWeb, ocdd_BadWeb, .fields ovs_BadWeb, occs_BadWeb⟩)
    (fv_BadWeb : ovs_BadWeb[2]? = some (.str ofi_BadWeb otf_BadWeb))
    (ff_BadWeb : ((PySem.Challenge.rw_flowtells_k00_errors_keep_their_fields.prog.main.file : Str) == ofi_BadWeb) = true)
    (ce_BadWeb : K.lookup cc_BadWeb = some ⟨ocl_BadWeb, ocld_BadWeb, .cell (some (.ref c_BadWeb)), ocsl_BadWeb⟩)
    (cD_BadWeb : PySem.W.isClsIn K c_BadWeb = true)
    (tI_BadWeb : PySem.W.typeIn K (.ref fi_BadWeb) = some (.type "function"))
    {ooc_BadTable okV_BadTable odc_BadTable opm_BadTable oct_BadTable occ_BadTable ocl_BadTable : Value} {ood_BadTable oan_BadTable ocdd_BadTable ocld_BadTable : Option Addr} {osl_BadTable occs_BadTable ocsl_BadTable : Array (Option Value)} {ovs_BadTable : Array Value} {ofi_BadTable : Str} {otf_BadTable : Tok}
    (lf_BadTable : K.lookup fi_BadTable = some ⟨ooc_BadTable, ood_BadTable, .func (PySem.W.ksFn "__init__" "BadTable.__init__" (defArgs ini_BadTable) (defBody ini_BadTable) (defScope ini_BadTable) .none okV_BadTable odc_BadTable opm_BadTable oan_BadTable (.ref cda_BadTable) oct_BadTable cc_BadTable), osl_BadTable⟩)
    (cd_BadTable : PySem.W.codeIn K (.ref cda_BadTable) "BadTable.__init__" = true)
    (fl_BadTable : K.lookup cda_BadTable = some ⟨occ_BadTable, ocdd_BadTable, .fields ovs_BadTable, occs_BadTable⟩)
    (fv_BadTable : ovs_BadTable[2]? = some (.str ofi_BadTable otf_BadTable))
    (ff_BadTable : ((PySem.Challenge.rw_flowtells_k00_errors_keep_their_fields.prog.main.file : Str) == ofi_BadTable) = true)
    (ce_BadTable : K.lookup cc_BadTable = some ⟨ocl_BadTable, ocld_BadTable, .cell (some (.ref c_BadTable)), ocsl_BadTable⟩)
    (cD_BadTable : PySem.W.isClsIn K c_BadTable = true)
    (tI_BadTable : PySem.W.typeIn K (.ref fi_BadTable) = some (.type "function"))
    {ooc_BadLot okV_BadLot odc_BadLot opm_BadLot oct_BadLot occ_BadLot ocl_BadLot : Value} {ood_BadLot oan_BadLot ocdd_BadLot ocld_BadLot : Option Addr} {osl_BadLot occs_BadLot ocsl_BadLot : Array (Option Value)} {ovs_BadLot : Array Value} {ofi_BadLot : Str} {otf_BadLot : Tok}
    (lf_BadLot : K.lookup fi_BadLot = some ⟨ooc_BadLot, ood_BadLot, .func (PySem.W.ksFn "__init__" "BadLot.__init__" (defArgs ini_BadLot) (defBody ini_BadLot) (defScope ini_BadLot) .none okV_BadLot odc_BadLot opm_BadLot oan_BadLot (.ref cda_BadLot) oct_BadLot cc_BadLot), osl_BadLot⟩)
    (cd_BadLot : PySem.W.codeIn K (.ref cda_BadLot) "BadLot.__init__" = true)
    (fl_BadLot : K.lookup cda_BadLot = some ⟨occ_BadLot, ocdd_BadLot, .fields ovs_BadLot, occs_BadLot⟩)
    (fv_BadLot : ovs_BadLot[2]? = some (.str ofi_BadLot otf_BadLot))
    (ff_BadLot : ((PySem.Challenge.rw_flowtells_k00_errors_keep_their_fields.prog.main.file : Str) == ofi_BadLot) = true)
    (ce_BadLot : K.lookup cc_BadLot = some ⟨ocl_BadLot, ocld_BadLot, .cell (some (.ref c_BadLot)), ocsl_BadLot⟩)
    (cD_BadLot : PySem.W.isClsIn K c_BadLot = true)
    (tI_BadLot : PySem.W.typeIn K (.ref fi_BadLot) = some (.type "function"))
    {ooc_Misfit okV_Misfit odc_Misfit opm_Misfit oct_Misfit occ_Misfit ocl_Misfit : Value} {ood_Misfit oan_Misfit ocdd_Misfit ocld_Misfit : Option Addr} {osl_Misfit occs_Misfit ocsl_Misfit : Array (Option Value)} {ovs_Misfit : Array Value} {ofi_Misfit : Str} {otf_Misfit : Tok}
    (lf_Misfit : K.lookup fi_Misfit = some ⟨ooc_Misfit, ood_Misfit, .func (PySem.W.ksFn "__init__" "Misfit.__init__" (defArgs ini_Misfit) (defBody ini_Misfit) (defScope ini_Misfit) .none okV_Misfit odc_Misfit opm_Misfit oan_Misfit (.ref cda_Misfit) oct_Misfit cc_Misfit), osl_Misfit⟩)
    (cd_Misfit : PySem.W.codeIn K (.ref cda_Misfit) "Misfit.__init__" = true)
    (fl_Misfit : K.lookup cda_Misfit = some ⟨occ_Misfit, ocdd_Misfit, .fields ovs_Misfit, occs_Misfit⟩)
    (fv_Misfit : ovs_Misfit[2]? = some (.str ofi_Misfit otf_Misfit))
    (ff_Misfit : ((PySem.Challenge.rw_flowtells_k00_errors_keep_their_fields.prog.main.file : Str) == ofi_Misfit) = true)
    (ce_Misfit : K.lookup cc_Misfit = some ⟨ocl_Misfit, ocld_Misfit, .cell (some (.ref c_Misfit)), ocsl_Misfit⟩)
    (cD_Misfit : PySem.W.isClsIn K c_Misfit = true)
    (tI_Misfit : PySem.W.typeIn K (.ref fi_Misfit) = some (.type "function"))
    {ooc_Twice okV_Twice odc_Twice opm_Twice oct_Twice occ_Twice ocl_Twice : Value} {ood_Twice oan_Twice ocdd_Twice ocld_Twice : Option Addr} {osl_Twice occs_Twice ocsl_Twice : Array (Option Value)} {ovs_Twice : Array Value} {ofi_Twice : Str} {otf_Twice : Tok}
    (lf_Twice : K.lookup fi_Twice = some ⟨ooc_Twice, ood_Twice, .func (PySem.W.ksFn "__init__" "Twice.__init__" (defArgs ini_Twice) (defBody ini_Twice) (defScope ini_Twice) .none okV_Twice odc_Twice opm_Twice oan_Twice (.ref cda_Twice) oct_Twice cc_Twice), osl_Twice⟩)
    (cd_Twice : PySem.W.codeIn K (.ref cda_Twice) "Twice.__init__" = true)
    (fl_Twice : K.lookup cda_Twice = some ⟨occ_Twice, ocdd_Twice, .fields ovs_Twice, occs_Twice⟩)
    (fv_Twice : ovs_Twice[2]? = some (.str ofi_Twice otf_Twice))
    (ff_Twice : ((PySem.Challenge.rw_flowtells_k00_errors_keep_their_fields.prog.main.file : Str) == ofi_Twice) = true)
    (ce_Twice : K.lookup cc_Twice = some ⟨ocl_Twice, ocld_Twice, .cell (some (.ref c_Twice)), ocsl_Twice⟩)
    (cD_Twice : PySem.W.isClsIn K c_Twice = true)
    (tI_Twice : PySem.W.typeIn K (.ref fi_Twice) = some (.type "function"))
    {ooc_TooMany okV_TooMany odc_TooMany opm_TooMany oct_TooMany occ_TooMany ocl_TooMany : Value} {ood_TooMany oan_TooMany ocdd_TooMany ocld_TooMany : Option Addr} {osl_TooMany occs_TooMany ocsl_TooMany : Array (Option Value)} {ovs_TooMany : Array Value} {ofi_TooMany : Str} {otf_TooMany : Tok}
    (lf_TooMany : K.lookup fi_TooMany = some ⟨ooc_TooMany, ood_TooMany, .func (PySem.W.ksFn "__init__" "TooMany.__init__" (defArgs ini_TooMany) (defBody ini_TooMany) (defScope ini_TooMany) .none okV_TooMany odc_TooMany opm_TooMany oan_TooMany (.ref cda_TooMany) oct_TooMany cc_TooMany), osl_TooMany⟩)
    (cd_TooMany : PySem.W.codeIn K (.ref cda_TooMany) "TooMany.__init__" = true)
    (fl_TooMany : K.lookup cda_TooMany = some ⟨occ_TooMany, ocdd_TooMany, .fields ovs_TooMany, occs_TooMany⟩)
    (fv_TooMany : ovs_TooMany[2]? = some (.str ofi_TooMany otf_TooMany))
    (ff_TooMany : ((PySem.Challenge.rw_flowtells_k00_errors_keep_their_fields.prog.main.file : Str) == ofi_TooMany) = true)
    (ce_TooMany : K.lookup cc_TooMany = some ⟨ocl_TooMany, ocld_TooMany, .cell (some (.ref c_TooMany)), ocsl_TooMany⟩)
    (cD_TooMany : PySem.W.isClsIn K c_TooMany = true)
    (tI_TooMany : PySem.W.typeIn K (.ref fi_TooMany) = some (.type "function"))
    {ooc_BadText okV_BadText odc_BadText opm_BadText oct_BadText occ_BadText ocl_BadText : Value} {ood_BadText oan_BadText ocdd_BadText ocld_BadText : Option Addr} {osl_BadText occs_BadText ocsl_BadText : Array (Option Value)} {ovs_BadText : Array Value} {ofi_BadText : Str} {otf_BadText : Tok}
    (lf_BadText : K.lookup fi_BadText = some ⟨ooc_BadText, ood_BadText, .func (PySem.W.ksFn "__init__" "BadText.__init__" (defArgs ini_BadText) (defBody ini_BadText) (defScope ini_BadText) .none okV_BadText odc_BadText opm_BadText oan_BadText (.ref cda_BadText) oct_BadText cc_BadText), osl_BadText⟩)
    (cd_BadText : PySem.W.codeIn K (.ref cda_BadText) "BadText.__init__" = true)
    (fl_BadText : K.lookup cda_BadText = some ⟨occ_BadText, ocdd_BadText, .fields ovs_BadText, occs_BadText⟩)
    (fv_BadText : ovs_BadText[2]? = some (.str ofi_BadText otf_BadText))
    (ff_BadText : ((PySem.Challenge.rw_flowtells_k00_errors_keep_their_fields.prog.main.file : Str) == ofi_BadText) = true)
    (ce_BadText : K.lookup cc_BadText = some ⟨ocl_BadText, ocld_BadText, .cell (some (.ref c_BadText)), ocsl_BadText⟩)
    (cD_BadText : PySem.W.isClsIn K c_BadText = true)
    (tI_BadText : PySem.W.typeIn K (.ref fi_BadText) = some (.type "function"))
    (q_is_BadText_Missing : PySem.W.kitOne K (.ref c_Missing) (.ref c_BadText) = some false)
    (q_is_BadText_BadNumber : PySem.W.kitOne K (.ref c_BadNumber) (.ref c_BadText) = some false)
    (q_is_BadText_BadWeb : PySem.W.kitOne K (.ref c_BadWeb) (.ref c_BadText) = some false)
    (q_is_BadText_BadTable : PySem.W.kitOne K (.ref c_BadTable) (.ref c_BadText) = some false)
    (q_is_BadText_BadLot : PySem.W.kitOne K (.ref c_BadLot) (.ref c_BadText) = some false)
    (q_is_BadText_Misfit : PySem.W.kitOne K (.ref c_Misfit) (.ref c_BadText) = some false)
    (q_is_BadText_NoPlace : PySem.W.kitOne K (.ref c_NoPlace) (.ref c_BadText) = some false)
    (q_is_BadText_NoTie : PySem.W.kitOne K (.ref c_NoTie) (.ref c_BadText) = some false)
    (q_is_BadText_Twice : PySem.W.kitOne K (.ref c_Twice) (.ref c_BadText) = some false)
    (q_is_BadText_TooMany : PySem.W.kitOne K (.ref c_TooMany) (.ref c_BadText) = some false)
    (q_is_BadText_BadText : PySem.W.kitOne K (.ref c_BadText) (.ref c_BadText) = some true)
    (q_is_TooMany_Missing : PySem.W.kitOne K (.ref c_Missing) (.ref c_TooMany) = some false)
    (q_is_TooMany_BadNumber : PySem.W.kitOne K (.ref c_BadNumber) (.ref c_TooMany) = some false)
    (q_is_TooMany_BadWeb : PySem.W.kitOne K (.ref c_BadWeb) (.ref c_TooMany) = some false)
    (q_is_TooMany_BadTable : PySem.W.kitOne K (.ref c_BadTable) (.ref c_TooMany) = some false)
    (q_is_TooMany_BadLot : PySem.W.kitOne K (.ref c_BadLot) (.ref c_TooMany) = some false)
    (q_is_TooMany_Misfit : PySem.W.kitOne K (.ref c_Misfit) (.ref c_TooMany) = some false)
    (q_is_TooMany_NoPlace : PySem.W.kitOne K (.ref c_NoPlace) (.ref c_TooMany) = some false)
    (q_is_TooMany_NoTie : PySem.W.kitOne K (.ref c_NoTie) (.ref c_TooMany) = some false)
    (q_is_TooMany_Twice : PySem.W.kitOne K (.ref c_Twice) (.ref c_TooMany) = some false)
    (q_is_TooMany_TooMany : PySem.W.kitOne K (.ref c_TooMany) (.ref c_TooMany) = some true)
    (q_is_TooMany_BadText : PySem.W.kitOne K (.ref c_BadText) (.ref c_TooMany) = some false)
    (q_is_Twice_Missing : PySem.W.kitOne K (.ref c_Missing) (.ref c_Twice) = some false)
    (q_is_Twice_BadNumber : PySem.W.kitOne K (.ref c_BadNumber) (.ref c_Twice) = some false)
    (q_is_Twice_BadWeb : PySem.W.kitOne K (.ref c_BadWeb) (.ref c_Twice) = some false)
    (q_is_Twice_BadTable : PySem.W.kitOne K (.ref c_BadTable) (.ref c_Twice) = some false)
    (q_is_Twice_BadLot : PySem.W.kitOne K (.ref c_BadLot) (.ref c_Twice) = some false)
    (q_is_Twice_Misfit : PySem.W.kitOne K (.ref c_Misfit) (.ref c_Twice) = some false)
    (q_is_Twice_NoPlace : PySem.W.kitOne K (.ref c_NoPlace) (.ref c_Twice) = some false)
    (q_is_Twice_NoTie : PySem.W.kitOne K (.ref c_NoTie) (.ref c_Twice) = some false)
    (q_is_Twice_Twice : PySem.W.kitOne K (.ref c_Twice) (.ref c_Twice) = some true)
    (q_is_Twice_TooMany : PySem.W.kitOne K (.ref c_TooMany) (.ref c_Twice) = some false)
    (q_is_Twice_BadText : PySem.W.kitOne K (.ref c_BadText) (.ref c_Twice) = some false)
    (q_is_NoTie_Missing : PySem.W.kitOne K (.ref c_Missing) (.ref c_NoTie) = some false)
    (q_is_NoTie_BadNumber : PySem.W.kitOne K (.ref c_BadNumber) (.ref c_NoTie) = some false)
    (q_is_NoTie_BadWeb : PySem.W.kitOne K (.ref c_BadWeb) (.ref c_NoTie) = some false)
    (q_is_NoTie_BadTable : PySem.W.kitOne K (.ref c_BadTable) (.ref c_NoTie) = some false)
    (q_is_NoTie_BadLot : PySem.W.kitOne K (.ref c_BadLot) (.ref c_NoTie) = some false)
    (q_is_NoTie_Misfit : PySem.W.kitOne K (.ref c_Misfit) (.ref c_NoTie) = some false)
    (q_is_NoTie_NoPlace : PySem.W.kitOne K (.ref c_NoPlace) (.ref c_NoTie) = some false)
    (q_is_NoTie_NoTie : PySem.W.kitOne K (.ref c_NoTie) (.ref c_NoTie) = some true)
    (q_is_NoTie_Twice : PySem.W.kitOne K (.ref c_Twice) (.ref c_NoTie) = some false)
    (q_is_NoTie_TooMany : PySem.W.kitOne K (.ref c_TooMany) (.ref c_NoTie) = some false)
    (q_is_NoTie_BadText : PySem.W.kitOne K (.ref c_BadText) (.ref c_NoTie) = some false)
    (q_is_NoPlace_Missing : PySem.W.kitOne K (.ref c_Missing) (.ref c_NoPlace) = some false)
    (q_is_NoPlace_BadNumber : PySem.W.kitOne K (.ref c_BadNumber) (.ref c_NoPlace) = some false)
    (q_is_NoPlace_BadWeb : PySem.W.kitOne K (.ref c_BadWeb) (.ref c_NoPlace) = some false)
    (q_is_NoPlace_BadTable : PySem.W.kitOne K (.ref c_BadTable) (.ref c_NoPlace) = some false)
    (q_is_NoPlace_BadLot : PySem.W.kitOne K (.ref c_BadLot) (.ref c_NoPlace) = some false)
    (q_is_NoPlace_Misfit : PySem.W.kitOne K (.ref c_Misfit) (.ref c_NoPlace) = some false)
    (q_is_NoPlace_NoPlace : PySem.W.kitOne K (.ref c_NoPlace) (.ref c_NoPlace) = some true)
    (q_is_NoPlace_NoTie : PySem.W.kitOne K (.ref c_NoTie) (.ref c_NoPlace) = some false)
    (q_is_NoPlace_Twice : PySem.W.kitOne K (.ref c_Twice) (.ref c_NoPlace) = some false)
    (q_is_NoPlace_TooMany : PySem.W.kitOne K (.ref c_TooMany) (.ref c_NoPlace) = some false)
    (q_is_NoPlace_BadText : PySem.W.kitOne K (.ref c_BadText) (.ref c_NoPlace) = some false)
    (q_is_Misfit_Missing : PySem.W.kitOne K (.ref c_Missing) (.ref c_Misfit) = some false)
    (q_is_Misfit_BadNumber : PySem.W.kitOne K (.ref c_BadNumber) (.ref c_Misfit) = some false)
    (q_is_Misfit_BadWeb : PySem.W.kitOne K (.ref c_BadWeb) (.ref c_Misfit) = some false)
    (q_is_Misfit_BadTable : PySem.W.kitOne K (.ref c_BadTable) (.ref c_Misfit) = some false)
    (q_is_Misfit_BadLot : PySem.W.kitOne K (.ref c_BadLot) (.ref c_Misfit) = some false)
    (q_is_Misfit_Misfit : PySem.W.kitOne K (.ref c_Misfit) (.ref c_Misfit) = some true)
    (q_is_Misfit_NoPlace : PySem.W.kitOne K (.ref c_NoPlace) (.ref c_Misfit) = some false)
    (q_is_Misfit_NoTie : PySem.W.kitOne K (.ref c_NoTie) (.ref c_Misfit) = some false)
    (q_is_Misfit_Twice : PySem.W.kitOne K (.ref c_Twice) (.ref c_Misfit) = some false)
    (q_is_Misfit_TooMany : PySem.W.kitOne K (.ref c_TooMany) (.ref c_Misfit) = some false)
    (q_is_Misfit_BadText : PySem.W.kitOne K (.ref c_BadText) (.ref c_Misfit) = some false)
    (q_is_BadLot_Missing : PySem.W.kitOne K (.ref c_Missing) (.ref c_BadLot) = some false)
    (q_is_BadLot_BadNumber : PySem.W.kitOne K (.ref c_BadNumber) (.ref c_BadLot) = some false)
    (q_is_BadLot_BadWeb : PySem.W.kitOne K (.ref c_BadWeb) (.ref c_BadLot) = some false)
    (q_is_BadLot_BadTable : PySem.W.kitOne K (.ref c_BadTable) (.ref c_BadLot) = some false)
    (q_is_BadLot_BadLot : PySem.W.kitOne K (.ref c_BadLot) (.ref c_BadLot) = some true)
    (q_is_BadLot_Misfit : PySem.W.kitOne K (.ref c_Misfit) (.ref c_BadLot) = some false)
    (q_is_BadLot_NoPlace : PySem.W.kitOne K (.ref c_NoPlace) (.ref c_BadLot) = some false)
    (q_is_BadLot_NoTie : PySem.W.kitOne K (.ref c_NoTie) (.ref c_BadLot) = some false)
    (q_is_BadLot_Twice : PySem.W.kitOne K (.ref c_Twice) (.ref c_BadLot) = some false)
    (q_is_BadLot_TooMany : PySem.W.kitOne K (.ref c_TooMany) (.ref c_BadLot) = some false)
    (q_is_BadLot_BadText : PySem.W.kitOne K (.ref c_BadText) (.ref c_BadLot) = some false)
    (q_is_BadTable_Missing : PySem.W.kitOne K (.ref c_Missing) (.ref c_BadTable) = some false)
    (q_is_BadTable_BadNumber : PySem.W.kitOne K (.ref c_BadNumber) (.ref c_BadTable) = some false)
    (q_is_BadTable_BadWeb : PySem.W.kitOne K (.ref c_BadWeb) (.ref c_BadTable) = some false)
    (q_is_BadTable_BadTable : PySem.W.kitOne K (.ref c_BadTable) (.ref c_BadTable) = some true)
    (q_is_BadTable_BadLot : PySem.W.kitOne K (.ref c_BadLot) (.ref c_BadTable) = some false)
    (q_is_BadTable_Misfit : PySem.W.kitOne K (.ref c_Misfit) (.ref c_BadTable) = some false)
    (q_is_BadTable_NoPlace : PySem.W.kitOne K (.ref c_NoPlace) (.ref c_BadTable) = some false)
    (q_is_BadTable_NoTie : PySem.W.kitOne K (.ref c_NoTie) (.ref c_BadTable) = some false)
    (q_is_BadTable_Twice : PySem.W.kitOne K (.ref c_Twice) (.ref c_BadTable) = some false)
    (q_is_BadTable_TooMany : PySem.W.kitOne K (.ref c_TooMany) (.ref c_BadTable) = some false)
    (q_is_BadTable_BadText : PySem.W.kitOne K (.ref c_BadText) (.ref c_BadTable) = some false)
    (q_is_BadWeb_Missing : PySem.W.kitOne K (.ref c_Missing) (.ref c_BadWeb) = some false)
    (q_is_BadWeb_BadNumber : PySem.W.kitOne K (.ref c_BadNumber) (.ref c_BadWeb) = some false)
    (q_is_BadWeb_BadWeb : PySem.W.kitOne K (.ref c_BadWeb) (.ref c_BadWeb) = some true)
    (q_is_BadWeb_BadTable : PySem.W.kitOne K (.ref c_BadTable) (.ref c_BadWeb) = some false)
    (q_is_BadWeb_BadLot : PySem.W.kitOne K (.ref c_BadLot) (.ref c_BadWeb) = some false)
    (q_is_BadWeb_Misfit : PySem.W.kitOne K (.ref c_Misfit) (.ref c_BadWeb) = some false)
    (q_is_BadWeb_NoPlace : PySem.W.kitOne K (.ref c_NoPlace) (.ref c_BadWeb) = some false)
    (q_is_BadWeb_NoTie : PySem.W.kitOne K (.ref c_NoTie) (.ref c_BadWeb) = some false)
    (q_is_BadWeb_Twice : PySem.W.kitOne K (.ref c_Twice) (.ref c_BadWeb) = some false)
    (q_is_BadWeb_TooMany : PySem.W.kitOne K (.ref c_TooMany) (.ref c_BadWeb) = some false)
    (q_is_BadWeb_BadText : PySem.W.kitOne K (.ref c_BadText) (.ref c_BadWeb) = some false)
    (q_is_BadNumber_Missing : PySem.W.kitOne K (.ref c_Missing) (.ref c_BadNumber) = some false)
    (q_is_BadNumber_BadNumber : PySem.W.kitOne K (.ref c_BadNumber) (.ref c_BadNumber) = some true)
    (q_is_BadNumber_BadWeb : PySem.W.kitOne K (.ref c_BadWeb) (.ref c_BadNumber) = some false)
    (q_is_BadNumber_BadTable : PySem.W.kitOne K (.ref c_BadTable) (.ref c_BadNumber) = some false)
    (q_is_BadNumber_BadLot : PySem.W.kitOne K (.ref c_BadLot) (.ref c_BadNumber) = some false)
    (q_is_BadNumber_Misfit : PySem.W.kitOne K (.ref c_Misfit) (.ref c_BadNumber) = some false)
    (q_is_BadNumber_NoPlace : PySem.W.kitOne K (.ref c_NoPlace) (.ref c_BadNumber) = some false)
    (q_is_BadNumber_NoTie : PySem.W.kitOne K (.ref c_NoTie) (.ref c_BadNumber) = some false)
    (q_is_BadNumber_Twice : PySem.W.kitOne K (.ref c_Twice) (.ref c_BadNumber) = some false)
    (q_is_BadNumber_TooMany : PySem.W.kitOne K (.ref c_TooMany) (.ref c_BadNumber) = some false)
    (q_is_BadNumber_BadText : PySem.W.kitOne K (.ref c_BadText) (.ref c_BadNumber) = some false)
    (q_is_LookupError_TypeError_ArithmeticError_AttributeError_RuntimeError_Missing : PySem.W.kitAny K (.ref c_Missing) [(.type "LookupError"), (.type "TypeError"), (.type "ArithmeticError"), (.type "AttributeError"), (.type "RuntimeError")] = some false)
    (q_is_LookupError_TypeError_ArithmeticError_AttributeError_RuntimeError_BadNumber : PySem.W.kitAny K (.ref c_BadNumber) [(.type "LookupError"), (.type "TypeError"), (.type "ArithmeticError"), (.type "AttributeError"), (.type "RuntimeError")] = some false)
    (q_is_LookupError_TypeError_ArithmeticError_AttributeError_RuntimeError_BadWeb : PySem.W.kitAny K (.ref c_BadWeb) [(.type "LookupError"), (.type "TypeError"), (.type "ArithmeticError"), (.type "AttributeError"), (.type "RuntimeError")] = some false)
    (q_is_LookupError_TypeError_ArithmeticError_AttributeError_RuntimeError_BadTable : PySem.W.kitAny K (.ref c_BadTable) [(.type "LookupError"), (.type "TypeError"), (.type "ArithmeticError"), (.type "AttributeError"), (.type "RuntimeError")] = some false)
    (q_is_LookupError_TypeError_ArithmeticError_AttributeError_RuntimeError_BadLot : PySem.W.kitAny K (.ref c_BadLot) [(.type "LookupError"), (.type "TypeError"), (.type "ArithmeticError"), (.type "AttributeError"), (.type "RuntimeError")] = some false)
    (q_is_LookupError_TypeError_ArithmeticError_AttributeError_RuntimeError_Misfit : PySem.W.kitAny K (.ref c_Misfit) [(.type "LookupError"), (.type "TypeError"), (.type "ArithmeticError"), (.type "AttributeError"), (.type "RuntimeError")] = some false)
    (q_is_LookupError_TypeError_ArithmeticError_AttributeError_RuntimeError_NoPlace : PySem.W.kitAny K (.ref c_NoPlace) [(.type "LookupError"), (.type "TypeError"), (.type "ArithmeticError"), (.type "AttributeError"), (.type "RuntimeError")] = some false)
    (q_is_LookupError_TypeError_ArithmeticError_AttributeError_RuntimeError_NoTie : PySem.W.kitAny K (.ref c_NoTie) [(.type "LookupError"), (.type "TypeError"), (.type "ArithmeticError"), (.type "AttributeError"), (.type "RuntimeError")] = some false)
    (q_is_LookupError_TypeError_ArithmeticError_AttributeError_RuntimeError_Twice : PySem.W.kitAny K (.ref c_Twice) [(.type "LookupError"), (.type "TypeError"), (.type "ArithmeticError"), (.type "AttributeError"), (.type "RuntimeError")] = some false)
    (q_is_LookupError_TypeError_ArithmeticError_AttributeError_RuntimeError_TooMany : PySem.W.kitAny K (.ref c_TooMany) [(.type "LookupError"), (.type "TypeError"), (.type "ArithmeticError"), (.type "AttributeError"), (.type "RuntimeError")] = some false)
    (q_is_LookupError_TypeError_ArithmeticError_AttributeError_RuntimeError_BadText : PySem.W.kitAny K (.ref c_BadText) [(.type "LookupError"), (.type "TypeError"), (.type "ArithmeticError"), (.type "AttributeError"), (.type "RuntimeError")] = some false)
    (q_is_NetError_Missing : PySem.W.kitOne K (.ref c_Missing) (.ref c_NetError) = some true)
    (q_is_NetError_BadNumber : PySem.W.kitOne K (.ref c_BadNumber) (.ref c_NetError) = some true)
    (q_is_NetError_BadWeb : PySem.W.kitOne K (.ref c_BadWeb) (.ref c_NetError) = some true)
    (q_is_NetError_BadTable : PySem.W.kitOne K (.ref c_BadTable) (.ref c_NetError) = some true)
    (q_is_NetError_BadLot : PySem.W.kitOne K (.ref c_BadLot) (.ref c_NetError) = some true)
    (q_is_NetError_Misfit : PySem.W.kitOne K (.ref c_Misfit) (.ref c_NetError) = some true)
    (q_is_NetError_NoPlace : PySem.W.kitOne K (.ref c_NoPlace) (.ref c_NetError) = some true)
    (q_is_NetError_NoTie : PySem.W.kitOne K (.ref c_NoTie) (.ref c_NetError) = some true)
    (q_is_NetError_Twice : PySem.W.kitOne K (.ref c_Twice) (.ref c_NetError) = some true)
    (q_is_NetError_TooMany : PySem.W.kitOne K (.ref c_TooMany) (.ref c_NetError) = some true)
    (q_is_NetError_BadText : PySem.W.kitOne K (.ref c_BadText) (.ref c_NetError) = some true)
    (q_is_ValueError_Missing : PySem.W.kitOne K (.ref c_Missing) (.type "ValueError") = some true)
    (q_is_ValueError_BadNumber : PySem.W.kitOne K (.ref c_BadNumber) (.type "ValueError") = some true)
    (q_is_ValueError_BadWeb : PySem.W.kitOne K (.ref c_BadWeb) (.type "ValueError") = some true)
    (q_is_ValueError_BadTable : PySem.W.kitOne K (.ref c_BadTable) (.type "ValueError") = some true)
    (q_is_ValueError_BadLot : PySem.W.kitOne K (.ref c_BadLot) (.type "ValueError") = some true)
    (q_is_ValueError_Misfit : PySem.W.kitOne K (.ref c_Misfit) (.type "ValueError") = some true)
    (q_is_ValueError_NoPlace : PySem.W.kitOne K (.ref c_NoPlace) (.type "ValueError") = some true)
    (q_is_ValueError_NoTie : PySem.W.kitOne K (.ref c_NoTie) (.type "ValueError") = some true)
    (q_is_ValueError_Twice : PySem.W.kitOne K (.ref c_Twice) (.type "ValueError") = some true)
    (q_is_ValueError_TooMany : PySem.W.kitOne K (.ref c_TooMany) (.type "ValueError") = some true)
    (q_is_ValueError_BadText : PySem.W.kitOne K (.ref c_BadText) (.type "ValueError") = some true)
    (q_is_Missing_Missing : PySem.W.kitOne K (.ref c_Missing) (.ref c_Missing) = some true)
    (q_is_Missing_BadNumber : PySem.W.kitOne K (.ref c_BadNumber) (.ref c_Missing) = some false)
    (q_is_Missing_BadWeb : PySem.W.kitOne K (.ref c_BadWeb) (.ref c_Missing) = some false)
    (q_is_Missing_BadTable : PySem.W.kitOne K (.ref c_BadTable) (.ref c_Missing) = some false)
    (q_is_Missing_BadLot : PySem.W.kitOne K (.ref c_BadLot) (.ref c_Missing) = some false)
    (q_is_Missing_Misfit : PySem.W.kitOne K (.ref c_Misfit) (.ref c_Missing) = some false)
    (q_is_Missing_NoPlace : PySem.W.kitOne K (.ref c_NoPlace) (.ref c_Missing) = some true)
    (q_is_Missing_NoTie : PySem.W.kitOne K (.ref c_NoTie) (.ref c_Missing) = some true)
    (q_is_Missing_Twice : PySem.W.kitOne K (.ref c_Twice) (.ref c_Missing) = some false)
    (q_is_Missing_TooMany : PySem.W.kitOne K (.ref c_TooMany) (.ref c_Missing) = some false)
    (q_is_Missing_BadText : PySem.W.kitOne K (.ref c_BadText) (.ref c_Missing) = some false)
    : ∃ fd : FuncData, (∀ (s : Shared) (v : Value), BindsTo s fd ⟨[v], []⟩ [("script", v)]) ∧ ∀ base : Heap, K.In base → base.Ns mainGlobals mg → FnG PySem.Challenge.rw_flowtells_k00_errors_keep_their_fields.prog w K mg base (L2.CX PySem.Challenge.rw_flowtells_k00_errors_keep_their_fields.prog w) 14 fa fd ["script"] (spM ⟨K, w, mg⟩ 1 m_law) := by
  have e := hfa.symm.trans (PySem.W.mg_of X G a_law)
  cases e
  have F__law_cruet := fun_mk (st := st__law_cruet) l__law_cruet c__law_cruet k__law_cruet
  have F__law_dash := fun_mk (st := st__law_dash) l__law_dash c__law_dash k__law_dash
  have F__law_kin := fun_mk (st := st__law_kin) l__law_kin c__law_kin k__law_kin
  have F__law_one_of := fun_mk (st := st__law_one_of) l__law_one_of c__law_one_of k__law_one_of
  have F__law_stands := fun_mk (st := st__law_stands) l__law_stands c__law_stands k__law_stands
  have F__law_any := fun_mk (st := st__law_any) l__law_any c__law_any k__law_any
  have F__law_parts_right := fun_mk (st := st__law_parts_right) l__law_parts_right c__law_parts_right k__law_parts_right
  have F__law_fields_right := fun_mk (st := st__law_fields_right) l__law_fields_right c__law_fields_right k__law_fields_right
  have F_law := fun_mk (st := st_law) l_law c_law k_law
  have tps : (PySem.Challenge.rw_flowtells_k00_errors_keep_their_fields.prog.main.scope.names.lookup ("super" : Str)).isSome = false := by decide +kernel
  have E_Missing := exck_of lc_Missing ga_Missing gg_Missing be_Missing hd_Missing ca_Missing ob_Missing spc tkc
  have S_Missing := supc_of (P := PySem.Challenge.rw_flowtells_k00_errors_keep_their_fields.prog) (st := ini_Missing) lc_Missing r_Missing sa_Missing kI_Missing su_Missing in_Missing ve_Missing ex_Missing kC_Missing lf_Missing cd_Missing fl_Missing fv_Missing ff_Missing ce_Missing cD_Missing tI_Missing zS opq tps
  have E_BadNumber := exck_of lc_BadNumber ga_BadNumber gg_BadNumber be_BadNumber hd_BadNumber ca_BadNumber ob_BadNumber spc tkc
  have S_BadNumber := supc_of (P := PySem.Challenge.rw_flowtells_k00_errors_keep_their_fields.prog) (st := ini_BadNumber) lc_BadNumber r_BadNumber sa_BadNumber kI_BadNumber su_BadNumber in_BadNumber ve_BadNumber ex_BadNumber kC_BadNumber lf_BadNumber cd_BadNumber fl_BadNumber fv_BadNumber ff_BadNumber ce_BadNumber cD_BadNumber tI_BadNumber zS opq tps
  have E_BadWeb := exck_of lc_BadWeb ga_BadWeb gg_BadWeb be_BadWeb hd_BadWeb ca_BadWeb ob_BadWeb spc tkc
  have S_BadWeb := supc_of (P := PySem.Challenge.rw_flowtells_k00_errors_keep_their_fields.prog) (st := ini_BadWeb) lc_BadWeb r_BadWeb sa_BadWeb kI_BadWeb su_BadWeb in_BadWeb ve_BadWeb ex_BadWeb kC_BadWeb lf_BadWeb cd_BadWeb fl_BadWeb fv_BadWeb ff_BadWeb ce_BadWeb cD_BadWeb tI_BadWeb zS opq tps
  have E_BadTable := exck_of lc_BadTable ga_BadTable gg_BadTable be_BadTable hd_BadTable ca_BadTable ob_BadTable spc tkc
  have S_BadTable := supc_of (P := PySem.Challenge.rw_flowtells_k00_errors_keep_their_fields.prog) (st := ini_BadTable) lc_BadTable r_BadTable sa_BadTable kI_BadTable su_BadTable in_BadTable ve_BadTable ex_BadTable kC_BadTable lf_BadTable cd_BadTable fl_BadTable fv_BadTable ff_BadTable ce_BadTable cD_BadTable tI_BadTable zS opq tps
  have E_BadLot := exck_of lc_BadLot ga_BadLot gg_BadLot be_BadLot hd_BadLot ca_BadLot ob_BadLot spc tkc
  have S_BadLot := supc_of (P := PySem.Challenge.rw_flowtells_k00_errors_keep_their_fields.prog) (st := ini_BadLot) lc_BadLot r_BadLot sa_BadLot kI_BadLot su_BadLot in_BadLot ve_BadLot ex_BadLot kC_BadLot lf_BadLot cd_BadLot fl_BadLot fv_BadLot ff_BadLot ce_BadLot cD_BadLot tI_BadLot zS opq tps
  have E_Misfit := exck_of lc_Misfit ga_Misfit gg_Misfit be_Misfit hd_Misfit ca_Misfit ob_Misfit spc tkc
  have S_Misfit := supc_of (P := PySem.Challenge.rw_flowtells_k00_errors_keep_their_fields.prog) (st := ini_Misfit) lc_Misfit r_Misfit sa_Misfit kI_Misfit su_Misfit in_Misfit ve_Misfit ex_Misfit kC_Misfit lf_Misfit cd_Misfit fl_Misfit fv_Misfit ff_Misfit ce_Misfit cD_Misfit tI_Misfit zS opq tps
  have E_NoPlace := exck_of lc_NoPlace ga_NoPlace gg_NoPlace be_NoPlace hd_NoPlace ca_NoPlace ob_NoPlace spc tkc
  have S_NoPlace := supc_of (P := PySem.Challenge.rw_flowtells_k00_errors_keep_their_fields.prog) (st := ini_Missing) lc_NoPlace r_NoPlace sa_NoPlace kI_NoPlace su_NoPlace in_NoPlace ve_NoPlace ex_NoPlace kC_NoPlace lf_Missing cd_Missing fl_Missing fv_Missing ff_Missing ce_Missing cD_Missing tI_Missing zS opq tps
  have E_NoTie := exck_of lc_NoTie ga_NoTie gg_NoTie be_NoTie hd_NoTie ca_NoTie ob_NoTie spc tkc
  have S_NoTie := supc_of (P := PySem.Challenge.rw_flowtells_k00_errors_keep_their_fields.prog) (st := ini_Missing) lc_NoTie r_NoTie sa_NoTie kI_NoTie su_NoTie in_NoTie ve_NoTie ex_NoTie kC_NoTie lf_Missing cd_Missing fl_Missing fv_Missing ff_Missing ce_Missing cD_Missing tI_Missing zS opq tps
  have E_Twice := exck_of lc_Twice ga_Twice gg_Twice be_Twice hd_Twice ca_Twice ob_Twice spc tkc
  have S_Twice := supc_of (P := PySem.Challenge.rw_flowtells_k00_errors_keep_their_fields.prog) (st := ini_Twice) lc_Twice r_Twice sa_Twice kI_Twice su_Twice in_Twice ve_Twice ex_Twice kC_Twice lf_Twice cd_Twice fl_Twice fv_Twice ff_Twice ce_Twice cD_Twice tI_Twice zS opq tps
  have E_TooMany := exck_of lc_TooMany ga_TooMany gg_TooMany be_TooMany hd_TooMany ca_TooMany ob_TooMany spc tkc
  have S_TooMany := supc_of (P := PySem.Challenge.rw_flowtells_k00_errors_keep_their_fields.prog) (st := ini_TooMany) lc_TooMany r_TooMany sa_TooMany kI_TooMany su_TooMany in_TooMany ve_TooMany ex_TooMany kC_TooMany lf_TooMany cd_TooMany fl_TooMany fv_TooMany ff_TooMany ce_TooMany cD_TooMany tI_TooMany zS opq tps
  have E_BadText := exck_of lc_BadText ga_BadText gg_BadText be_BadText hd_BadText ca_BadText ob_BadText spc tkc
  have S_BadText := supc_of (P := PySem.Challenge.rw_flowtells_k00_errors_keep_their_fields.prog) (st := ini_BadText) lc_BadText r_BadText sa_BadText kI_BadText su_BadText in_BadText ve_BadText ex_BadText kC_BadText lf_BadText cd_BadText fl_BadText fv_BadText ff_BadText ce_BadText cD_BadText tI_BadText zS opq tps
  have T := Txt.mk (P := PySem.Challenge.rw_flowtells_k00_errors_keep_their_fields.prog) (K := K) (mg := mg) F__law_cruet
    (PySem.W.mg_of X G a__law_cruet)
    F__law_dash
    (PySem.W.mg_of X G a__law_dash)
    F__law_kin
    (PySem.W.mg_of X G a__law_kin)
    F__law_one_of
    (PySem.W.mg_of X G a__law_one_of)
    F__law_stands
    (PySem.W.mg_of X G a__law_stands)
    F__law_any
    (PySem.W.mg_of X G a__law_any)
    F__law_parts_right
    (PySem.W.mg_of X G a__law_parts_right)
    F__law_fields_right
    (PySem.W.mg_of X G a__law_fields_right)
    F_law
    (PySem.W.mg_of X G a_law)
    (PySem.W.mg_none_of X G z_ArithmeticError)
    (PySem.W.mg_none_of X G z_AttributeError)
    (PySem.W.mg_none_of X G z_LookupError)
    (PySem.W.mg_none_of X G z_RuntimeError)
    (PySem.W.mg_none_of X G z_TypeError)
    (PySem.W.mg_none_of X G z_ValueError)
    (PySem.W.mg_none_of X G z_abs)
    (PySem.W.mg_none_of X G z_enumerate)
    (PySem.W.mg_none_of X G z_int)
    (PySem.W.mg_none_of X G z_isinstance)
    (PySem.W.mg_none_of X G z_len)
    (PySem.W.mg_none_of X G z_range)
    (PySem.W.mg_none_of X G z_str)
    (PySem.W.mg_of X G a_Missing)
    (PySem.W.mg_of X G a_BadNumber)
    (PySem.W.mg_of X G a_BadWeb)
    (PySem.W.mg_of X G a_BadTable)
    (PySem.W.mg_of X G a_BadLot)
    (PySem.W.mg_of X G a_Misfit)
    (PySem.W.mg_of X G a_NoPlace)
    (PySem.W.mg_of X G a_NoTie)
    (PySem.W.mg_of X G a_Twice)
    (PySem.W.mg_of X G a_TooMany)
    (PySem.W.mg_of X G a_BadText)
    (PySem.W.mg_of X G a_NetError)
    ⟨_, _, _, _, _, S_Misfit, fun s self us ws h1 h2 => match us, h1, ws, h2 with | [], _, [_], _ => .of_eq rfl⟩
    ⟨_, _, _, _, _, S_BadLot, fun s self us ws h1 h2 => match us, h1, ws, h2 with | [], _, [_], _ => .of_eq rfl⟩
    ⟨_, _, _, _, _, S_BadTable, fun s self us ws h1 h2 => match us, h1, ws, h2 with | [], _, [_], _ => .of_eq rfl⟩
    ⟨_, _, _, _, _, S_BadWeb, fun s self us ws h1 h2 => match us, h1, ws, h2 with | [], _, [_], _ => .of_eq rfl⟩
    ⟨_, _, _, _, _, S_BadNumber, fun s self us ws h1 h2 => match us, h1, ws, h2 with | [], _, [_], _ => .of_eq rfl⟩
    ⟨_, _, _, _, _, S_Misfit, fun s self us ws h1 h2 => match us, h1, ws, h2 with | [_], _, [], _ => .of_eq rfl⟩
    ⟨_, _, _, _, _, S_BadLot, fun s self us ws h1 h2 => match us, h1, ws, h2 with | [_], _, [], _ => .of_eq rfl⟩
    ⟨_, _, _, _, _, S_BadTable, fun s self us ws h1 h2 => match us, h1, ws, h2 with | [_], _, [], _ => .of_eq rfl⟩
    ⟨_, _, _, _, _, S_BadWeb, fun s self us ws h1 h2 => match us, h1, ws, h2 with | [_], _, [], _ => .of_eq rfl⟩
    ⟨_, _, _, _, _, S_BadNumber, fun s self us ws h1 h2 => match us, h1, ws, h2 with | [_], _, [], _ => .of_eq rfl⟩
    ⟨_, _, _, _, _, S_BadText, fun s self us ws h1 h2 => match us, h1, ws, h2 with | [], _, [_, _], _ => .of_eq rfl⟩
    ⟨_, _, _, _, _, S_BadText, fun s self us ws h1 h2 => match us, h1, ws, h2 with | [_, _], _, [], _ => .of_eq rfl⟩
    ⟨_, _, _, _, _, S_TooMany, fun s self us ws h1 h2 => match us, h1, ws, h2 with | [], _, [_, _], _ => .of_eq rfl⟩
    ⟨_, _, _, _, _, S_TooMany, fun s self us ws h1 h2 => match us, h1, ws, h2 with | [_, _], _, [], _ => .of_eq rfl⟩
    ⟨_, _, _, _, _, S_Missing, fun s self us ws h1 h2 => match us, h1, ws, h2 with | [_], _, [], _ => .of_eq rfl⟩
    ⟨_, _, _, _, _, S_Missing, fun s self us ws h1 h2 => match us, h1, ws, h2 with | [], _, [_], _ => .of_eq rfl⟩
    ⟨_, _, _, _, _, S_Twice, fun s self us ws h1 h2 => match us, h1, ws, h2 with | [], _, [_], _ => .of_eq rfl⟩
    ⟨_, _, _, _, _, S_NoTie, fun s self us ws h1 h2 => match us, h1, ws, h2 with | [], _, [_], _ => .of_eq rfl⟩
    ⟨_, _, _, _, _, S_NoPlace, fun s self us ws h1 h2 => match us, h1, ws, h2 with | [], _, [_], _ => .of_eq rfl⟩
    ⟨_, _, _, _, _, S_Twice, fun s self us ws h1 h2 => match us, h1, ws, h2 with | [_], _, [], _ => .of_eq rfl⟩
    ⟨_, _, _, _, _, S_NoTie, fun s self us ws h1 h2 => match us, h1, ws, h2 with | [_], _, [], _ => .of_eq rfl⟩
    ⟨_, _, _, _, _, S_NoPlace, fun s self us ws h1 h2 => match us, h1, ws, h2 with | [_], _, [], _ => .of_eq rfl⟩
    (by
      intro f hf
      rcases List.mem_cons.mp hf with rfl | hf
      · exact no_Missing_value
      cases hf)
    (by
      intro f hf
      rcases List.mem_cons.mp hf with rfl | hf
      · exact no_BadNumber_part
      cases hf)
    (by
      intro f hf
      rcases List.mem_cons.mp hf with rfl | hf
      · exact no_BadWeb_part
      cases hf)
    (by
      intro f hf
      rcases List.mem_cons.mp hf with rfl | hf
      · exact no_BadTable_part
      cases hf)
    (by
      intro f hf
      rcases List.mem_cons.mp hf with rfl | hf
      · exact no_BadLot_part
      cases hf)
    (by
      intro f hf
      rcases List.mem_cons.mp hf with rfl | hf
      · exact no_Misfit_part
      cases hf)
    (by
      intro f hf
      rcases List.mem_cons.mp hf with rfl | hf
      · exact no_NoPlace_value
      cases hf)
    (by
      intro f hf
      rcases List.mem_cons.mp hf with rfl | hf
      · exact no_NoTie_value
      cases hf)
    (by
      intro f hf
      rcases List.mem_cons.mp hf with rfl | hf
      · exact no_Twice_value
      cases hf)
    (by
      intro f hf
      rcases List.mem_cons.mp hf with rfl | hf
      · exact no_TooMany_what
      rcases List.mem_cons.mp hf with rfl | hf
      · exact no_TooMany_most
      cases hf)
    (by
      intro f hf
      rcases List.mem_cons.mp hf with rfl | hf
      · exact no_BadText_line
      rcases List.mem_cons.mp hf with rfl | hf
      · exact no_BadText_item
      cases hf)
    (by
      intro x hx C hC
      rcases List.mem_cons.mp hx with rfl | hx
      · obtain rfl := mg_cls (PySem.W.mg_of X G a_BadNumber) hC
        exact ⟨E_BadNumber, no_BadNumber_part⟩
      rcases List.mem_cons.mp hx with rfl | hx
      · obtain rfl := mg_cls (PySem.W.mg_of X G a_BadWeb) hC
        exact ⟨E_BadWeb, no_BadWeb_part⟩
      rcases List.mem_cons.mp hx with rfl | hx
      · obtain rfl := mg_cls (PySem.W.mg_of X G a_BadTable) hC
        exact ⟨E_BadTable, no_BadTable_part⟩
      rcases List.mem_cons.mp hx with rfl | hx
      · obtain rfl := mg_cls (PySem.W.mg_of X G a_BadLot) hC
        exact ⟨E_BadLot, no_BadLot_part⟩
      rcases List.mem_cons.mp hx with rfl | hx
      · obtain rfl := mg_cls (PySem.W.mg_of X G a_Misfit) hC
        exact ⟨E_Misfit, no_Misfit_part⟩
      cases hx)
    (by
      intro x hx C hC
      rcases List.mem_cons.mp hx with rfl | hx
      · obtain rfl := mg_cls (PySem.W.mg_of X G a_BadText) hC
        exact ⟨E_BadText, no_BadText_item⟩
      cases hx)
    (by
      intro x hx C hC
      rcases List.mem_cons.mp hx with rfl | hx
      · obtain rfl := mg_cls (PySem.W.mg_of X G a_BadText) hC
        exact ⟨E_BadText, no_BadText_line⟩
      cases hx)
    (by
      intro x hx C hC
      rcases List.mem_cons.mp hx with rfl | hx
      · obtain rfl := mg_cls (PySem.W.mg_of X G a_TooMany) hC
        exact ⟨E_TooMany, no_TooMany_most⟩
      cases hx)
    (by
      intro x hx C hC
      rcases List.mem_cons.mp hx with rfl | hx
      · obtain rfl := mg_cls (PySem.W.mg_of X G a_TooMany) hC
        exact ⟨E_TooMany, no_TooMany_what⟩
      cases hx)
    (by
      intro x hx C hC
      rcases List.mem_cons.mp hx with rfl | hx
      · obtain rfl := mg_cls (PySem.W.mg_of X G a_Missing) hC
        exact ⟨E_Missing, no_Missing_value⟩
      rcases List.mem_cons.mp hx with rfl | hx
      · obtain rfl := mg_cls (PySem.W.mg_of X G a_NoPlace) hC
        exact ⟨E_NoPlace, no_NoPlace_value⟩
      rcases List.mem_cons.mp hx with rfl | hx
      · obtain rfl := mg_cls (PySem.W.mg_of X G a_NoTie) hC
        exact ⟨E_NoTie, no_NoTie_value⟩
      rcases List.mem_cons.mp hx with rfl | hx
      · obtain rfl := mg_cls (PySem.W.mg_of X G a_Twice) hC
        exact ⟨E_Twice, no_Twice_value⟩
      cases hx)
    (by
      intro p hx C hC
      rcases List.mem_cons.mp hx with rfl | hx
      · obtain rfl := mg_cls (PySem.W.mg_of X G a_Missing) hC
        exact ⟨E_Missing, q_is_BadText_Missing⟩
      rcases List.mem_cons.mp hx with rfl | hx
      · obtain rfl := mg_cls (PySem.W.mg_of X G a_BadNumber) hC
        exact ⟨E_BadNumber, q_is_BadText_BadNumber⟩
      rcases List.mem_cons.mp hx with rfl | hx
      · obtain rfl := mg_cls (PySem.W.mg_of X G a_BadWeb) hC
        exact ⟨E_BadWeb, q_is_BadText_BadWeb⟩
      rcases List.mem_cons.mp hx with rfl | hx
      · obtain rfl := mg_cls (PySem.W.mg_of X G a_BadTable) hC
        exact ⟨E_BadTable, q_is_BadText_BadTable⟩
      rcases List.mem_cons.mp hx with rfl | hx
      · obtain rfl := mg_cls (PySem.W.mg_of X G a_BadLot) hC
        exact ⟨E_BadLot, q_is_BadText_BadLot⟩
      rcases List.mem_cons.mp hx with rfl | hx
      · obtain rfl := mg_cls (PySem.W.mg_of X G a_Misfit) hC
        exact ⟨E_Misfit, q_is_BadText_Misfit⟩
      rcases List.mem_cons.mp hx with rfl | hx
      · obtain rfl := mg_cls (PySem.W.mg_of X G a_NoPlace) hC
        exact ⟨E_NoPlace, q_is_BadText_NoPlace⟩
      rcases List.mem_cons.mp hx with rfl | hx
      · obtain rfl := mg_cls (PySem.W.mg_of X G a_NoTie) hC
        exact ⟨E_NoTie, q_is_BadText_NoTie⟩
      rcases List.mem_cons.mp hx with rfl | hx
      · obtain rfl := mg_cls (PySem.W.mg_of X G a_Twice) hC
        exact ⟨E_Twice, q_is_BadText_Twice⟩
      rcases List.mem_cons.mp hx with rfl | hx
      · obtain rfl := mg_cls (PySem.W.mg_of X G a_TooMany) hC
        exact ⟨E_TooMany, q_is_BadText_TooMany⟩
      rcases List.mem_cons.mp hx with rfl | hx
      · obtain rfl := mg_cls (PySem.W.mg_of X G a_BadText) hC
        exact ⟨E_BadText, q_is_BadText_BadText⟩
      cases hx)
    (by
      intro p hx C hC
      rcases List.mem_cons.mp hx with rfl | hx
      · obtain rfl := mg_cls (PySem.W.mg_of X G a_Missing) hC
        exact ⟨E_Missing, q_is_TooMany_Missing⟩
      rcases List.mem_cons.mp hx with rfl | hx
      · obtain rfl := mg_cls (PySem.W.mg_of X G a_BadNumber) hC
        exact ⟨E_BadNumber, q_is_TooMany_BadNumber⟩
      rcases List.mem_cons.mp hx with rfl | hx
      · obtain rfl := mg_cls (PySem.W.mg_of X G a_BadWeb) hC
        exact ⟨E_BadWeb, q_is_TooMany_BadWeb⟩
      rcases List.mem_cons.mp hx with rfl | hx
      · obtain rfl := mg_cls (PySem.W.mg_of X G a_BadTable) hC
        exact ⟨E_BadTable, q_is_TooMany_BadTable⟩
      rcases List.mem_cons.mp hx with rfl | hx
      · obtain rfl := mg_cls (PySem.W.mg_of X G a_BadLot) hC
        exact ⟨E_BadLot, q_is_TooMany_BadLot⟩
      rcases List.mem_cons.mp hx with rfl | hx
      · obtain rfl := mg_cls (PySem.W.mg_of X G a_Misfit) hC
        exact ⟨E_Misfit, q_is_TooMany_Misfit⟩
      rcases List.mem_cons.mp hx with rfl | hx
      · obtain rfl := mg_cls (PySem.W.mg_of X G a_NoPlace) hC
        exact ⟨E_NoPlace, q_is_TooMany_NoPlace⟩
      rcases List.mem_cons.mp hx with rfl | hx
      · obtain rfl := mg_cls (PySem.W.mg_of X G a_NoTie) hC
        exact ⟨E_NoTie, q_is_TooMany_NoTie⟩
      rcases List.mem_cons.mp hx with rfl | hx
      · obtain rfl := mg_cls (PySem.W.mg_of X G a_Twice) hC
        exact ⟨E_Twice, q_is_TooMany_Twice⟩
      rcases List.mem_cons.mp hx with rfl | hx
      · obtain rfl := mg_cls (PySem.W.mg_of X G a_TooMany) hC
        exact ⟨E_TooMany, q_is_TooMany_TooMany⟩
      rcases List.mem_cons.mp hx with rfl | hx
      · obtain rfl := mg_cls (PySem.W.mg_of X G a_BadText) hC
        exact ⟨E_BadText, q_is_TooMany_BadText⟩
      cases hx)
    (by
      intro p hx C hC
      rcases List.mem_cons.mp hx with rfl | hx
      · obtain rfl := mg_cls (PySem.W.mg_of X G a_Missing) hC
        exact ⟨E_Missing, q_is_Twice_Missing⟩
      rcases List.mem_cons.mp hx with rfl | hx
      · obtain rfl := mg_cls (PySem.W.mg_of X G a_BadNumber) hC
        exact ⟨E_BadNumber, q_is_Twice_BadNumber⟩
      rcases List.mem_cons.mp hx with rfl | hx
      · obtain rfl := mg_cls (PySem.W.mg_of X G a_BadWeb) hC
        exact ⟨E_BadWeb, q_is_Twice_BadWeb⟩
      rcases List.mem_cons.mp hx with rfl | hx
      · obtain rfl := mg_cls (PySem.W.mg_of X G a_BadTable) hC
        exact ⟨E_BadTable, q_is_Twice_BadTable⟩
      rcases List.mem_cons.mp hx with rfl | hx
      · obtain rfl := mg_cls (PySem.W.mg_of X G a_BadLot) hC
        exact ⟨E_BadLot, q_is_Twice_BadLot⟩
      rcases List.mem_cons.mp hx with rfl | hx
      · obtain rfl := mg_cls (PySem.W.mg_of X G a_Misfit) hC
        exact ⟨E_Misfit, q_is_Twice_Misfit⟩
      rcases List.mem_cons.mp hx with rfl | hx
      · obtain rfl := mg_cls (PySem.W.mg_of X G a_NoPlace) hC
        exact ⟨E_NoPlace, q_is_Twice_NoPlace⟩
      rcases List.mem_cons.mp hx with rfl | hx
      · obtain rfl := mg_cls (PySem.W.mg_of X G a_NoTie) hC
        exact ⟨E_NoTie, q_is_Twice_NoTie⟩
      rcases List.mem_cons.mp hx with rfl | hx
      · obtain rfl := mg_cls (PySem.W.mg_of X G a_Twice) hC
        exact ⟨E_Twice, q_is_Twice_Twice⟩
      rcases List.mem_cons.mp hx with rfl | hx
      · obtain rfl := mg_cls (PySem.W.mg_of X G a_TooMany) hC
        exact ⟨E_TooMany, q_is_Twice_TooMany⟩
      rcases List.mem_cons.mp hx with rfl | hx
      · obtain rfl := mg_cls (PySem.W.mg_of X G a_BadText) hC
        exact ⟨E_BadText, q_is_Twice_BadText⟩
      cases hx)
    (by
      intro p hx C hC
      rcases List.mem_cons.mp hx with rfl | hx
      · obtain rfl := mg_cls (PySem.W.mg_of X G a_Missing) hC
        exact ⟨E_Missing, q_is_NoTie_Missing⟩
      rcases List.mem_cons.mp hx with rfl | hx
      · obtain rfl := mg_cls (PySem.W.mg_of X G a_BadNumber) hC
        exact ⟨E_BadNumber, q_is_NoTie_BadNumber⟩
      rcases List.mem_cons.mp hx with rfl | hx
      · obtain rfl := mg_cls (PySem.W.mg_of X G a_BadWeb) hC
        exact ⟨E_BadWeb, q_is_NoTie_BadWeb⟩
      rcases List.mem_cons.mp hx with rfl | hx
      · obtain rfl := mg_cls (PySem.W.mg_of X G a_BadTable) hC
        exact ⟨E_BadTable, q_is_NoTie_BadTable⟩
      rcases List.mem_cons.mp hx with rfl | hx
      · obtain rfl := mg_cls (PySem.W.mg_of X G a_BadLot) hC
        exact ⟨E_BadLot, q_is_NoTie_BadLot⟩
      rcases List.mem_cons.mp hx with rfl | hx
      · obtain rfl := mg_cls (PySem.W.mg_of X G a_Misfit) hC
        exact ⟨E_Misfit, q_is_NoTie_Misfit⟩
      rcases List.mem_cons.mp hx with rfl | hx
      · obtain rfl := mg_cls (PySem.W.mg_of X G a_NoPlace) hC
        exact ⟨E_NoPlace, q_is_NoTie_NoPlace⟩
      rcases List.mem_cons.mp hx with rfl | hx
      · obtain rfl := mg_cls (PySem.W.mg_of X G a_NoTie) hC
        exact ⟨E_NoTie, q_is_NoTie_NoTie⟩
      rcases List.mem_cons.mp hx with rfl | hx
      · obtain rfl := mg_cls (PySem.W.mg_of X G a_Twice) hC
        exact ⟨E_Twice, q_is_NoTie_Twice⟩
      rcases List.mem_cons.mp hx with rfl | hx
      · obtain rfl := mg_cls (PySem.W.mg_of X G a_TooMany) hC
        exact ⟨E_TooMany, q_is_NoTie_TooMany⟩
      rcases List.mem_cons.mp hx with rfl | hx
      · obtain rfl := mg_cls (PySem.W.mg_of X G a_BadText) hC
        exact ⟨E_BadText, q_is_NoTie_BadText⟩
      cases hx)
    (by
      intro p hx C hC
      rcases List.mem_cons.mp hx with rfl | hx
      · obtain rfl := mg_cls (PySem.W.mg_of X G a_Missing) hC
        exact ⟨E_Missing, q_is_NoPlace_Missing⟩
      rcases List.mem_cons.mp hx with rfl | hx
      · obtain rfl := mg_cls (PySem.W.mg_of X G a_BadNumber) hC
        exact ⟨E_BadNumber, q_is_NoPlace_BadNumber⟩
      rcases List.mem_cons.mp hx with rfl | hx
      · obtain rfl := mg_cls (PySem.W.mg_of X G a_BadWeb) hC
        exact ⟨E_BadWeb, q_is_NoPlace_BadWeb⟩
      rcases List.mem_cons.mp hx with rfl | hx
      · obtain rfl := mg_cls (PySem.W.mg_of X G a_BadTable) hC
        exact ⟨E_BadTable, q_is_NoPlace_BadTable⟩
      rcases List.mem_cons.mp hx with rfl | hx
      · obtain rfl := mg_cls (PySem.W.mg_of X G a_BadLot) hC
        exact ⟨E_BadLot, q_is_NoPlace_BadLot⟩
      rcases List.mem_cons.mp hx with rfl | hx
      · obtain rfl := mg_cls (PySem.W.mg_of X G a_Misfit) hC
        exact ⟨E_Misfit, q_is_NoPlace_Misfit⟩
      rcases List.mem_cons.mp hx with rfl | hx
      · obtain rfl := mg_cls (PySem.W.mg_of X G a_NoPlace) hC
        exact ⟨E_NoPlace, q_is_NoPlace_NoPlace⟩
      rcases List.mem_cons.mp hx with rfl | hx
      · obtain rfl := mg_cls (PySem.W.mg_of X G a_NoTie) hC
        exact ⟨E_NoTie, q_is_NoPlace_NoTie⟩
      rcases List.mem_cons.mp hx with rfl | hx
      · obtain rfl := mg_cls (PySem.W.mg_of X G a_Twice) hC
        exact ⟨E_Twice, q_is_NoPlace_Twice⟩
      rcases List.mem_cons.mp hx with rfl | hx
      · obtain rfl := mg_cls (PySem.W.mg_of X G a_TooMany) hC
        exact ⟨E_TooMany, q_is_NoPlace_TooMany⟩
      rcases List.mem_cons.mp hx with rfl | hx
      · obtain rfl := mg_cls (PySem.W.mg_of X G a_BadText) hC
        exact ⟨E_BadText, q_is_NoPlace_BadText⟩
      cases hx)
    (by
      intro p hx C hC
      rcases List.mem_cons.mp hx with rfl | hx
      · obtain rfl := mg_cls (PySem.W.mg_of X G a_Missing) hC
        exact ⟨E_Missing, q_is_Misfit_Missing⟩
      rcases List.mem_cons.mp hx with rfl | hx
      · obtain rfl := mg_cls (PySem.W.mg_of X G a_BadNumber) hC
        exact ⟨E_BadNumber, q_is_Misfit_BadNumber⟩
      rcases List.mem_cons.mp hx with rfl | hx
      · obtain rfl := mg_cls (PySem.W.mg_of X G a_BadWeb) hC
        exact ⟨E_BadWeb, q_is_Misfit_BadWeb⟩
      rcases List.mem_cons.mp hx with rfl | hx
      · obtain rfl := mg_cls (PySem.W.mg_of X G a_BadTable) hC
        exact ⟨E_BadTable, q_is_Misfit_BadTable⟩
      rcases List.mem_cons.mp hx with rfl | hx
      · obtain rfl := mg_cls (PySem.W.mg_of X G a_BadLot) hC
        exact ⟨E_BadLot, q_is_Misfit_BadLot⟩
      rcases List.mem_cons.mp hx with rfl | hx
      · obtain rfl := mg_cls (PySem.W.mg_of X G a_Misfit) hC
        exact ⟨E_Misfit, q_is_Misfit_Misfit⟩
      rcases List.mem_cons.mp hx with rfl | hx
      · obtain rfl := mg_cls (PySem.W.mg_of X G a_NoPlace) hC
        exact ⟨E_NoPlace, q_is_Misfit_NoPlace⟩
      rcases List.mem_cons.mp hx with rfl | hx
      · obtain rfl := mg_cls (PySem.W.mg_of X G a_NoTie) hC
        exact ⟨E_NoTie, q_is_Misfit_NoTie⟩
      rcases List.mem_cons.mp hx with rfl | hx
      · obtain rfl := mg_cls (PySem.W.mg_of X G a_Twice) hC
        exact ⟨E_Twice, q_is_Misfit_Twice⟩
      rcases List.mem_cons.mp hx with rfl | hx
      · obtain rfl := mg_cls (PySem.W.mg_of X G a_TooMany) hC
        exact ⟨E_TooMany, q_is_Misfit_TooMany⟩
      rcases List.mem_cons.mp hx with rfl | hx
      · obtain rfl := mg_cls (PySem.W.mg_of X G a_BadText) hC
        exact ⟨E_BadText, q_is_Misfit_BadText⟩
      cases hx)
    (by
      intro p hx C hC
      rcases List.mem_cons.mp hx with rfl | hx
      · obtain rfl := mg_cls (PySem.W.mg_of X G a_Missing) hC
        exact ⟨E_Missing, q_is_BadLot_Missing⟩
      rcases List.mem_cons.mp hx with rfl | hx
      · obtain rfl := mg_cls (PySem.W.mg_of X G a_BadNumber) hC
        exact ⟨E_BadNumber, q_is_BadLot_BadNumber⟩
      rcases List.mem_cons.mp hx with rfl | hx
      · obtain rfl := mg_cls (PySem.W.mg_of X G a_BadWeb) hC
        exact ⟨E_BadWeb, q_is_BadLot_BadWeb⟩
      rcases List.mem_cons.mp hx with rfl | hx
      · obtain rfl := mg_cls (PySem.W.mg_of X G a_BadTable) hC
        exact ⟨E_BadTable, q_is_BadLot_BadTable⟩
      rcases List.mem_cons.mp hx with rfl | hx
      · obtain rfl := mg_cls (PySem.W.mg_of X G a_BadLot) hC
        exact ⟨E_BadLot, q_is_BadLot_BadLot⟩
      rcases List.mem_cons.mp hx with rfl | hx
      · obtain rfl := mg_cls (PySem.W.mg_of X G a_Misfit) hC
        exact ⟨E_Misfit, q_is_BadLot_Misfit⟩
      rcases List.mem_cons.mp hx with rfl | hx
      · obtain rfl := mg_cls (PySem.W.mg_of X G a_NoPlace) hC
        exact ⟨E_NoPlace, q_is_BadLot_NoPlace⟩
      rcases List.mem_cons.mp hx with rfl | hx
      · obtain rfl := mg_cls (PySem.W.mg_of X G a_NoTie) hC
        exact ⟨E_NoTie, q_is_BadLot_NoTie⟩
      rcases List.mem_cons.mp hx with rfl | hx
      · obtain rfl := mg_cls (PySem.W.mg_of X G a_Twice) hC
        exact ⟨E_Twice, q_is_BadLot_Twice⟩
      rcases List.mem_cons.mp hx with rfl | hx
      · obtain rfl := mg_cls (PySem.W.mg_of X G a_TooMany) hC
        exact ⟨E_TooMany, q_is_BadLot_TooMany⟩
      rcases List.mem_cons.mp hx with rfl | hx
      · obtain rfl := mg_cls (PySem.W.mg_of X G a_BadText) hC
        exact ⟨E_BadText, q_is_BadLot_BadText⟩
      cases hx)
    (by
      intro p hx C hC
      rcases List.mem_cons.mp hx with rfl | hx
      · obtain rfl := mg_cls (PySem.W.mg_of X G a_Missing) hC
        exact ⟨E_Missing, q_is_BadTable_Missing⟩
      rcases List.mem_cons.mp hx with rfl | hx
      · obtain rfl := mg_cls (PySem.W.mg_of X G a_BadNumber) hC
        exact ⟨E_BadNumber, q_is_BadTable_BadNumber⟩
      rcases List.mem_cons.mp hx with rfl | hx
      · obtain rfl := mg_cls (PySem.W.mg_of X G a_BadWeb) hC
        exact ⟨E_BadWeb, q_is_BadTable_BadWeb⟩
      rcases List.mem_cons.mp hx with rfl | hx
      · obtain rfl := mg_cls (PySem.W.mg_of X G a_BadTable) hC
        exact ⟨E_BadTable, q_is_BadTable_BadTable⟩
      rcases List.mem_cons.mp hx with rfl | hx
      · obtain rfl := mg_cls (PySem.W.mg_of X G a_BadLot) hC
        exact ⟨E_BadLot, q_is_BadTable_BadLot⟩
      rcases List.mem_cons.mp hx with rfl | hx
      · obtain rfl := mg_cls (PySem.W.mg_of X G a_Misfit) hC
        exact ⟨E_Misfit, q_is_BadTable_Misfit⟩
      rcases List.mem_cons.mp hx with rfl | hx
      · obtain rfl := mg_cls (PySem.W.mg_of X G a_NoPlace) hC
        exact ⟨E_NoPlace, q_is_BadTable_NoPlace⟩
      rcases List.mem_cons.mp hx with rfl | hx
      · obtain rfl := mg_cls (PySem.W.mg_of X G a_NoTie) hC
        exact ⟨E_NoTie, q_is_BadTable_NoTie⟩
      rcases List.mem_cons.mp hx with rfl | hx
      · obtain rfl := mg_cls (PySem.W.mg_of X G a_Twice) hC
        exact ⟨E_Twice, q_is_BadTable_Twice⟩
      rcases List.mem_cons.mp hx with rfl | hx
      · obtain rfl := mg_cls (PySem.W.mg_of X G a_TooMany) hC
        exact ⟨E_TooMany, q_is_BadTable_TooMany⟩
      rcases List.mem_cons.mp hx with rfl | hx
      · obtain rfl := mg_cls (PySem.W.mg_of X G a_BadText) hC
        exact ⟨E_BadText, q_is_BadTable_BadText⟩
      cases hx)
    (by
      intro p hx C hC
      rcases List.mem_cons.mp hx with rfl | hx
      · obtain rfl := mg_cls (PySem.W.mg_of X G a_Missing) hC
        exact ⟨E_Missing, q_is_BadWeb_Missing⟩
      rcases List.mem_cons.mp hx with rfl | hx
      · obtain rfl := mg_cls (PySem.W.mg_of X G a_BadNumber) hC
        exact ⟨E_BadNumber, q_is_BadWeb_BadNumber⟩
      rcases List.mem_cons.mp hx with rfl | hx
      · obtain rfl := mg_cls (PySem.W.mg_of X G a_BadWeb) hC
        exact ⟨E_BadWeb, q_is_BadWeb_BadWeb⟩
      rcases List.mem_cons.mp hx with rfl | hx
      · obtain rfl := mg_cls (PySem.W.mg_of X G a_BadTable) hC
        exact ⟨E_BadTable, q_is_BadWeb_BadTable⟩
      rcases List.mem_cons.mp hx with rfl | hx
      · obtain rfl := mg_cls (PySem.W.mg_of X G a_BadLot) hC
        exact ⟨E_BadLot, q_is_BadWeb_BadLot⟩
      rcases List.mem_cons.mp hx with rfl | hx
      · obtain rfl := mg_cls (PySem.W.mg_of X G a_Misfit) hC
        exact ⟨E_Misfit, q_is_BadWeb_Misfit⟩
      rcases List.mem_cons.mp hx with rfl | hx
      · obtain rfl := mg_cls (PySem.W.mg_of X G a_NoPlace) hC
        exact ⟨E_NoPlace, q_is_BadWeb_NoPlace⟩
      rcases List.mem_cons.mp hx with rfl | hx
      · obtain rfl := mg_cls (PySem.W.mg_of X G a_NoTie) hC
        exact ⟨E_NoTie, q_is_BadWeb_NoTie⟩
      rcases List.mem_cons.mp hx with rfl | hx
      · obtain rfl := mg_cls (PySem.W.mg_of X G a_Twice) hC
        exact ⟨E_Twice, q_is_BadWeb_Twice⟩
      rcases List.mem_cons.mp hx with rfl | hx
      · obtain rfl := mg_cls (PySem.W.mg_of X G a_TooMany) hC
        exact ⟨E_TooMany, q_is_BadWeb_TooMany⟩
      rcases List.mem_cons.mp hx with rfl | hx
      · obtain rfl := mg_cls (PySem.W.mg_of X G a_BadText) hC
        exact ⟨E_BadText, q_is_BadWeb_BadText⟩
      cases hx)
    (by
      intro p hx C hC
      rcases List.mem_cons.mp hx with rfl | hx
      · obtain rfl := mg_cls (PySem.W.mg_of X G a_Missing) hC
        exact ⟨E_Missing, q_is_BadNumber_Missing⟩
      rcases List.mem_cons.mp hx with rfl | hx
      · obtain rfl := mg_cls (PySem.W.mg_of X G a_BadNumber) hC
        exact ⟨E_BadNumber, q_is_BadNumber_BadNumber⟩
      rcases List.mem_cons.mp hx with rfl | hx
      · obtain rfl := mg_cls (PySem.W.mg_of X G a_BadWeb) hC
        exact ⟨E_BadWeb, q_is_BadNumber_BadWeb⟩
      rcases List.mem_cons.mp hx with rfl | hx
      · obtain rfl := mg_cls (PySem.W.mg_of X G a_BadTable) hC
        exact ⟨E_BadTable, q_is_BadNumber_BadTable⟩
      rcases List.mem_cons.mp hx with rfl | hx
      · obtain rfl := mg_cls (PySem.W.mg_of X G a_BadLot) hC
        exact ⟨E_BadLot, q_is_BadNumber_BadLot⟩
      rcases List.mem_cons.mp hx with rfl | hx
      · obtain rfl := mg_cls (PySem.W.mg_of X G a_Misfit) hC
        exact ⟨E_Misfit, q_is_BadNumber_Misfit⟩
      rcases List.mem_cons.mp hx with rfl | hx
      · obtain rfl := mg_cls (PySem.W.mg_of X G a_NoPlace) hC
        exact ⟨E_NoPlace, q_is_BadNumber_NoPlace⟩
      rcases List.mem_cons.mp hx with rfl | hx
      · obtain rfl := mg_cls (PySem.W.mg_of X G a_NoTie) hC
        exact ⟨E_NoTie, q_is_BadNumber_NoTie⟩
      rcases List.mem_cons.mp hx with rfl | hx
      · obtain rfl := mg_cls (PySem.W.mg_of X G a_Twice) hC
        exact ⟨E_Twice, q_is_BadNumber_Twice⟩
      rcases List.mem_cons.mp hx with rfl | hx
      · obtain rfl := mg_cls (PySem.W.mg_of X G a_TooMany) hC
        exact ⟨E_TooMany, q_is_BadNumber_TooMany⟩
      rcases List.mem_cons.mp hx with rfl | hx
      · obtain rfl := mg_cls (PySem.W.mg_of X G a_BadText) hC
        exact ⟨E_BadText, q_is_BadNumber_BadText⟩
      cases hx)
    (by
      intro p hx C hC
      rcases List.mem_cons.mp hx with rfl | hx
      · obtain rfl := mg_cls (PySem.W.mg_of X G a_Missing) hC
        exact ⟨E_Missing, q_is_LookupError_TypeError_ArithmeticError_AttributeError_RuntimeError_Missing⟩
      rcases List.mem_cons.mp hx with rfl | hx
      · obtain rfl := mg_cls (PySem.W.mg_of X G a_BadNumber) hC
        exact ⟨E_BadNumber, q_is_LookupError_TypeError_ArithmeticError_AttributeError_RuntimeError_BadNumber⟩
      rcases List.mem_cons.mp hx with rfl | hx
      · obtain rfl := mg_cls (PySem.W.mg_of X G a_BadWeb) hC
        exact ⟨E_BadWeb, q_is_LookupError_TypeError_ArithmeticError_AttributeError_RuntimeError_BadWeb⟩
      rcases List.mem_cons.mp hx with rfl | hx
      · obtain rfl := mg_cls (PySem.W.mg_of X G a_BadTable) hC
        exact ⟨E_BadTable, q_is_LookupError_TypeError_ArithmeticError_AttributeError_RuntimeError_BadTable⟩
      rcases List.mem_cons.mp hx with rfl | hx
      · obtain rfl := mg_cls (PySem.W.mg_of X G a_BadLot) hC
        exact ⟨E_BadLot, q_is_LookupError_TypeError_ArithmeticError_AttributeError_RuntimeError_BadLot⟩
      rcases List.mem_cons.mp hx with rfl | hx
      · obtain rfl := mg_cls (PySem.W.mg_of X G a_Misfit) hC
        exact ⟨E_Misfit, q_is_LookupError_TypeError_ArithmeticError_AttributeError_RuntimeError_Misfit⟩
      rcases List.mem_cons.mp hx with rfl | hx
      · obtain rfl := mg_cls (PySem.W.mg_of X G a_NoPlace) hC
        exact ⟨E_NoPlace, q_is_LookupError_TypeError_ArithmeticError_AttributeError_RuntimeError_NoPlace⟩
      rcases List.mem_cons.mp hx with rfl | hx
      · obtain rfl := mg_cls (PySem.W.mg_of X G a_NoTie) hC
        exact ⟨E_NoTie, q_is_LookupError_TypeError_ArithmeticError_AttributeError_RuntimeError_NoTie⟩
      rcases List.mem_cons.mp hx with rfl | hx
      · obtain rfl := mg_cls (PySem.W.mg_of X G a_Twice) hC
        exact ⟨E_Twice, q_is_LookupError_TypeError_ArithmeticError_AttributeError_RuntimeError_Twice⟩
      rcases List.mem_cons.mp hx with rfl | hx
      · obtain rfl := mg_cls (PySem.W.mg_of X G a_TooMany) hC
        exact ⟨E_TooMany, q_is_LookupError_TypeError_ArithmeticError_AttributeError_RuntimeError_TooMany⟩
      rcases List.mem_cons.mp hx with rfl | hx
      · obtain rfl := mg_cls (PySem.W.mg_of X G a_BadText) hC
        exact ⟨E_BadText, q_is_LookupError_TypeError_ArithmeticError_AttributeError_RuntimeError_BadText⟩
      cases hx)
    (by
      intro p hx C hC
      rcases List.mem_cons.mp hx with rfl | hx
      · obtain rfl := mg_cls (PySem.W.mg_of X G a_Missing) hC
        exact ⟨E_Missing, q_is_NetError_Missing⟩
      rcases List.mem_cons.mp hx with rfl | hx
      · obtain rfl := mg_cls (PySem.W.mg_of X G a_BadNumber) hC
        exact ⟨E_BadNumber, q_is_NetError_BadNumber⟩
      rcases List.mem_cons.mp hx with rfl | hx
      · obtain rfl := mg_cls (PySem.W.mg_of X G a_BadWeb) hC
        exact ⟨E_BadWeb, q_is_NetError_BadWeb⟩
      rcases List.mem_cons.mp hx with rfl | hx
      · obtain rfl := mg_cls (PySem.W.mg_of X G a_BadTable) hC
        exact ⟨E_BadTable, q_is_NetError_BadTable⟩
      rcases List.mem_cons.mp hx with rfl | hx
      · obtain rfl := mg_cls (PySem.W.mg_of X G a_BadLot) hC
        exact ⟨E_BadLot, q_is_NetError_BadLot⟩
      rcases List.mem_cons.mp hx with rfl | hx
      · obtain rfl := mg_cls (PySem.W.mg_of X G a_Misfit) hC
        exact ⟨E_Misfit, q_is_NetError_Misfit⟩
      rcases List.mem_cons.mp hx with rfl | hx
      · obtain rfl := mg_cls (PySem.W.mg_of X G a_NoPlace) hC
        exact ⟨E_NoPlace, q_is_NetError_NoPlace⟩
      rcases List.mem_cons.mp hx with rfl | hx
      · obtain rfl := mg_cls (PySem.W.mg_of X G a_NoTie) hC
        exact ⟨E_NoTie, q_is_NetError_NoTie⟩
      rcases List.mem_cons.mp hx with rfl | hx
      · obtain rfl := mg_cls (PySem.W.mg_of X G a_Twice) hC
        exact ⟨E_Twice, q_is_NetError_Twice⟩
      rcases List.mem_cons.mp hx with rfl | hx
      · obtain rfl := mg_cls (PySem.W.mg_of X G a_TooMany) hC
        exact ⟨E_TooMany, q_is_NetError_TooMany⟩
      rcases List.mem_cons.mp hx with rfl | hx
      · obtain rfl := mg_cls (PySem.W.mg_of X G a_BadText) hC
        exact ⟨E_BadText, q_is_NetError_BadText⟩
      cases hx)
    (by
      intro p hx C hC
      rcases List.mem_cons.mp hx with rfl | hx
      · obtain rfl := mg_cls (PySem.W.mg_of X G a_Missing) hC
        exact ⟨E_Missing, q_is_ValueError_Missing⟩
      rcases List.mem_cons.mp hx with rfl | hx
      · obtain rfl := mg_cls (PySem.W.mg_of X G a_BadNumber) hC
        exact ⟨E_BadNumber, q_is_ValueError_BadNumber⟩
      rcases List.mem_cons.mp hx with rfl | hx
      · obtain rfl := mg_cls (PySem.W.mg_of X G a_BadWeb) hC
        exact ⟨E_BadWeb, q_is_ValueError_BadWeb⟩
      rcases List.mem_cons.mp hx with rfl | hx
      · obtain rfl := mg_cls (PySem.W.mg_of X G a_BadTable) hC
        exact ⟨E_BadTable, q_is_ValueError_BadTable⟩
      rcases List.mem_cons.mp hx with rfl | hx
      · obtain rfl := mg_cls (PySem.W.mg_of X G a_BadLot) hC
        exact ⟨E_BadLot, q_is_ValueError_BadLot⟩
      rcases List.mem_cons.mp hx with rfl | hx
      · obtain rfl := mg_cls (PySem.W.mg_of X G a_Misfit) hC
        exact ⟨E_Misfit, q_is_ValueError_Misfit⟩
      rcases List.mem_cons.mp hx with rfl | hx
      · obtain rfl := mg_cls (PySem.W.mg_of X G a_NoPlace) hC
        exact ⟨E_NoPlace, q_is_ValueError_NoPlace⟩
      rcases List.mem_cons.mp hx with rfl | hx
      · obtain rfl := mg_cls (PySem.W.mg_of X G a_NoTie) hC
        exact ⟨E_NoTie, q_is_ValueError_NoTie⟩
      rcases List.mem_cons.mp hx with rfl | hx
      · obtain rfl := mg_cls (PySem.W.mg_of X G a_Twice) hC
        exact ⟨E_Twice, q_is_ValueError_Twice⟩
      rcases List.mem_cons.mp hx with rfl | hx
      · obtain rfl := mg_cls (PySem.W.mg_of X G a_TooMany) hC
        exact ⟨E_TooMany, q_is_ValueError_TooMany⟩
      rcases List.mem_cons.mp hx with rfl | hx
      · obtain rfl := mg_cls (PySem.W.mg_of X G a_BadText) hC
        exact ⟨E_BadText, q_is_ValueError_BadText⟩
      cases hx)
    (by
      intro p hx C hC
      rcases List.mem_cons.mp hx with rfl | hx
      · obtain rfl := mg_cls (PySem.W.mg_of X G a_Missing) hC
        exact ⟨E_Missing, q_is_Missing_Missing⟩
      rcases List.mem_cons.mp hx with rfl | hx
      · obtain rfl := mg_cls (PySem.W.mg_of X G a_BadNumber) hC
        exact ⟨E_BadNumber, q_is_Missing_BadNumber⟩
      rcases List.mem_cons.mp hx with rfl | hx
      · obtain rfl := mg_cls (PySem.W.mg_of X G a_BadWeb) hC
        exact ⟨E_BadWeb, q_is_Missing_BadWeb⟩
      rcases List.mem_cons.mp hx with rfl | hx
      · obtain rfl := mg_cls (PySem.W.mg_of X G a_BadTable) hC
        exact ⟨E_BadTable, q_is_Missing_BadTable⟩
      rcases List.mem_cons.mp hx with rfl | hx
      · obtain rfl := mg_cls (PySem.W.mg_of X G a_BadLot) hC
        exact ⟨E_BadLot, q_is_Missing_BadLot⟩
      rcases List.mem_cons.mp hx with rfl | hx
      · obtain rfl := mg_cls (PySem.W.mg_of X G a_Misfit) hC
        exact ⟨E_Misfit, q_is_Missing_Misfit⟩
      rcases List.mem_cons.mp hx with rfl | hx
      · obtain rfl := mg_cls (PySem.W.mg_of X G a_NoPlace) hC
        exact ⟨E_NoPlace, q_is_Missing_NoPlace⟩
      rcases List.mem_cons.mp hx with rfl | hx
      · obtain rfl := mg_cls (PySem.W.mg_of X G a_NoTie) hC
        exact ⟨E_NoTie, q_is_Missing_NoTie⟩
      rcases List.mem_cons.mp hx with rfl | hx
      · obtain rfl := mg_cls (PySem.W.mg_of X G a_Twice) hC
        exact ⟨E_Twice, q_is_Missing_Twice⟩
      rcases List.mem_cons.mp hx with rfl | hx
      · obtain rfl := mg_cls (PySem.W.mg_of X G a_TooMany) hC
        exact ⟨E_TooMany, q_is_Missing_TooMany⟩
      rcases List.mem_cons.mp hx with rfl | hx
      · obtain rfl := mg_cls (PySem.W.mg_of X G a_BadText) hC
        exact ⟨E_BadText, q_is_Missing_BadText⟩
      cases hx)
  exact ⟨_, fun s v => .of_eq rfl, fun base _ _ => ok_law T⟩
end LawV
namespace LawV
open PySem PySem.Spec PyProof.Rows L2 VL
def Ph (cells : List Int) (t l : Int) : O := .lst [.lst (cells.map D.int), .int t, .int l]
theorem at0 {x y z : D} : atI [x, y, z] 0 = some x := rfl
theorem at1 {x y z : D} : atI [x, y, z] 1 = some y := rfl
theorem at2 {x y z : D} : atI [x, y, z] 2 = some z := rfl
theorem ix2 : ixN 3 2 = some 2 := rfl
theorem ix1 : ixN 3 1 = some 1 := rfl
theorem pys_ints : ∀ ns : List Int, pys (ns.map D.int) = some (ns.map PyData.int)
  | [] => rfl
  | n :: ns => by
    rw [List.map_cons, pys, pys_ints ns]
    rfl
theorem canLay_ints : ∀ ns : List Int, PyData.canLayAll0 (ns.map PyData.int) = true
  | [] => by rw [List.map_nil, PyData.canLayAll0]
  | n :: ns => by rw [List.map_cons, PyData.canLayAll0, canLay_ints ns, PyData.canLay0]; rfl
theorem depth_ints : ∀ ns : List Int, PyData.depthAll (ns.map PyData.int) = 0
  | [] => by rw [List.map_nil, PyData.depthAll]
  | n :: ns => by rw [List.map_cons, PyData.depthAll, PyData.depth, depth_ints ns]; rfl
theorem shaped_ints (ns : List Int) : SeqAt.shaped (.list (ns.map PyData.int)) = true := by
  unfold SeqAt.shaped
  rw [PyData.canLay0, canLay_ints, PyData.depth, depth_ints]
  rfl
theorem eqvAll_refl : ∀ ns : List Int, PyData.eqvAll (ns.map PyData.int) (ns.map PyData.int) = true
  | [] => by rw [List.map_nil, PyData.eqvAll]
  | n :: ns => by rw [List.map_cons, PyData.eqvAll, PyData.eqv, eqvAll_refl ns, beq_self_eq_true]; rfl
theorem dNe_nil (ns : List Int) : dNe (.lst (ns.map D.int)) (.lst []) = some (.v (.bl (!ns.isEmpty))) := by
  have e : dEqB (.lst (ns.map D.int)) (.lst []) = some ns.isEmpty := by
    unfold dEqB
    simp only [D.py, pys_ints, Option.map_some, pys]
    rw [shaped_ints, show SeqAt.shaped (.list []) = true from shaped_ints []]
    cases ns with
    | nil => simp only [List.map_nil, PyData.eqv, PyData.eqvAll]; rfl
    | cons n ns => simp only [List.map_cons, PyData.eqv, PyData.eqvAll]; rfl
  unfold dNe
  rw [e]
  rfl
theorem dNe_nil0 : dNe (.lst []) (.lst []) = some (.v (.bl false)) := by
  have := dNe_nil []
  exact this
theorem dNeS_of {a b : D} {z : Z} (h : dNe a b = some z) : dNeS a b = some z := by unfold dNeS; rw [h]
theorem fmod_lo (x : Int) {m : Int} (h : 0 < m) : 0 ≤ x.fmod m := Int.fmod_nonneg_of_pos x h
theorem fmod_hi (x : Int) {m : Int} (h : 0 < m) : x.fmod m < m := Int.fmod_lt_of_pos x h
theorem atI_some {xs : List D} {i : Int} (h0 : 0 ≤ i) (h : i < xs.length) : ∃ x, atI xs i = some x ∧ x ∈ xs := by
  have hk : i.toNat < xs.length := by omega
  refine ⟨xs[i.toNat], ?_, List.getElem_mem hk⟩
  unfold atI
  have e : ixN xs.length i = some i.toNat := by
    unfold ixN
    rw [if_pos (by omega), if_pos (by omega)]
  rw [e]
  exact List.getElem?_eq_getElem hk
theorem tip_ok {cells : List Int} {t l many : Int} (hm : 0 < many) (hm2 : many < 1000) (ht : 0 ≤ t) (ht2 : t ≤ 100000) (hc : cells.length ≤ 1000) :
    ∃ r t' l', m__law_dash ⟨[some (.r 0), some (.d (.int many))], [Ph cells t l]⟩ = .ok (.d (.int r)) ⟨[], [Ph cells t' l']⟩ ∧ 0 ≤ r ∧ r < many ∧ t ≤ t' ∧ t' ≤ t + 1 := by
  have hdm : okDiv many = true := okDiv_s hm (by omega)
  have h0 : ¬ many = 0 := by omega
  have k1 : ∀ j : Int, okMul 80021 j = true := fun j => okMul_l (by decide) (by decide)
  have k2 : ∀ j : Int, okMul 120011 j = true := fun j => okMul_l (by decide) (by decide)
  have k3 : ∀ j : Int, okMul 2 j = true := fun j => okMul_l (by decide) (by decide)
  have k4 : okMul (120011 * t) t = true := okMul_r (by omega) (by omega)
  have k5 : ∀ x y : Int, okMul (x.fmod 2147483563) y = true := fun x y => okMul_l (by have := fmod_lo x (m := 2147483563) (by decide); omega) (by have := fmod_hi x (m := 2147483563) (by decide); omega)
  have d64 : okDiv 64 = true := by decide
  have p18 : okPow 10 18 = true := by decide
  have n1 : ¬ (2147483549 : Int) = 0 := by decide
  have n2 : ¬ (2147483563 : Int) = 0 := by decide
  have n3 : ¬ (2147483587 : Int) = 0 := by decide
  have q1 : ∀ c : Int, okPow (c.fmod 2147483549 + 80021 * t + 9011) 5 = true := fun c => by
    have h1 := fmod_lo c (m := 2147483549) (by decide)
    have h2 := fmod_hi c (m := 2147483549) (by decide)
    exact okPow_s (by decide) (by decide) (by omega) (by omega)
  have tt : 0 ≤ t * t := Int.mul_nonneg ht ht
  have tt2 : t * t ≤ 100000 * 100000 := Int.mul_le_mul ht2 ht2 ht (by decide)
  have q2 : ∀ c : Int, okPow (c.fmod 2147483563 * (2 * t + 6007) + 120011 * t * t + 80021) 3 = true := fun c => by
    have h1 := fmod_lo c (m := 2147483563) (by decide)
    have h2 := fmod_hi c (m := 2147483563) (by decide)
    have h3 : 0 ≤ c.fmod 2147483563 * (2 * t + 6007) := Int.mul_nonneg h1 (by omega)
    have h4 : c.fmod 2147483563 * (2 * t + 6007) ≤ 2147483563 * 206007 := Int.mul_le_mul (by omega) (by omega) (by omega) (by decide)
    have h5 : 120011 * t * t = 120011 * (t * t) := Int.mul_assoc _ _ _
    rw [h5]
    exact okPow_s (by decide) (by decide) (by omega) (by omega)
  have lo : ∀ x : Int, 0 ≤ x.fmod many := fun x => fmod_lo x hm
  have hi : ∀ x : Int, x.fmod many < many := fun x => fmod_hi x hm
  have hne := dNeS_of (dNe_nil cells)
  have hne0 := dNeS_of dNe_nil0
  unfold m__law_dash fnB
  simp only [y__law_dash, e_seq, List.length_cons, List.length_nil, List.cons_append, List.nil_append, List.replicate, Nat.reduceAdd, Nat.reduceSub]
  by_cases h1 : 0 < l
  · simp only [e_bind, e_bindE, e_toS, e_toSE, e_nx, e_rt, e_er, e_bk, e_ct, e_op, e_un, e_op2g, e_pkr, e_op1, e_pv, e_pn, e_pnt, e_put, e_putt, e_c, e_var, e_varR, e_bl, e_asB, e_tru, e_pkd, e_trub, e_dAdd, e_dSub, e_dNeg, e_dLt, e_dLe, e_dGt, e_dGe, e_dIs, e_dIsNot, e_nil, e_cons, e_cb, e_opLg, e_pks0, e_pks, e_lst, e_tup, e_ds0, e_ds, e_if, e_seq, e_skip, e_ret, e_expr, e_set, e_par, e_par3, e_not, e_andT, e_orT, e_and, e_or, e_notV, e_ifE, e_call, e_callK, e_isi, e_setIx, e_lstD, e_oLen, e_oLenL, e_oInt, e_oIntB, e_oAbs, e_oIx, List.getElem?_cons_zero, List.getElem?_cons_succ, Option.map_some, List.set_cons_zero, List.set_cons_succ, Ph, at0, at1, at2, e_dDiv hdm, e_dMod h0, h1, decide_true, if_true, List.length_cons, List.length_nil, Nat.reduceAdd, ix2, fin, List.take]
    exact ⟨_, _, _, rfl, lo _, hi _, Int.le_refl _, by omega⟩
  · by_cases h2 : cells = []
    · subst h2
      have t0 : ¬ t < 0 := by omega
      simp only [hne0, e_bind, e_bindE, e_toS, e_toSE, e_nx, e_rt, e_er, e_bk, e_ct, e_op, e_un, e_op2g, e_pkr, e_op1, e_pv, e_pn, e_pnt, e_put, e_putt, e_c, e_var, e_varR, e_bl, e_asB, e_tru, e_pkd, e_trub, e_dAdd, e_dSub, e_dNeg, e_dLt, e_dLe, e_dGt, e_dGe, e_dIs, e_dIsNot, e_nil, e_cons, e_cb, e_opLg, e_pks0, e_pks, e_lst, e_tup, e_ds0, e_ds, e_if, e_seq, e_skip, e_ret, e_expr, e_set, e_par, e_par3, e_not, e_andT, e_orT, e_and, e_or, e_notV, e_ifE, e_call, e_callK, e_isi, e_setIx, e_lstD, e_oLen, e_oLenL, e_oInt, e_oIntB, e_oAbs, e_oIx, List.getElem?_cons_zero, List.getElem?_cons_succ, Option.map_some, List.set_cons_zero, List.set_cons_succ, Ph, at0, at1, at2, e_dDiv hdm, e_dMod h0, h1, decide_false, decide_true, Bool.false_eq_true, if_false, if_true, List.length_cons, List.length_nil, Nat.reduceAdd, ix1, ix2, fin, List.take, hne, e_dMul, k1, k2, k3, k4, k5, e_dDiv d64, e_dMod n1, e_dMod n2, e_dMod n3, e_dPow, p18, q1, q2, e_zlst, Nat.zero_le, List.map_nil, List.isEmpty_nil, Bool.not_true, Nat.zero_le, Int.natCast_zero, Int.ofNat_zero, t0]
      exact ⟨_, _, _, rfl, lo _, hi _, by omega, by omega⟩
    · have hl : 0 < cells.length := by cases cells <;> simp_all
      have he : cells.isEmpty = false := by cases cells <;> simp_all
      have n4 : ¬ ((cells.length : Nat) : Int) = 0 := by omega
      obtain ⟨x, hx, hmem⟩ := atI_some (xs := cells.map D.int) (i := t.fmod cells.length) (fmod_lo t (by omega)) (by rw [List.length_map]; exact fmod_hi t (by omega))
      obtain ⟨c, _, rfl⟩ := List.mem_map.mp hmem
      by_cases h5 : t < (cells.length : Int)
      · by_cases h4 : (10 : Int) ^ Int.toNat 18 ≤ if c < 0 then -c else c
        · simp only [e_bind, e_bindE, e_toS, e_toSE, e_nx, e_rt, e_er, e_bk, e_ct, e_op, e_un, e_op2g, e_pkr, e_op1, e_pv, e_pn, e_pnt, e_put, e_putt, e_c, e_var, e_varR, e_bl, e_asB, e_tru, e_pkd, e_trub, e_dAdd, e_dSub, e_dNeg, e_dLt, e_dLe, e_dGt, e_dGe, e_dIs, e_dIsNot, e_nil, e_cons, e_cb, e_opLg, e_pks0, e_pks, e_lst, e_tup, e_ds0, e_ds, e_if, e_seq, e_skip, e_ret, e_expr, e_set, e_par, e_par3, e_not, e_andT, e_orT, e_and, e_or, e_notV, e_ifE, e_call, e_callK, e_isi, e_setIx, e_lstD, e_oLen, e_oLenL, e_oInt, e_oIntB, e_oAbs, e_oIx, List.getElem?_cons_zero, List.getElem?_cons_succ, Option.map_some, List.set_cons_zero, List.set_cons_succ, Ph, at0, at1, at2, e_dDiv hdm, e_dMod h0, h1, decide_false, decide_true, Bool.false_eq_true, if_false, if_true, List.length_cons, List.length_nil, Nat.reduceAdd, ix1, ix2, fin, List.take, hne, e_dMul, k1, k2, k3, k4, k5, e_dDiv d64, e_dMod n1, e_dMod n2, e_dMod n3, e_dPow, p18, q1, q2, e_zlst, Nat.zero_le, he, Bool.not_false, List.length_map, e_dMod n4, hx, h5, h4]
          exact ⟨_, _, _, rfl, lo _, hi _, by omega, by omega⟩
        · simp only [e_bind, e_bindE, e_toS, e_toSE, e_nx, e_rt, e_er, e_bk, e_ct, e_op, e_un, e_op2g, e_pkr, e_op1, e_pv, e_pn, e_pnt, e_put, e_putt, e_c, e_var, e_varR, e_bl, e_asB, e_tru, e_pkd, e_trub, e_dAdd, e_dSub, e_dNeg, e_dLt, e_dLe, e_dGt, e_dGe, e_dIs, e_dIsNot, e_nil, e_cons, e_cb, e_opLg, e_pks0, e_pks, e_lst, e_tup, e_ds0, e_ds, e_if, e_seq, e_skip, e_ret, e_expr, e_set, e_par, e_par3, e_not, e_andT, e_orT, e_and, e_or, e_notV, e_ifE, e_call, e_callK, e_isi, e_setIx, e_lstD, e_oLen, e_oLenL, e_oInt, e_oIntB, e_oAbs, e_oIx, List.getElem?_cons_zero, List.getElem?_cons_succ, Option.map_some, List.set_cons_zero, List.set_cons_succ, Ph, at0, at1, at2, e_dDiv hdm, e_dMod h0, h1, decide_false, decide_true, Bool.false_eq_true, if_false, if_true, List.length_cons, List.length_nil, Nat.reduceAdd, ix1, ix2, fin, List.take, hne, e_dMul, k1, k2, k3, k4, k5, e_dDiv d64, e_dMod n1, e_dMod n2, e_dMod n3, e_dPow, p18, q1, q2, e_zlst, Nat.zero_le, he, Bool.not_false, List.length_map, e_dMod n4, hx, h5, h4]
          exact ⟨_, _, _, rfl, lo _, hi _, by omega, by omega⟩
      · simp only [e_bind, e_bindE, e_toS, e_toSE, e_nx, e_rt, e_er, e_bk, e_ct, e_op, e_un, e_op2g, e_pkr, e_op1, e_pv, e_pn, e_pnt, e_put, e_putt, e_c, e_var, e_varR, e_bl, e_asB, e_tru, e_pkd, e_trub, e_dAdd, e_dSub, e_dNeg, e_dLt, e_dLe, e_dGt, e_dGe, e_dIs, e_dIsNot, e_nil, e_cons, e_cb, e_opLg, e_pks0, e_pks, e_lst, e_tup, e_ds0, e_ds, e_if, e_seq, e_skip, e_ret, e_expr, e_set, e_par, e_par3, e_not, e_andT, e_orT, e_and, e_or, e_notV, e_ifE, e_call, e_callK, e_isi, e_setIx, e_lstD, e_oLen, e_oLenL, e_oInt, e_oIntB, e_oAbs, e_oIx, List.getElem?_cons_zero, List.getElem?_cons_succ, Option.map_some, List.set_cons_zero, List.set_cons_succ, Ph, at0, at1, at2, e_dDiv hdm, e_dMod h0, h1, decide_false, decide_true, Bool.false_eq_true, if_false, if_true, List.length_cons, List.length_nil, Nat.reduceAdd, ix1, ix2, fin, List.take, hne, e_dMul, k1, k2, k3, k4, k5, e_dDiv d64, e_dMod n1, e_dMod n2, e_dMod n3, e_dPow, p18, q1, q2, e_zlst, Nat.zero_le, he, Bool.not_false, List.length_map, e_dMod n4, hx, h5]
        exact ⟨_, _, _, rfl, lo _, hi _, by omega, by omega⟩
end LawV
namespace LawV
open PySem PySem.Spec PyProof.Rows L2 VL
theorem tipC {cells : List Int} {t l many : Int} (hm : 0 < many) (hm2 : many < 1000) (ht : 0 ≤ t) (ht2 : t ≤ 100000) (hc : cells.length ≤ 1000) :
    ∃ r t' l', (∀ vs, callM m__law_dash [.r 0, .d (.int many)] ⟨vs, [Ph cells t l]⟩ = .ok (.d (.int r)) ⟨vs, [Ph cells t' l']⟩) ∧ 0 ≤ r ∧ r < many ∧ t ≤ t' ∧ t' ≤ t + 1 := by
  obtain ⟨r, t', l', e, h⟩ := tip_ok (l := l) hm hm2 ht ht2 hc
  exact ⟨r, t', l', fun vs => call_r (ws := [.d (.int many)]) rfl rfl e, h⟩
theorem some_ok {cells : List Int} {t l : Int} {xs : List D} (hx : 0 < xs.length) (hx2 : xs.length < 1000) (ht : 0 ≤ t) (ht2 : t ≤ 100000) (hc : cells.length ≤ 1000) :
    ∃ x t' l', (∀ vs, callM m__law_one_of [.r 0, .d (.lst xs)] ⟨vs, [Ph cells t l]⟩ = .ok (.d x) ⟨vs, [Ph cells t' l']⟩) ∧ x ∈ xs ∧ t ≤ t' ∧ t' ≤ t + 1 := by
  obtain ⟨r, t', l', e, h0, h1, h2, h3⟩ := tipC (l := l) (many := xs.length) (by omega) (by omega) ht ht2 hc
  obtain ⟨x, hx, hm⟩ := atI_some (xs := xs) h0 h1
  refine ⟨x, t', l', fun vs => call_r (ws := [.d (.lst xs)]) rfl rfl ?_, hm, h2, h3⟩
  unfold m__law_one_of fnB
  simp only [y__law_one_of, e_bind, e_bindE, e_toS, e_toSE, e_nx, e_rt, e_er, e_bk, e_ct, e_op, e_un, e_op2g, e_pkr, e_op1, e_pv, e_pn, e_pnt, e_put, e_putt, e_c, e_var, e_varR, e_bl, e_asB, e_tru, e_pkd, e_trub, e_dAdd, e_dSub, e_dNeg, e_dLt, e_dLe, e_dGt, e_dGe, e_dIs, e_dIsNot, e_nil, e_cons, e_cb, e_opLg, e_pks0, e_pks, e_lst, e_tup, e_ds0, e_ds, e_if, e_seq, e_skip, e_ret, e_expr, e_set, e_par, e_par3, e_not, e_andT, e_orT, e_and, e_or, e_notV, e_ifE, e_call, e_callK, e_isi, e_setIx, e_lstD, e_oLen, e_oLenL, e_oInt, e_oIntB, e_oAbs, e_oIx, List.getElem?_cons_zero, List.getElem?_cons_succ, Option.map_some, List.set_cons_zero, List.set_cons_succ, List.map_cons, List.map_nil, List.length_cons, List.length_nil, List.cons_append, List.nil_append, List.replicate, Nat.reduceAdd, Nat.reduceSub, List.append_nil, e, hx, fin, List.take]
def vals (n : Int) : List D := [.int n, .int (-(10 : Int) ^ Int.toNat 25 - n), .str ("w" ++ Str.ofString (toString n)), .str "", .non, .bl false, .lst [.int n, .tup [.non]], .tup [.int n, .lst [.int n]], .dct [] [], .lst [], .dct [.inr "a"] [.int n]]
/-- plain, and alike itself -/
def okV (d : D) : Bool := beqD d d && okS 5 d && (match d.py with
  | some x => x.canLay0 && decide (x.depth ≤ 60) && PyData.eqv x x
  | none => true) && (match dNeS d d with
  | some (.v (.bl false)) => true
  | _ => false)
theorem all_okV : ((List.range 70).all fun k => (vals k).all okV) = true := by decide +kernel
def Val (x : D) : Prop := ∃ n : Int, 0 ≤ n ∧ n < 70 ∧ x ∈ vals n
theorem Val.ok {x : D} (h : Val x) : okV x = true := by
  obtain ⟨n, h1, h2, h3⟩ := h
  have := List.all_eq_true.mp all_okV n.toNat (List.mem_range.mpr (by omega))
  have e : ((n.toNat : Nat) : Int) = n := by omega
  rw [e] at this
  exact List.all_eq_true.mp this x h3
theorem ne1 {x : D} (h : okV x = true) : dNeS x x = some (.v (.bl false)) := by
  unfold okV at h
  simp only [Bool.and_eq_true] at h
  have h4 := h.2
  split at h4
  · assumption
  · cases h4
theorem ne2 {x y : D} (hx : okV x = true) (hy : okV y = true) : dNeS (.lst [x, y]) (.lst [x, y]) = some (.v (.bl false)) := by
  unfold okV at hx hy
  simp only [Bool.and_eq_true] at hx hy
  obtain ⟨⟨⟨x1, x2⟩, x3⟩, _⟩ := hx
  obtain ⟨⟨⟨y1, y2⟩, y3⟩, _⟩ := hy
  have other : dNe (.lst [x, y]) (.lst [x, y]) = none → dNeS (.lst [x, y]) (.lst [x, y]) = some (.v (.bl false)) := fun h => by
    unfold dNeS
    rw [h]
    have e : (beqD (.lst [x, y]) (.lst [x, y]) && okS 6 (.lst [x, y]) && isLD (.lst [x, y])) = true := by
      simp only [beqD, beqDs, okS, isLD, List.all_cons, List.all_nil, x1, x2, y1, y2, Bool.and_self]
    simp only [e, if_true]
    rfl
  have hp : (D.lst [x, y]).py = (x.py.bind fun a => y.py.map fun b => PyData.list [a, b]) := by
    simp only [D.py, pys]
    cases x.py <;> cases y.py <;> rfl
  cases ex : x.py with
  | none =>
    refine other ?_
    unfold dNe dEqB
    rw [hp, ex]
    rfl
  | some a =>
    cases ey : y.py with
    | none =>
      refine other ?_
      unfold dNe dEqB
      rw [hp, ex, ey]
      rfl
    | some b =>
      rw [ex] at x3
      rw [ey] at y3
      simp only [Bool.and_eq_true, decide_eq_true_eq] at x3 y3
      have hs : SeqAt.shaped (.list [a, b]) = true := by
        unfold SeqAt.shaped
        simp only [PyData.canLay0, PyData.canLayAll0, PyData.depth, PyData.depthAll, x3.1.1, y3.1.1, Bool.and_self, Bool.true_and, decide_eq_true_eq]
        exact decide_eq_true (Nat.succ_le_succ (Nat.le_trans (Nat.max_le.mpr ⟨x3.1.2, Nat.max_le.mpr ⟨y3.1.2, Nat.zero_le _⟩⟩) (show 60 ≤ 63 by decide)))
      have he : PyData.eqv (.list [a, b]) (.list [a, b]) = true := by
        simp only [PyData.eqv, PyData.eqvAll, x3.2, y3.2, Bool.and_self]
      refine dNeS_of ?_
      unfold dNe dEqB
      rw [hp, ex, ey]
      simp only [Option.bind_some, Option.map_some, hs, he, Bool.and_self, if_true]
      rfl
theorem any_ok {cells : List Int} {t l : Int} (ht : 0 ≤ t) (ht2 : t ≤ 90000) (hc : cells.length ≤ 1000) :
    ∃ x t' l', (∀ vs, callM m__law_any [.r 0] ⟨vs, [Ph cells t l]⟩ = .ok (.d x) ⟨vs, [Ph cells t' l']⟩) ∧ Val x ∧ t ≤ t' ∧ t' ≤ t + 2 := by
  obtain ⟨r, t1, l1, e, h0, h1, h2, h3⟩ := tipC (l := l) (many := 70) (by decide) (by decide) ht (by omega) hc
  obtain ⟨x, t2, l2, e2, hm, h5, h6⟩ := some_ok (cells := cells) (t := t1) (l := l1) (xs := vals r) (by show 0 < 11; decide) (by show 11 < 1000; decide) (by omega) (by omega) hc
  refine ⟨x, t2, l2, fun vs => call_r (ws := []) rfl rfl ?_, ⟨r, h0, h1, hm⟩, by omega, by omega⟩
  have p25 : okPow 10 25 = true := by decide
  have hs : r.natAbs.log2 < 1920 := by
    have : r.natAbs.log2 ≤ r.natAbs := Nat.log2_le_self _
    omega
  have os : oStr [.int r] = some (.v (.str (toString r))) := if_pos hs
  have ow : dAdd (.str "w") (.str (toString r)) = some (.v (.str ("w" ++ Str.ofString (toString r)))) := by
    have hf : fits (("w" : Str).length + (Str.ofString (toString r)).length) = true := by
      have all : ((List.range 70).all fun k => fits (("w" : Str).length + (Str.ofString (toString (k : Int))).length)) = true := by decide +kernel
      have := List.all_eq_true.mp all r.toNat (List.mem_range.mpr (by omega))
      have e : ((r.toNat : Nat) : Int) = r := by omega
      simpa [e] using this
    exact if_pos hf
  unfold vals at e2
  unfold m__law_any fnB
  simp only [y__law_any, e_seq, e_bind, e_bindE, e_toS, e_toSE, e_nx, e_rt, e_er, e_bk, e_ct, e_op, e_un, e_op2g, e_pkr, e_op1, e_pv, e_pn, e_pnt, e_put, e_putt, e_c, e_var, e_varR, e_bl, e_asB, e_tru, e_pkd, e_trub, e_dAdd, e_dSub, e_dNeg, e_dLt, e_dLe, e_dGt, e_dGe, e_dIs, e_dIsNot, e_nil, e_cons, e_cb, e_opLg, e_pks0, e_pks, e_lst, e_tup, e_ds0, e_ds, e_if, e_seq, e_skip, e_ret, e_expr, e_set, e_par, e_par3, e_not, e_andT, e_orT, e_and, e_or, e_notV, e_ifE, e_call, e_callK, e_isi, e_setIx, e_lstD, e_oLen, e_oLenL, e_oInt, e_oIntB, e_oAbs, e_oIx, List.getElem?_cons_zero, List.getElem?_cons_succ, Option.map_some, List.set_cons_zero, List.set_cons_succ, List.map_cons, List.map_nil, List.length_cons, List.length_nil, List.cons_append, List.nil_append, List.replicate, Nat.reduceAdd, Nat.reduceSub, List.append_nil, e, e_dPow, p25, os, ow, e_zlst, Nat.reduceLeDiff, mPut, mDispV, O.toD, fits_s, if_true, fin, List.take, e2]
end LawV
namespace LawV
open PySem PySem.Spec PyProof.Rows L2 VL
section
variable (ns : List Str) (xs : List D)
theorem st0 : ∀ s, callM m__law_stands [.d (.exn "BadNumber" ns xs), .d (.int 0)] s = .ok (.d (.bl true)) s := fun s => call_d rfl (by kernel_rfl)
theorem st1 : ∀ s, callM m__law_stands [.d (.exn "BadWeb" ns xs), .d (.int 1)] s = .ok (.d (.bl true)) s := fun s => call_d rfl (by kernel_rfl)
theorem st2 : ∀ s, callM m__law_stands [.d (.exn "BadTable" ns xs), .d (.int 2)] s = .ok (.d (.bl true)) s := fun s => call_d rfl (by kernel_rfl)
theorem st3 : ∀ s, callM m__law_stands [.d (.exn "BadLot" ns xs), .d (.int 3)] s = .ok (.d (.bl true)) s := fun s => call_d rfl (by kernel_rfl)
theorem st4 : ∀ s, callM m__law_stands [.d (.exn "Misfit" ns xs), .d (.int 4)] s = .ok (.d (.bl true)) s := fun s => call_d rfl (by kernel_rfl)
theorem st5 : ∀ s, callM m__law_stands [.d (.exn "NoPlace" ns xs), .d (.int 5)] s = .ok (.d (.bl true)) s := fun s => call_d rfl (by kernel_rfl)
theorem st6 : ∀ s, callM m__law_stands [.d (.exn "NoTie" ns xs), .d (.int 6)] s = .ok (.d (.bl true)) s := fun s => call_d rfl (by kernel_rfl)
theorem st7 : ∀ s, callM m__law_stands [.d (.exn "Twice" ns xs), .d (.int 7)] s = .ok (.d (.bl true)) s := fun s => call_d rfl (by kernel_rfl)
theorem st8 : ∀ s, callM m__law_stands [.d (.exn "TooMany" ns xs), .d (.int 8)] s = .ok (.d (.bl true)) s := fun s => call_d rfl (by kernel_rfl)
theorem st9 : ∀ s, callM m__law_stands [.d (.exn "BadText" ns xs), .d (.int 9)] s = .ok (.d (.bl true)) s := fun s => call_d rfl (by kernel_rfl)
abbrev F10 : List D := [.bl false, .bl false, .bl false, .bl false, .bl false, .bl false, .bl false, .bl false, .bl false, .bl false]
theorem kinM : ∀ s, callM m__law_kin [.d (.exn "Missing" ns xs)] s = .ok (.d (.lst F10)) s := fun s => call_d rfl (by kernel_rfl)
end
theorem cp0 : cs_part.contains ("BadNumber" : Str) = true := by decide +kernel
theorem cp1 : cs_part.contains ("BadWeb" : Str) = true := by decide +kernel
theorem cp2 : cs_part.contains ("BadTable" : Str) = true := by decide +kernel
theorem cp3 : cs_part.contains ("BadLot" : Str) = true := by decide +kernel
theorem cp4 : cs_part.contains ("Misfit" : Str) = true := by decide +kernel
theorem cv0 : cs_value.contains ("Missing" : Str) = true := by decide +kernel
theorem cv1 : cs_value.contains ("NoPlace" : Str) = true := by decide +kernel
theorem cv2 : cs_value.contains ("NoTie" : Str) = true := by decide +kernel
theorem cv3 : cs_value.contains ("Twice" : Str) = true := by decide +kernel
theorem cw0 : cs_what.contains ("TooMany" : Str) = true := by decide +kernel
theorem cm0 : cs_most.contains ("TooMany" : Str) = true := by decide +kernel
theorem cl0 : cs_line.contains ("BadText" : Str) = true := by decide +kernel
theorem ci0 : cs_item.contains ("BadText" : Str) = true := by decide +kernel
theorem lk1 {f : Str} {v : D} : (List.zip [f] [v]).lookup f = some v := by simp [List.lookup]
theorem lkA {f g : Str} {v u : D} : (List.zip [f, g] [v, u]).lookup f = some v := by simp [List.lookup]
theorem lkB1 {v u : D} : (List.zip [("what" : Str), "most"] [v, u]).lookup ("most" : Str) = some u := by kernel_rfl
theorem lkB2 {v u : D} : (List.zip [("line" : Str), "item"] [v, u]).lookup ("item" : Str) = some u := by kernel_rfl
theorem e_fld {cs : List Str} {f : Str} {m : S → R W} {s : S} : mFldE cs f m s = (m s).bind fun w s1 => match w with
  | .d (.exn x ns xs) => if cs.contains x then (match (ns.zip xs).lookup f with
    | some y => .ok (.d y) s1
    | none => .no) else .no
  | _ => .no := rfl
theorem e_mk {x : Str} {ns : List Str} {perm : List Nat} {fs fk : S → R (List W)} {s : S} : mMkE x ns perm fs fk s = (fs s).bind fun ws s1 => (fk s1).bind fun zs s2 => match dsOf (pick perm (ws ++ zs)) with
  | some ds => if ds.length = ns.length then .ok (.d (.exn x ns ds)) s2 else .no
  | none => .no := rfl
theorem e_isiE {tab : List (Str × Bool)} {m : S → R W} {s : S} : mIsiE tab m s = (m s).bind fun w s1 => match w with
  | .d (.exn x _ _) => (match tab.lookup x with
    | some b => .ok (.d (.bl b)) s1
    | none => .no)
  | _ => .no := rfl
theorem e_pick1 {x : W} : pick [0] [x] = [x] := rfl
theorem e_pick2 {x y : W} : pick [0, 1] [x, y] = [x, y] := rfl
theorem e_pick2' {x y : W} : pick [1, 0] [x, y] = [y, x] := rfl
theorem e_range1 {fs : S → R (List W)} {s : S} : mRange1 fs s = (fs s).bind fun ws s1 => match dsOf ws with
  | some [.int j] => if okR j then .ok (zrange 0 j.toNat) s1 else .no
  | _ => .no := rfl
theorem e_for {it : S → R (List D)} {tg : W → S → Option S} {body : S → RS} {s : S} : mFor it tg body s = (it s).toS fun xs s1 => forL tg body xs s1 := rfl
theorem e_seqIt {f : S → R W} {s : S} : mSeqIt f s = (f s).bind fun x s1 => match seqItems x with
  | some xs => .ok xs s1
  | none => .no := rfl
theorem e_enum {fs : S → R (List W)} {s : S} : mEnum fs s = (fs s).bind fun ws s1 => match dsOf ws with
  | some [.lst xs] => .ok (enumD 0 xs) s1
  | _ => .no := rfl
theorem e_gset {i : Nat} {w : W} {s : S} : gSet i w s = some ⟨s.vs.set i (some w), s.os⟩ := rfl
theorem okR5 : okR 5 = true := by decide
theorem z5 : zrange 0 (Int.toNat 5) = [.int 0, .int 1, .int 2, .int 3, .int 4] := rfl
theorem a0 {v w x y z : D} : atI [v, w, x, y, z] 0 = some v := rfl
theorem a1 {v w x y z : D} : atI [v, w, x, y, z] 1 = some w := rfl
theorem a2 {v w x y z : D} : atI [v, w, x, y, z] 2 = some x := rfl
theorem a3 {v w x y z : D} : atI [v, w, x, y, z] 3 = some y := rfl
theorem a4 {v w x y z : D} : atI [v, w, x, y, z] 4 = some z := rfl
theorem parts_ok {one : D} (h : okV one = true) : ∀ s, callM m__law_parts_right [.d one] s = .ok (.d (.bl true)) s := fun s => by
  refine call_d rfl ?_
  have hn := ne1 h
  unfold m__law_parts_right fnB
  simp only [y__law_parts_right, e_bind, e_bindE, e_toS, e_toSE, e_nx, e_rt, e_er, e_bk, e_ct, e_op, e_un, e_op2g, e_pkr, e_op1, e_pv, e_pn, e_pnt, e_put, e_putt, e_c, e_var, e_varR, e_bl, e_asB, e_tru, e_pkd, e_trub, e_dAdd, e_dSub, e_dNeg, e_dLt, e_dLe, e_dGt, e_dGe, e_dIs, e_dIsNot, e_nil, e_cons, e_cb, e_opLg, e_pks0, e_pks, e_lst, e_tup, e_ds0, e_ds, e_if, e_seq, e_skip, e_ret, e_expr, e_set, e_par, e_par3, e_not, e_andT, e_orT, e_and, e_or, e_notV, e_ifE, e_call, e_callK, e_isi, e_setIx, e_lstD, e_oLen, e_oLenL, e_oInt, e_oIntB, e_oAbs, e_oIx, List.getElem?_cons_zero, List.getElem?_cons_succ, Option.map_some, List.set_cons_zero, List.set_cons_succ, e_mk, e_pick1, List.map_cons, List.map_nil, List.length_cons, List.length_nil, List.cons_append, List.nil_append, List.replicate, Nat.reduceAdd, Nat.reduceSub, List.append_nil, if_true, eq_self, e_zlst, Nat.reduceLeDiff, O.toD, e_for, e_range1, okR5, z5, e_seqIt, seqItems, forL, e_gset, a0, a1, a2, a3, a4, fits_s, e_fld, cp0, cp1, cp2, cp3, cp4, lk1, hn, st0, st1, st2, st3, st4, Bool.not_true, Bool.false_eq_true, if_false, fin, List.take]
end LawV
namespace LawV
open PySem PySem.Spec PyProof.Rows L2 VL
theorem en6 {a b c d e f : D} : enumD 0 [a, b, c, d, e, f] = [.tup [.int 0, a], .tup [.int 1, b], .tup [.int 2, c], .tup [.int 3, d], .tup [.int 4, e], .tup [.int 5, f]] := rfl
theorem e_gt2 {a b : D} {s : S} : gTupF (gConsF (gSet 3) (gConsF (gSet 4) gNilF)) (.d (.tup [a, b])) s = some ⟨(s.vs.set 3 (some (.d a))).set 4 (some (.d b)), s.os⟩ := rfl
theorem g0 : (5 : Int) + Int.fmod 0 3 = 5 := by decide
theorem g1 : (5 : Int) + Int.fmod 1 3 = 6 := by decide
theorem g2 : (5 : Int) + Int.fmod 2 3 = 7 := by decide
theorem g3 : (5 : Int) + Int.fmod 3 3 = 5 := by decide
theorem g4 : (5 : Int) + Int.fmod 4 3 = 6 := by decide
theorem g5 : (5 : Int) + Int.fmod 5 3 = 7 := by decide
theorem n3 : ¬ (3 : Int) = 0 := by decide
theorem mul10 : dMul (.lst [.bl false]) (.int 10) = some (.n (.lst F10)) := by kernel_rfl
theorem neF : dNeS (.lst F10) (.lst F10) = some (.v (.bl false)) := by kernel_rfl
theorem tN : List.lookup ("Missing" : Str) tab_is_NetError = some true := by kernel_rfl
theorem fields_ok {one other : D} (h : okV one = true) (h' : okV other = true) : ∀ s, callM m__law_fields_right [.d one, .d other] s = .ok (.d (.bl true)) s := fun s => by
  refine call_d rfl ?_
  have hn := ne1 h
  have hn' := ne1 h'
  have hn2 := ne2 h h'
  unfold m__law_fields_right fnB
  simp only [y__law_fields_right, e_bind, e_bindE, e_toS, e_toSE, e_nx, e_rt, e_er, e_bk, e_ct, e_op, e_un, e_op2g, e_pkr, e_op1, e_pv, e_pn, e_pnt, e_put, e_putt, e_c, e_var, e_varR, e_bl, e_asB, e_tru, e_pkd, e_trub, e_dAdd, e_dSub, e_dNeg, e_dLt, e_dLe, e_dGt, e_dGe, e_dIs, e_dIsNot, e_nil, e_cons, e_cb, e_opLg, e_pks0, e_pks, e_lst, e_tup, e_ds0, e_ds, e_if, e_seq, e_skip, e_ret, e_expr, e_set, e_par, e_par3, e_not, e_andT, e_orT, e_and, e_or, e_notV, e_ifE, e_call, e_callK, e_isi, e_setIx, e_lstD, e_oLen, e_oLenL, e_oInt, e_oIntB, e_oAbs, e_oIx, List.getElem?_cons_zero, List.getElem?_cons_succ, Option.map_some, List.set_cons_zero, List.set_cons_succ, e_mk, e_pick1, e_pick2, e_pick2', List.map_cons, List.map_nil, List.length_cons, List.length_nil, List.cons_append, List.nil_append, List.replicate, Nat.reduceAdd, Nat.reduceSub, List.append_nil, if_true, eq_self, e_zlst, Nat.reduceLeDiff, O.toD, e_for, e_enum, en6, e_seqIt, seqItems, forL, e_gset, e_gt2, fits_s, e_fld, cv0, cv1, cv2, cv3, cw0, cm0, cl0, ci0, lk1, lkA, lkB1, lkB2, hn, hn', hn2, e_dMod n3, g0, g1, g2, g3, g4, g5, st5, st6, st7, st8, st9, kinM, mul10, neF, e_isiE, tN, Bool.not_true, Bool.false_eq_true, if_false, fin, List.take]
end LawV
namespace LawV
open PySem PySem.Spec PyProof.Rows L2 VL
theorem cut_to' {α : Type} {xs : List α} {k : Nat} : cut xs none (some (k : Int)) = xs.take k := by
  unfold cut
  rw [HT.sIx_nat, HT.sIx_none, Nat.sub_zero, List.drop_zero]
  by_cases h : k ≤ xs.length
  · rw [Nat.min_eq_left h]
  · rw [Nat.min_eq_right (by omega), List.take_of_length_le (Nat.le_refl _), List.take_of_length_le (by omega)]
theorem e_sl {rg : Bool} {op} {f : S → R W} {fl fh : S → R (Option Int)} {s : S} : mSl rg op f fl fh s = (f s).bind fun x s1 => (fl s1).bind fun l s2 => (fh s2).bind fun h s3 => match s3.pk x with
  | some d => s3.puts rg (op d l h)
  | none => .no := rfl
theorem e_nop {s : S} : mNoP s = .ok none s := rfl
theorem e_part {f : S → R W} {s : S} : mPart f s = (f s).bind fun x s1 => match x with
  | .d (.int i) => .ok (some i) s1
  | _ => .no := rfl
theorem e_oSlL {xs : List D} {a b : Option Int} : oSl (.lro xs) a b = some (.n (.lst (cut xs a b))) := rfl
theorem e_lc {rg} {fi : S → R (List D)} {own tg tt te} {s : S} : mLc rg fi own tg tt te s = (fi s).bind fun xs s1 => (lcL s1.vs own tg tt te xs [] s1.os).bind fun ds s2 => s2.put rg (.n (.lst ds)) := rfl
theorem lc_map {vs0 : List (Option W)} {own : List Nat} {tg : W → S → Option S} {te : S → R W} {os : List O} {f : D → D} : ∀ {xs acc : List D},
    (∀ x ∈ xs, ∃ s1, tg (.d x) ⟨wipeW vs0 own, os⟩ = some s1 ∧ te s1 = .ok (.d (f x)) ⟨s1.vs, os⟩) → acc.length + xs.length ≤ 1000 → lcL vs0 own tg mYes te xs acc os = .ok (acc ++ xs.map f) ⟨vs0, os⟩
  | [], acc, _, _ => by rw [lcL, List.map_nil, List.append_nil]
  | x :: xs, acc, h, hl => by
    obtain ⟨s1, e1, e2⟩ := h x (by simp)
    rw [List.length_cons] at hl
    rw [lcL, e1]
    simp only [mYes]
    rw [e2]
    simp only
    rw [if_pos (fits_s (by omega)), lc_map (fun y hy => h y (by simp [hy])) (by rw [List.length_append, List.length_singleton]; omega)]
    simp
theorem phial_ok {ns : List Int} (h : ns.length ≤ 63) {vs : List (Option W)} : callM m__law_cruet [.d (.lro (ns.map D.int))] ⟨vs, []⟩ = .ok (.r 0) ⟨vs, [Ph (ns.take 60) 0 0]⟩ := by
  have hc : cut (ns.map D.int) none (some ((60 : Nat) : Int)) = (ns.take 60).map D.int := by rw [cut_to', List.map_take]
  have hc : cut (ns.map D.int) none (some 60) = (ns.take 60).map D.int := hc
  have hl : lcL [some (W.d (.lro (ns.map D.int))), none] [1] (gSet 1) mYes (mCB false oInt (mCons (mVar 1) mNil)) ((ns.take 60).map D.int) [] [] = .ok ([] ++ ((ns.take 60).map D.int).map id) ⟨[some (W.d (.lro (ns.map D.int))), none], []⟩ :=
    lc_map (f := id) (fun x hx => ⟨⟨[some (W.d (.lro (ns.map D.int))), some (.d x)], []⟩, rfl, by
      obtain ⟨n, _, rfl⟩ := List.mem_map.mp hx
      simp only [e_bind, e_bindE, e_toS, e_toSE, e_nx, e_rt, e_er, e_bk, e_ct, e_op, e_un, e_op2g, e_pkr, e_op1, e_pv, e_pn, e_pnt, e_put, e_putt, e_c, e_var, e_varR, e_bl, e_asB, e_tru, e_pkd, e_trub, e_dAdd, e_dSub, e_dNeg, e_dLt, e_dLe, e_dGt, e_dGe, e_dIs, e_dIsNot, e_nil, e_cons, e_cb, e_opLg, e_pks0, e_pks, e_lst, e_tup, e_ds0, e_ds, e_if, e_seq, e_skip, e_ret, e_expr, e_set, e_par, e_par3, e_not, e_andT, e_orT, e_and, e_or, e_notV, e_ifE, e_call, e_callK, e_isi, e_setIx, e_lstD, e_oLen, e_oLenL, e_oInt, e_oIntB, e_oAbs, e_oIx, List.getElem?_cons_zero, List.getElem?_cons_succ, Option.map_some, List.set_cons_zero, List.set_cons_succ, id]⟩) (by simp only [List.length_nil, List.length_map, List.length_take]; omega)
  rw [List.nil_append, List.map_id] at hl
  have em : m__law_cruet ⟨[some (.d (.lro (ns.map D.int)))], []⟩ = .ok (.r 0) ⟨[], [Ph (ns.take 60) 0 0]⟩ := by
    unfold m__law_cruet fnB
    simp only [y__law_cruet, e_bind, e_bindE, e_toS, e_toSE, e_nx, e_rt, e_er, e_bk, e_ct, e_op, e_un, e_op2g, e_pkr, e_op1, e_pv, e_pn, e_pnt, e_put, e_putt, e_c, e_var, e_varR, e_bl, e_asB, e_tru, e_pkd, e_trub, e_dAdd, e_dSub, e_dNeg, e_dLt, e_dLe, e_dGt, e_dGe, e_dIs, e_dIsNot, e_nil, e_cons, e_cb, e_opLg, e_pks0, e_pks, e_lst, e_tup, e_ds0, e_ds, e_if, e_seq, e_skip, e_ret, e_expr, e_set, e_par, e_par3, e_not, e_andT, e_orT, e_and, e_or, e_notV, e_ifE, e_call, e_callK, e_isi, e_setIx, e_lstD, e_oLen, e_oLenL, e_oInt, e_oIntB, e_oAbs, e_oIx, List.getElem?_cons_zero, List.getElem?_cons_succ, Option.map_some, List.set_cons_zero, List.set_cons_succ, List.map_cons, List.map_nil, List.length_cons, List.length_nil, List.cons_append, List.nil_append, List.replicate, Nat.reduceAdd, Nat.reduceSub, List.append_nil, e_lc, e_seqIt, e_sl, e_nop, e_part, e_oSlL, hc, seqItems, hl, O.toD, e_zlst, Nat.reduceLeDiff, fin, List.take]
    rfl
  unfold callM
  show (match getOs [] [] with
    | some os => (match m__law_cruet ⟨[some (.d (.lro (ns.map D.int)))], os⟩ with
      | .ok x s2 => if (regs [.d (.lro (ns.map D.int))]).length ≤ s2.os.length then backW (regs [.d (.lro (ns.map D.int))]) [] x s2 vs else .no
      | .err C ns' xs s2 => if (regs [.d (.lro (ns.map D.int))]).length ≤ s2.os.length then .err C ns' xs ⟨vs, putOs [] (regs [.d (.lro (ns.map D.int))]) s2.os⟩ else .no
      | .no => .no)
    | none => .no) = _
  simp only [getOs, em]
  rfl
theorem okR3 : okR 3 = true := by decide
theorem z3 : zrange 0 (Int.toNat 3) = [.int 0, .int 1, .int 2] := rfl
theorem law_true (ns : List Int) (h : ns.length ≤ 63) : ∃ s', m_law ⟨[some (.d (.lro (ns.map D.int)))], []⟩ = .ok (.d (.bl true)) s' := by
  have hc : (ns.take 60).length ≤ 1000 := by rw [List.length_take]; omega
  obtain ⟨x1, t1, l1, e1, v1, b1, c1⟩ := any_ok (cells := ns.take 60) (t := 0) (l := 0) (by omega) (by omega) hc
  obtain ⟨x2, t2, l2, e2, v2, b2, c2⟩ := any_ok (cells := ns.take 60) (t := t1) (l := l1) (by omega) (by omega) hc
  obtain ⟨x3, t3, l3, e3, v3, b3, c3⟩ := any_ok (cells := ns.take 60) (t := t2) (l := l2) (by omega) (by omega) hc
  obtain ⟨x4, t4, l4, e4, v4, b4, c4⟩ := any_ok (cells := ns.take 60) (t := t3) (l := l3) (by omega) (by omega) hc
  obtain ⟨x5, t5, l5, e5, v5, b5, c5⟩ := any_ok (cells := ns.take 60) (t := t4) (l := l4) (by omega) (by omega) hc
  obtain ⟨x6, t6, l6, e6, v6, b6, c6⟩ := any_ok (cells := ns.take 60) (t := t5) (l := l5) (by omega) (by omega) hc
  have ph := fun vs => phial_ok (ns := ns) h (vs := vs)
  have p1 := parts_ok v1.ok
  have p3 := parts_ok v3.ok
  have p5 := parts_ok v5.ok
  have q1 := fields_ok v1.ok v2.ok
  have q3 := fields_ok v3.ok v4.ok
  have q5 := fields_ok v5.ok v6.ok
  unfold m_law fnB
  simp only [y_law, e_bind, e_bindE, e_toS, e_toSE, e_nx, e_rt, e_er, e_bk, e_ct, e_op, e_un, e_op2g, e_pkr, e_op1, e_pv, e_pn, e_pnt, e_put, e_putt, e_c, e_var, e_varR, e_bl, e_asB, e_tru, e_pkd, e_trub, e_dAdd, e_dSub, e_dNeg, e_dLt, e_dLe, e_dGt, e_dGe, e_dIs, e_dIsNot, e_nil, e_cons, e_cb, e_opLg, e_pks0, e_pks, e_lst, e_tup, e_ds0, e_ds, e_if, e_seq, e_skip, e_ret, e_expr, e_set, e_par, e_par3, e_not, e_andT, e_orT, e_and, e_or, e_notV, e_ifE, e_call, e_callK, e_isi, e_setIx, e_lstD, e_oLen, e_oLenL, e_oInt, e_oIntB, e_oAbs, e_oIx, List.getElem?_cons_zero, List.getElem?_cons_succ, Option.map_some, List.set_cons_zero, List.set_cons_succ, List.length_cons, List.length_nil, List.cons_append, List.nil_append, List.replicate, Nat.reduceAdd, Nat.reduceSub, ph, e_for, e_range1, okR3, z3, if_true, forL, e_gset, e1, e2, e3, e4, e5, e6, p1, p3, p5, q1, q3, q5, Bool.not_true, Bool.false_eq_true, if_false, fin, List.take]
  exact ⟨_, rfl⟩
end LawV
open PySem PySem.W PyProof.Rows in
set_option maxRecDepth 100000 in
set_option maxHeartbeats 0 in
theorem PySem.Challenge.cw_flowtells_k00_errors_keep_their_fields_holds : PySem.Challenge.rw_flowtells_k00_errors_keep_their_fields.Holds := by
  w_on; o_law; k_head; (case hw => w_witness2)
  k_fill
  refine VL.walk_go (l := PySem.Challenge.rw_flowtells_k00_errors_keep_their_fields) (n := 63) (k := 14) (x := "script") (m := fun _ _ => LawV.m_law) rfl (by decide) rfl ⟨rfl, by decide, by decide⟩ (fun w h Y => PySem.W.kIn_of Y) ?F
  case F =>
    intro w mg fa h KX G hmg
    suffices hS : ∃ fd : FuncData, (∀ (s : Shared) (v : Value), BindsTo s fd ⟨[v], []⟩ [("script", v)]) ∧ ∀ base : Heap, (_ : PySem.W.Frag).In base → base.Ns mainGlobals mg → VL.FnG PySem.Challenge.rw_flowtells_k00_errors_keep_their_fields.prog w _ mg base (L2.CX PySem.Challenge.rw_flowtells_k00_errors_keep_their_fields.prog w) 14 fa fd ["script"] (VL.spM ⟨_, w, mg⟩ 1 LawV.m_law) by
      obtain ⟨fd, h1, h2⟩ := hS
      exact ⟨fd, h1, h2, fun ns hn => LawV.law_true ns hn⟩
    refine' LawV.all_mk KX G hmg ?a__law_cruet ?l__law_cruet ?c__law_cruet ?k__law_cruet ?a__law_dash ?l__law_dash ?c__law_dash ?k__law_dash ?a__law_kin ?l__law_kin ?c__law_kin ?k__law_kin ?a__law_one_of ?l__law_one_of ?c__law_one_of ?k__law_one_of ?a__law_stands ?l__law_stands ?c__law_stands ?k__law_stands ?a__law_any ?l__law_any ?c__law_any ?k__law_any ?a__law_parts_right ?l__law_parts_right ?c__law_parts_right ?k__law_parts_right ?a__law_fields_right ?l__law_fields_right ?c__law_fields_right ?k__law_fields_right ?a_law ?l_law ?c_law ?k_law ?z_ArithmeticError ?z_AttributeError ?z_LookupError ?z_RuntimeError ?z_TypeError ?z_ValueError ?z_abs ?z_enumerate ?z_int ?z_isinstance ?z_len ?z_range ?z_str ?zS ?opq ?spc ?tkc ?a_Missing ?a_BadNumber ?a_BadWeb ?a_BadTable ?a_BadLot ?a_Misfit ?a_NoPlace ?a_NoTie ?a_Twice ?a_TooMany ?a_BadText ?a_NetError ?lc_Missing ?r_Missing ?sa_Missing ?kI_Missing ?su_Missing ?in_Missing ?ve_Missing ?ex_Missing ?kC_Missing ?ga_Missing ?gg_Missing ?be_Missing ?hd_Missing ?ca_Missing ?ob_Missing ?no_Missing_value ?lc_BadNumber ?r_BadNumber ?sa_BadNumber ?kI_BadNumber ?su_BadNumber ?in_BadNumber ?ve_BadNumber ?ex_BadNumber ?kC_BadNumber ?ga_BadNumber ?gg_BadNumber ?be_BadNumber ?hd_BadNumber ?ca_BadNumber ?ob_BadNumber ?no_BadNumber_part ?lc_BadWeb ?r_BadWeb ?sa_BadWeb ?kI_BadWeb ?su_BadWeb ?in_BadWeb ?ve_BadWeb ?ex_BadWeb ?kC_BadWeb ?ga_BadWeb ?gg_BadWeb ?be_BadWeb ?hd_BadWeb ?ca_BadWeb ?ob_BadWeb ?no_BadWeb_part ?lc_BadTable ?r_BadTable ?sa_BadTable ?kI_BadTable ?su_BadTable ?in_BadTable ?ve_BadTable ?ex_BadTable ?kC_BadTable ?ga_BadTable ?gg_BadTable ?be_BadTable ?hd_BadTable ?ca_BadTable ?ob_BadTable ?no_BadTable_part ?lc_BadLot ?r_BadLot ?sa_BadLot ?kI_BadLot ?su_BadLot ?in_BadLot ?ve_BadLot ?ex_BadLot ?kC_BadLot ?ga_BadLot ?gg_BadLot ?be_BadLot ?hd_BadLot ?ca_BadLot ?ob_BadLot ?no_BadLot_part ?lc_Misfit ?r_Misfit ?sa_Misfit ?kI_Misfit ?su_Misfit ?in_Misfit ?ve_Misfit ?ex_Misfit ?kC_Misfit ?ga_Misfit ?gg_Misfit ?be_Misfit ?hd_Misfit ?ca_Misfit ?ob_Misfit ?no_Misfit_part ?lc_NoPlace ?r_NoPlace ?sa_NoPlace ?kI_NoPlace ?su_NoPlace ?in_NoPlace ?ve_NoPlace ?ex_NoPlace ?kC_NoPlace ?ga_NoPlace ?gg_NoPlace ?be_NoPlace ?hd_NoPlace ?ca_NoPlace ?ob_NoPlace ?no_NoPlace_value ?lc_NoTie ?r_NoTie ?sa_NoTie ?kI_NoTie ?su_NoTie ?in_NoTie ?ve_NoTie ?ex_NoTie ?kC_NoTie ?ga_NoTie ?gg_NoTie ?be_NoTie ?hd_NoTie ?ca_NoTie ?ob_NoTie ?no_NoTie_value ?lc_Twice ?r_Twice ?sa_Twice ?kI_Twice ?su_Twice ?in_Twice ?ve_Twice ?ex_Twice ?kC_Twice ?ga_Twice ?gg_Twice ?be_Twice ?hd_Twice ?ca_Twice ?ob_Twice ?no_Twice_value ?lc_TooMany ?r_TooMany ?sa_TooMany ?kI_TooMany ?su_TooMany ?in_TooMany ?ve_TooMany ?ex_TooMany ?kC_TooMany ?ga_TooMany ?gg_TooMany ?be_TooMany ?hd_TooMany ?ca_TooMany ?ob_TooMany ?no_TooMany_what ?no_TooMany_most ?lc_BadText ?r_BadText ?sa_BadText ?kI_BadText ?su_BadText ?in_BadText ?ve_BadText ?ex_BadText ?kC_BadText ?ga_BadText ?gg_BadText ?be_BadText ?hd_BadText ?ca_BadText ?ob_BadText ?no_BadText_line ?no_BadText_item ?lf_Missing ?cd_Missing ?fl_Missing ?fv_Missing ?ff_Missing ?ce_Missing ?cD_Missing ?tI_Missing ?lf_BadNumber ?cd_BadNumber ?fl_BadNumber ?fv_BadNumber ?ff_BadNumber ?ce_BadNumber ?cD_BadNumber ?tI_BadNumber ?lf_BadWeb ?cd_BadWeb ?fl_BadWeb ?fv_BadWeb ?ff_BadWeb ?ce_BadWeb ?cD_BadWeb ?tI_BadWeb ?lf_BadTable ?cd_BadTable ?fl_BadTable ?fv_BadTable ?ff_BadTable ?ce_BadTable ?cD_BadTable ?tI_BadTable ?lf_BadLot ?cd_BadLot ?fl_BadLot ?fv_BadLot ?ff_BadLot ?ce_BadLot ?cD_BadLot ?tI_BadLot ?lf_Misfit ?cd_Misfit ?fl_Misfit ?fv_Misfit ?ff_Misfit ?ce_Misfit ?cD_Misfit ?tI_Misfit ?lf_Twice ?cd_Twice ?fl_Twice ?fv_Twice ?ff_Twice ?ce_Twice ?cD_Twice ?tI_Twice ?lf_TooMany ?cd_TooMany ?fl_TooMany ?fv_TooMany ?ff_TooMany ?ce_TooMany ?cD_TooMany ?tI_TooMany ?lf_BadText ?cd_BadText ?fl_BadText ?fv_BadText ?ff_BadText ?ce_BadText ?cD_BadText ?tI_BadText ?q_is_BadText_Missing ?q_is_BadText_BadNumber ?q_is_BadText_BadWeb ?q_is_BadText_BadTable ?q_is_BadText_BadLot ?q_is_BadText_Misfit ?q_is_BadText_NoPlace ?q_is_BadText_NoTie ?q_is_BadText_Twice ?q_is_BadText_TooMany ?q_is_BadText_BadText ?q_is_TooMany_Missing ?q_is_TooMany_BadNumber ?q_is_TooMany_BadWeb ?q_is_TooMany_BadTable ?q_is_TooMany_BadLot ?q_is_TooMany_Misfit ?q_is_TooMany_NoPlace ?q_is_TooMany_NoTie ?q_is_TooMany_Twice ?q_is_TooMany_TooMany ?q_is_TooMany_BadText ?q_is_Twice_Missing ?q_is_Twice_BadNumber ?q_is_Twice_BadWeb ?q_is_Twice_BadTable ?q_is_Twice_BadLot ?q_is_Twice_Misfit ?q_is_Twice_NoPlace ?q_is_Twice_NoTie ?q_is_Twice_Twice ?q_is_Twice_TooMany ?q_is_Twice_BadText ?q_is_NoTie_Missing ?q_is_NoTie_BadNumber ?q_is_NoTie_BadWeb ?q_is_NoTie_BadTable ?q_is_NoTie_BadLot ?q_is_NoTie_Misfit ?q_is_NoTie_NoPlace ?q_is_NoTie_NoTie ?q_is_NoTie_Twice ?q_is_NoTie_TooMany ?q_is_NoTie_BadText ?q_is_NoPlace_Missing ?q_is_NoPlace_BadNumber ?q_is_NoPlace_BadWeb ?q_is_NoPlace_BadTable ?q_is_NoPlace_BadLot ?q_is_NoPlace_Misfit ?q_is_NoPlace_NoPlace ?q_is_NoPlace_NoTie ?q_is_NoPlace_Twice ?q_is_NoPlace_TooMany ?q_is_NoPlace_BadText ?q_is_Misfit_Missing ?q_is_Misfit_BadNumber ?q_is_Misfit_BadWeb ?q_is_Misfit_BadTable ?q_is_Misfit_BadLot ?q_is_Misfit_Misfit ?q_is_Misfit_NoPlace ?q_is_Misfit_NoTie ?q_is_Misfit_Twice ?q_is_Misfit_TooMany ?q_is_Misfit_BadText ?q_is_BadLot_Missing ?q_is_BadLot_BadNumber ?q_is_BadLot_BadWeb ?q_is_BadLot_BadTable ?q_is_BadLot_BadLot ?q_is_BadLot_Misfit ?q_is_BadLot_NoPlace ?q_is_BadLot_NoTie ?q_is_BadLot_Twice ?q_is_BadLot_TooMany ?q_is_BadLot_BadText ?q_is_BadTable_Missing ?q_is_BadTable_BadNumber ?q_is_BadTable_BadWeb ?q_is_BadTable_BadTable ?q_is_BadTable_BadLot ?q_is_BadTable_Misfit ?q_is_BadTable_NoPlace ?q_is_BadTable_NoTie ?q_is_BadTable_Twice ?q_is_BadTable_TooMany ?q_is_BadTable_BadText ?q_is_BadWeb_Missing ?q_is_BadWeb_BadNumber ?q_is_BadWeb_BadWeb ?q_is_BadWeb_BadTable ?q_is_BadWeb_BadLot ?q_is_BadWeb_Misfit ?q_is_BadWeb_NoPlace ?q_is_BadWeb_NoTie ?q_is_BadWeb_Twice ?q_is_BadWeb_TooMany ?q_is_BadWeb_BadText ?q_is_BadNumber_Missing ?q_is_BadNumber_BadNumber ?q_is_BadNumber_BadWeb ?q_is_BadNumber_BadTable ?q_is_BadNumber_BadLot ?q_is_BadNumber_Misfit ?q_is_BadNumber_NoPlace ?q_is_BadNumber_NoTie ?q_is_BadNumber_Twice ?q_is_BadNumber_TooMany ?q_is_BadNumber_BadText ?q_is_LookupError_TypeError_ArithmeticError_AttributeError_RuntimeError_Missing ?q_is_LookupError_TypeError_ArithmeticError_AttributeError_RuntimeError_BadNumber ?q_is_LookupError_TypeError_ArithmeticError_AttributeError_RuntimeError_BadWeb ?q_is_LookupError_TypeError_ArithmeticError_AttributeError_RuntimeError_BadTable ?q_is_LookupError_TypeError_ArithmeticError_AttributeError_RuntimeError_BadLot ?q_is_LookupError_TypeError_ArithmeticError_AttributeError_RuntimeError_Misfit ?q_is_LookupError_TypeError_ArithmeticError_AttributeError_RuntimeError_NoPlace ?q_is_LookupError_TypeError_ArithmeticError_AttributeError_RuntimeError_NoTie ?q_is_LookupError_TypeError_ArithmeticError_AttributeError_RuntimeError_Twice ?q_is_LookupError_TypeError_ArithmeticError_AttributeError_RuntimeError_TooMany ?q_is_LookupError_TypeError_ArithmeticError_AttributeError_RuntimeError_BadText ?q_is_NetError_Missing ?q_is_NetError_BadNumber ?q_is_NetError_BadWeb ?q_is_NetError_BadTable ?q_is_NetError_BadLot ?q_is_NetError_Misfit ?q_is_NetError_NoPlace ?q_is_NetError_NoTie ?q_is_NetError_Twice ?q_is_NetError_TooMany ?q_is_NetError_BadText ?q_is_ValueError_Missing ?q_is_ValueError_BadNumber ?q_is_ValueError_BadWeb ?q_is_ValueError_BadTable ?q_is_ValueError_BadLot ?q_is_ValueError_Misfit ?q_is_ValueError_NoPlace ?q_is_ValueError_NoTie ?q_is_ValueError_Twice ?q_is_ValueError_TooMany ?q_is_ValueError_BadText ?q_is_Missing_Missing ?q_is_Missing_BadNumber ?q_is_Missing_BadWeb ?q_is_Missing_BadTable ?q_is_Missing_BadLot ?q_is_Missing_Misfit ?q_is_Missing_NoPlace ?q_is_Missing_NoTie ?q_is_Missing_Twice ?q_is_Missing_TooMany ?q_is_Missing_BadText
    (case a__law_cruet => k_is)
    (case l__law_cruet => k_is)
    (case c__law_cruet => k_is)
    (case k__law_cruet => k_is)
    (case a__law_dash => k_is)
    (case l__law_dash => k_is)
    (case c__law_dash => k_is)
    (case k__law_dash => k_is)
    (case a__law_kin => k_is)
    (case l__law_kin => k_is)
    (case c__law_kin => k_is)
    (case k__law_kin => k_is)
    (case a__law_one_of => k_is)
    (case l__law_one_of => k_is)
    (case c__law_one_of => k_is)
    (case k__law_one_of => k_is)
    (case a__law_stands => k_is)
    (case l__law_stands => k_is)
    (case c__law_stands => k_is)
    (case k__law_stands => k_is)
    (case a__law_any => k_is)
    (case l__law_any => k_is)
    (case c__law_any => k_is)
    (case k__law_any => k_is)
    (case a__law_parts_right => k_is)
    (case l__law_parts_right => k_is)
    (case c__law_parts_right => k_is)
    (case k__law_parts_right => k_is)
    (case a__law_fields_right => k_is)
    (case l__law_fields_right => k_is)
    (case c__law_fields_right => k_is)
    (case k__law_fields_right => k_is)
    (case a_law => k_is)
    (case l_law => k_is)
    (case c_law => k_is)
    (case k_law => k_is)
    (case z_ArithmeticError => k_is)
    (case z_AttributeError => k_is)
    (case z_LookupError => k_is)
    (case z_RuntimeError => k_is)
    (case z_TypeError => k_is)
    (case z_ValueError => k_is)
    (case z_abs => k_is)
    (case z_enumerate => k_is)
    (case z_int => k_is)
    (case z_isinstance => k_is)
    (case z_len => k_is)
    (case z_range => k_is)
    (case z_str => k_is)
    (case zS => k_is)
    (case opq => k_is)
    (case spc => k_is)
    (case tkc => k_is)
    (case a_Missing => k_is)
    (case a_BadNumber => k_is)
    (case a_BadWeb => k_is)
    (case a_BadTable => k_is)
    (case a_BadLot => k_is)
    (case a_Misfit => k_is)
    (case a_NoPlace => k_is)
    (case a_NoTie => k_is)
    (case a_Twice => k_is)
    (case a_TooMany => k_is)
    (case a_BadText => k_is)
    (case a_NetError => k_is)
    (case lc_Missing => k_is)
    (case r_Missing => decide +kernel)
    (case sa_Missing => k_is)
    (case kI_Missing => k_is)
    (case su_Missing => k_is)
    (case in_Missing => ks_is)
    (case ve_Missing => k_is)
    (case ex_Missing => kx_is)
    (case kC_Missing => k_is)
    (case ga_Missing => k_is)
    (case gg_Missing => k_is)
    (case be_Missing => k_is)
    (case hd_Missing => k_is)
    (case ca_Missing => k_is)
    (case ob_Missing => k_is)
    (case no_Missing_value => k_is)
    (case lc_BadNumber => k_is)
    (case r_BadNumber => decide +kernel)
    (case sa_BadNumber => k_is)
    (case kI_BadNumber => k_is)
    (case su_BadNumber => k_is)
    (case in_BadNumber => ks_is)
    (case ve_BadNumber => k_is)
    (case ex_BadNumber => kx_is)
    (case kC_BadNumber => k_is)
    (case ga_BadNumber => k_is)
    (case gg_BadNumber => k_is)
    (case be_BadNumber => k_is)
    (case hd_BadNumber => k_is)
    (case ca_BadNumber => k_is)
    (case ob_BadNumber => k_is)
    (case no_BadNumber_part => k_is)
    (case lc_BadWeb => k_is)
    (case r_BadWeb => decide +kernel)
    (case sa_BadWeb => k_is)
    (case kI_BadWeb => k_is)
    (case su_BadWeb => k_is)
    (case in_BadWeb => ks_is)
    (case ve_BadWeb => k_is)
    (case ex_BadWeb => kx_is)
    (case kC_BadWeb => k_is)
    (case ga_BadWeb => k_is)
    (case gg_BadWeb => k_is)
    (case be_BadWeb => k_is)
    (case hd_BadWeb => k_is)
    (case ca_BadWeb => k_is)
    (case ob_BadWeb => k_is)
    (case no_BadWeb_part => k_is)
    (case lc_BadTable => k_is)
    (case r_BadTable => decide +kernel)
    (case sa_BadTable => k_is)
    (case kI_BadTable => k_is)
    (case su_BadTable => k_is)
    (case in_BadTable => ks_is)
    (case ve_BadTable => k_is)
    (case ex_BadTable => kx_is)
    (case kC_BadTable => k_is)
    (case ga_BadTable => k_is)
    (case gg_BadTable => k_is)
    (case be_BadTable => k_is)
    (case hd_BadTable => k_is)
    (case ca_BadTable => k_is)
    (case ob_BadTable => k_is)
    (case no_BadTable_part => k_is)
    (case lc_BadLot => k_is)
    (case r_BadLot => decide +kernel)
    (case sa_BadLot => k_is)
    (case kI_BadLot => k_is)
    (case su_BadLot => k_is)
    (case in_BadLot => ks_is)
    (case ve_BadLot => k_is)
    (case ex_BadLot => kx_is)
    (case kC_BadLot => k_is)
    (case ga_BadLot => k_is)
    (case gg_BadLot => k_is)
    (case be_BadLot => k_is)
    (case hd_BadLot => k_is)
    (case ca_BadLot => k_is)
    (case ob_BadLot => k_is)
    (case no_BadLot_part => k_is)
    (case lc_Misfit => k_is)
    (case r_Misfit => decide +kernel)
    (case sa_Misfit => k_is)
    (case kI_Misfit => k_is)
    (case su_Misfit => k_is)
    (case in_Misfit => ks_is)
    (case ve_Misfit => k_is)
    (case ex_Misfit => kx_is)
    (case kC_Misfit => k_is)
    (case ga_Misfit => k_is)
    (case gg_Misfit => k_is)
    (case be_Misfit => k_is)
    (case hd_Misfit => k_is)
    (case ca_Misfit => k_is)
    (case ob_Misfit => k_is)
    (case no_Misfit_part => k_is)
    (case lc_NoPlace => k_is)
    (case r_NoPlace => decide +kernel)
    (case sa_NoPlace => k_is)
    (case kI_NoPlace => k_is)
    (case su_NoPlace => k_is)
    (case in_NoPlace => ks_is)
    (case ve_NoPlace => k_is)
    (case ex_NoPlace => kx_is)
    (case kC_NoPlace => k_is)
    (case ga_NoPlace => k_is)
    (case gg_NoPlace => k_is)
    (case be_NoPlace => k_is)
    (case hd_NoPlace => k_is)
    (case ca_NoPlace => k_is)
    (case ob_NoPlace => k_is)
    (case no_NoPlace_value => k_is)
    (case lc_NoTie => k_is)
    (case r_NoTie => decide +kernel)
    (case sa_NoTie => k_is)
    (case kI_NoTie => k_is)
    (case su_NoTie => k_is)
    (case in_NoTie => ks_is)
    (case ve_NoTie => k_is)
    (case ex_NoTie => kx_is)
    (case kC_NoTie => k_is)
    (case ga_NoTie => k_is)
    (case gg_NoTie => k_is)
    (case be_NoTie => k_is)
    (case hd_NoTie => k_is)
    (case ca_NoTie => k_is)
    (case ob_NoTie => k_is)
    (case no_NoTie_value => k_is)
    (case lc_Twice => k_is)
    (case r_Twice => decide +kernel)
    (case sa_Twice => k_is)
    (case kI_Twice => k_is)
    (case su_Twice => k_is)
    (case in_Twice => ks_is)
    (case ve_Twice => k_is)
    (case ex_Twice => kx_is)
    (case kC_Twice => k_is)
    (case ga_Twice => k_is)
    (case gg_Twice => k_is)
    (case be_Twice => k_is)
    (case hd_Twice => k_is)
    (case ca_Twice => k_is)
    (case ob_Twice => k_is)
    (case no_Twice_value => k_is)
    (case lc_TooMany => k_is)
    (case r_TooMany => decide +kernel)
    (case sa_TooMany => k_is)
    (case kI_TooMany => k_is)
    (case su_TooMany => k_is)
    (case in_TooMany => ks_is)
    (case ve_TooMany => k_is)
    (case ex_TooMany => kx_is)
    (case kC_TooMany => k_is)
    (case ga_TooMany => k_is)
    (case gg_TooMany => k_is)
    (case be_TooMany => k_is)
    (case hd_TooMany => k_is)
    (case ca_TooMany => k_is)
    (case ob_TooMany => k_is)
    (case no_TooMany_what => k_is)
    (case no_TooMany_most => k_is)
    (case lc_BadText => k_is)
    (case r_BadText => decide +kernel)
    (case sa_BadText => k_is)
    (case kI_BadText => k_is)
    (case su_BadText => k_is)
    (case in_BadText => ks_is)
    (case ve_BadText => k_is)
    (case ex_BadText => kx_is)
    (case kC_BadText => k_is)
    (case ga_BadText => k_is)
    (case gg_BadText => k_is)
    (case be_BadText => k_is)
    (case hd_BadText => k_is)
    (case ca_BadText => k_is)
    (case ob_BadText => k_is)
    (case no_BadText_line => k_is)
    (case no_BadText_item => k_is)
    (case lf_Missing => k_is)
    (case cd_Missing => k_is)
    (case fl_Missing => k_is)
    (case fv_Missing => rfl)
    (case ff_Missing => decide +kernel)
    (case ce_Missing => k_is)
    (case cD_Missing => k_is)
    (case tI_Missing => k_is)
    (case lf_BadNumber => k_is)
    (case cd_BadNumber => k_is)
    (case fl_BadNumber => k_is)
    (case fv_BadNumber => rfl)
    (case ff_BadNumber => decide +kernel)
    (case ce_BadNumber => k_is)
    (case cD_BadNumber => k_is)
    (case tI_BadNumber => k_is)
    (case lf_BadWeb => k_is)
    (case cd_BadWeb => k_is)
    (case fl_BadWeb => k_is)
    (case fv_BadWeb => rfl)
    (case ff_BadWeb => decide +kernel)
    (case ce_BadWeb => k_is)
    (case cD_BadWeb => k_is)
    (case tI_BadWeb => k_is)
    (case lf_BadTable => k_is)
    (case cd_BadTable => k_is)
    (case fl_BadTable => k_is)
    (case fv_BadTable => rfl)
    (case ff_BadTable => decide +kernel)
    (case ce_BadTable => k_is)
    (case cD_BadTable => k_is)
    (case tI_BadTable => k_is)
    (case lf_BadLot => k_is)
    (case cd_BadLot => k_is)
    (case fl_BadLot => k_is)
    (case fv_BadLot => rfl)
    (case ff_BadLot => decide +kernel)
    (case ce_BadLot => k_is)
    (case cD_BadLot => k_is)
    (case tI_BadLot => k_is)
    (case lf_Misfit => k_is)
    (case cd_Misfit => k_is)
    (case fl_Misfit => k_is)
    (case fv_Misfit => rfl)
    (case ff_Misfit => decide +kernel)
    (case ce_Misfit => k_is)
    (case cD_Misfit => k_is)
    (case tI_Misfit => k_is)
    (case lf_Twice => k_is)
    (case cd_Twice => k_is)
    (case fl_Twice => k_is)
    (case fv_Twice => rfl)
    (case ff_Twice => decide +kernel)
    (case ce_Twice => k_is)
    (case cD_Twice => k_is)
    (case tI_Twice => k_is)
    (case lf_TooMany => k_is)
    (case cd_TooMany => k_is)
    (case fl_TooMany => k_is)
    (case fv_TooMany => rfl)
    (case ff_TooMany => decide +kernel)
    (case ce_TooMany => k_is)
    (case cD_TooMany => k_is)
    (case tI_TooMany => k_is)
    (case lf_BadText => k_is)
    (case cd_BadText => k_is)
    (case fl_BadText => k_is)
    (case fv_BadText => rfl)
    (case ff_BadText => decide +kernel)
    (case ce_BadText => k_is)
    (case cD_BadText => k_is)
    (case tI_BadText => k_is)
    (case q_is_BadText_Missing => kit_is)
    (case q_is_BadText_BadNumber => kit_is)
    (case q_is_BadText_BadWeb => kit_is)
    (case q_is_BadText_BadTable => kit_is)
    (case q_is_BadText_BadLot => kit_is)
    (case q_is_BadText_Misfit => kit_is)
    (case q_is_BadText_NoPlace => kit_is)
    (case q_is_BadText_NoTie => kit_is)
    (case q_is_BadText_Twice => kit_is)
    (case q_is_BadText_TooMany => kit_is)
    (case q_is_BadText_BadText => kit_is)
    (case q_is_TooMany_Missing => kit_is)
    (case q_is_TooMany_BadNumber => kit_is)
    (case q_is_TooMany_BadWeb => kit_is)
    (case q_is_TooMany_BadTable => kit_is)
    (case q_is_TooMany_BadLot => kit_is)
    (case q_is_TooMany_Misfit => kit_is)
    (case q_is_TooMany_NoPlace => kit_is)
    (case q_is_TooMany_NoTie => kit_is)
    (case q_is_TooMany_Twice => kit_is)
    (case q_is_TooMany_TooMany => kit_is)
    (case q_is_TooMany_BadText => kit_is)
    (case q_is_Twice_Missing => kit_is)
    (case q_is_Twice_BadNumber => kit_is)
    (case q_is_Twice_BadWeb => kit_is)
    (case q_is_Twice_BadTable => kit_is)
    (case q_is_Twice_BadLot => kit_is)
    (case q_is_Twice_Misfit => kit_is)
    (case q_is_Twice_NoPlace => kit_is)
    (case q_is_Twice_NoTie => kit_is)
    (case q_is_Twice_Twice => kit_is)
    (case q_is_Twice_TooMany => kit_is)
    (case q_is_Twice_BadText => kit_is)
    (case q_is_NoTie_Missing => kit_is)
    (case q_is_NoTie_BadNumber => kit_is)
    (case q_is_NoTie_BadWeb => kit_is)
    (case q_is_NoTie_BadTable => kit_is)
    (case q_is_NoTie_BadLot => kit_is)
    (case q_is_NoTie_Misfit => kit_is)
    (case q_is_NoTie_NoPlace => kit_is)
    (case q_is_NoTie_NoTie => kit_is)
    (case q_is_NoTie_Twice => kit_is)
    (case q_is_NoTie_TooMany => kit_is)
    (case q_is_NoTie_BadText => kit_is)
    (case q_is_NoPlace_Missing => kit_is)
    (case q_is_NoPlace_BadNumber => kit_is)
    (case q_is_NoPlace_BadWeb => kit_is)
    (case q_is_NoPlace_BadTable => kit_is)
    (case q_is_NoPlace_BadLot => kit_is)
    (case q_is_NoPlace_Misfit => kit_is)
    (case q_is_NoPlace_NoPlace => kit_is)
    (case q_is_NoPlace_NoTie => kit_is)
    (case q_is_NoPlace_Twice => kit_is)
    (case q_is_NoPlace_TooMany => kit_is)
    (case q_is_NoPlace_BadText => kit_is)
    (case q_is_Misfit_Missing => kit_is)
    (case q_is_Misfit_BadNumber => kit_is)
    (case q_is_Misfit_BadWeb => kit_is)
    (case q_is_Misfit_BadTable => kit_is)
    (case q_is_Misfit_BadLot => kit_is)
    (case q_is_Misfit_Misfit => kit_is)
    (case q_is_Misfit_NoPlace => kit_is)
    (case q_is_Misfit_NoTie => kit_is)
    (case q_is_Misfit_Twice => kit_is)
    (case q_is_Misfit_TooMany => kit_is)
    (case q_is_Misfit_BadText => kit_is)
    (case q_is_BadLot_Missing => kit_is)
    (case q_is_BadLot_BadNumber => kit_is)
    (case q_is_BadLot_BadWeb => kit_is)
    (case q_is_BadLot_BadTable => kit_is)
    (case q_is_BadLot_BadLot => kit_is)
    (case q_is_BadLot_Misfit => kit_is)
    (case q_is_BadLot_NoPlace => kit_is)
    (case q_is_BadLot_NoTie => kit_is)
    (case q_is_BadLot_Twice => kit_is)
    (case q_is_BadLot_TooMany => kit_is)
    (case q_is_BadLot_BadText => kit_is)
    (case q_is_BadTable_Missing => kit_is)
    (case q_is_BadTable_BadNumber => kit_is)
    (case q_is_BadTable_BadWeb => kit_is)
    (case q_is_BadTable_BadTable => kit_is)
    (case q_is_BadTable_BadLot => kit_is)
    (case q_is_BadTable_Misfit => kit_is)
    (case q_is_BadTable_NoPlace => kit_is)
    (case q_is_BadTable_NoTie => kit_is)
    (case q_is_BadTable_Twice => kit_is)
    (case q_is_BadTable_TooMany => kit_is)
    (case q_is_BadTable_BadText => kit_is)
    (case q_is_BadWeb_Missing => kit_is)
    (case q_is_BadWeb_BadNumber => kit_is)
    (case q_is_BadWeb_BadWeb => kit_is)
    (case q_is_BadWeb_BadTable => kit_is)
    (case q_is_BadWeb_BadLot => kit_is)
    (case q_is_BadWeb_Misfit => kit_is)
    (case q_is_BadWeb_NoPlace => kit_is)
    (case q_is_BadWeb_NoTie => kit_is)
    (case q_is_BadWeb_Twice => kit_is)
    (case q_is_BadWeb_TooMany => kit_is)
    (case q_is_BadWeb_BadText => kit_is)
    (case q_is_BadNumber_Missing => kit_is)
    (case q_is_BadNumber_BadNumber => kit_is)
    (case q_is_BadNumber_BadWeb => kit_is)
    (case q_is_BadNumber_BadTable => kit_is)
    (case q_is_BadNumber_BadLot => kit_is)
    (case q_is_BadNumber_Misfit => kit_is)
    (case q_is_BadNumber_NoPlace => kit_is)
    (case q_is_BadNumber_NoTie => kit_is)
    (case q_is_BadNumber_Twice => kit_is)
    (case q_is_BadNumber_TooMany => kit_is)
    (case q_is_BadNumber_BadText => kit_is)
    (case q_is_LookupError_TypeError_ArithmeticError_AttributeError_RuntimeError_Missing => kit_is)
    (case q_is_LookupError_TypeError_ArithmeticError_AttributeError_RuntimeError_BadNumber => kit_is)
    (case q_is_LookupError_TypeError_ArithmeticError_AttributeError_RuntimeError_BadWeb => kit_is)
    (case q_is_LookupError_TypeError_ArithmeticError_AttributeError_RuntimeError_BadTable => kit_is)
    (case q_is_LookupError_TypeError_ArithmeticError_AttributeError_RuntimeError_BadLot => kit_is)
    (case q_is_LookupError_TypeError_ArithmeticError_AttributeError_RuntimeError_Misfit => kit_is)
    (case q_is_LookupError_TypeError_ArithmeticError_AttributeError_RuntimeError_NoPlace => kit_is)
    (case q_is_LookupError_TypeError_ArithmeticError_AttributeError_RuntimeError_NoTie => kit_is)
    (case q_is_LookupError_TypeError_ArithmeticError_AttributeError_RuntimeError_Twice => kit_is)
    (case q_is_LookupError_TypeError_ArithmeticError_AttributeError_RuntimeError_TooMany => kit_is)
    (case q_is_LookupError_TypeError_ArithmeticError_AttributeError_RuntimeError_BadText => kit_is)
    (case q_is_NetError_Missing => kit_is)
    (case q_is_NetError_BadNumber => kit_is)
    (case q_is_NetError_BadWeb => kit_is)
    (case q_is_NetError_BadTable => kit_is)
    (case q_is_NetError_BadLot => kit_is)
    (case q_is_NetError_Misfit => kit_is)
    (case q_is_NetError_NoPlace => kit_is)
    (case q_is_NetError_NoTie => kit_is)
    (case q_is_NetError_Twice => kit_is)
    (case q_is_NetError_TooMany => kit_is)
    (case q_is_NetError_BadText => kit_is)
    (case q_is_ValueError_Missing => kit_is)
    (case q_is_ValueError_BadNumber => kit_is)
    (case q_is_ValueError_BadWeb => kit_is)
    (case q_is_ValueError_BadTable => kit_is)
    (case q_is_ValueError_BadLot => kit_is)
    (case q_is_ValueError_Misfit => kit_is)
    (case q_is_ValueError_NoPlace => kit_is)
    (case q_is_ValueError_NoTie => kit_is)
    (case q_is_ValueError_Twice => kit_is)
    (case q_is_ValueError_TooMany => kit_is)
    (case q_is_ValueError_BadText => kit_is)
    (case q_is_Missing_Missing => kit_is)
    (case q_is_Missing_BadNumber => kit_is)
    (case q_is_Missing_BadWeb => kit_is)
    (case q_is_Missing_BadTable => kit_is)
    (case q_is_Missing_BadLot => kit_is)
    (case q_is_Missing_Misfit => kit_is)
    (case q_is_Missing_NoPlace => kit_is)
    (case q_is_Missing_NoTie => kit_is)
    (case q_is_Missing_Twice => kit_is)
    (case q_is_Missing_TooMany => kit_is)
    (case q_is_Missing_BadText => kit_is)
