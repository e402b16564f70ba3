import PyProof.Rows.All
import Wide.All
import OpenK.AllK
import Wide.FinOn
import HandS.ForMost
import HandS.ForExc
import HandS.Wide
import HandS.IsInst
import HandS.ExcField
import KE.KExcIs
import HandS.Deep
import HandS.RaiseMore
import HandS.SortInts
import HandS.OwnEq
import HandS.TupAny
import HandS.CallSlots
import HandS.TryMany
import KE.KExcSuper
import HandS.ExcInit
import PyProof.InstNe
import HandS.Zip
import KE.GoesMore
import KE.GoesEnum
import HandS.FStr
import KE.KFmtOwn
import KE.KCallOwn
import KE.KOpsOwn
import HandS.Star
import PySem.Challenge.RW_waterbyturns_k09_days
set_option Elab.async false
set_option linter.all false
set_option maxRecDepth 100000
set_option maxHeartbeats 4000000
/-! the data layer: what a def computes, as a function of plain data -/
namespace DL
open PySem L2

/-! ## data -/
inductive D where
  | non | bl (b : Bool) | int (i : Int) | str (s : Str)
  | tup (l : List D) | lst (l : List D)
  | obj (c : Nat) (ns : List Str) (l : List D)
  | exc (c : Nat) (ns : List Str) (l : List D)
  | loc (n : Nat)
  /-- the script -/
  | scr (l : List Int)
inductive M where
  | val (d : D) | lst (l : List M) | tup (l : List M) | obj (c : Nat) (ns : List Str) (l : List M)

structure Gx where
  K : PySem.W.Frag
  T : Nat → Addr

/-- an exception object of the class at C, its own dict dd, at a -/
def ExV (cls : Value) (dd : Option Addr) (a : Addr) : HO := .ext fun h => ∃ (oe : Obj) (vs : Array Value), h.get? a = some oe ∧ Zc cls dd oe ∧ oe.data = .fields vs

mutual
def Rep (G : Gx) (B : Hp) (ρ : List Addr) : D → V → Prop
  | .non, v => v = .non
  | .bl b, v => v = .bl b
  | .int i, v => v = .int i
  | .str s, v => v = .str s
  | .tup ds, v => ∃ p xs, v = .ref p ∧ SqT G.K B p xs ∧ Reps G B ρ ds xs
  | .lst ds, v => ∃ p xs, v = .ref p ∧ B p = some (.lst xs) ∧ Reps G B ρ ds xs
  | .obj c ns ds, v => ∃ p dx xs, v = .ref p ∧ B p = some (.ins (G.T c) dx (ns.zip xs)) ∧ ns.length = xs.length ∧ Reps G B ρ ds xs
  | .exc c ns ds, v => ∃ p dd, v = .ref p ∧ B p = some (ExV (.ref (G.T c)) dd p) ∧ ((ns = [] ∧ ds = [] ∧ dd = none) ∨ ∃ d xs, dd = some d ∧ B d = some (.xd (ns.zip xs)) ∧ ns.length = xs.length ∧ Reps G B ρ ds xs)
  | .loc n, v => ∃ p, ρ[n]? = some p ∧ v = .ref p
  | .scr l, v => ∃ p, v = .ref p ∧ SqL G.K B p (l.map V.int)
def Reps (G : Gx) (B : Hp) (ρ : List Addr) : List D → List V → Prop
  | [], xs => xs = []
  | d :: ds, xs => ∃ x r, xs = x :: r ∧ Rep G B ρ d x ∧ Reps G B ρ ds r
end

mutual
theorem Rep.mono {G : Gx} {B B' : Hp} {ρ : List Addr} (e : Same B B') : ∀ (d : D) (v : V), Rep G B ρ d v → Rep G B' ρ d v
  | .non, v, h => h
  | .bl b, v, h => h
  | .int i, v, h => h
  | .str s, v, h => h
  | .tup ds, v, h => by
    obtain ⟨p, xs, h1, h2, h3⟩ := h
    refine ⟨p, xs, h1, ?_, Reps.mono e ds xs h3⟩
    rcases h2 with (h2 | ⟨o, h2⟩) | h2
    · exact .inl (.inl (e _ _ h2))
    · exact .inl (.inr ⟨o, e _ _ h2⟩)
    · exact .inr h2
  | .lst ds, v, h => by
    obtain ⟨p, xs, h1, h2, h3⟩ := h
    exact ⟨p, xs, h1, e _ _ h2, Reps.mono e ds xs h3⟩
  | .obj c ns ds, v, h => by
    obtain ⟨p, dx, xs, h1, h2, h4, h3⟩ := h
    exact ⟨p, dx, xs, h1, e _ _ h2, h4, Reps.mono e ds xs h3⟩
  | .exc c ns ds, v, h => by
    obtain ⟨p, dd, h1, h2, h3⟩ := h
    refine ⟨p, dd, h1, e _ _ h2, ?_⟩
    rcases h3 with h3 | ⟨d, xs, h4, h5, h6, h7⟩
    · exact .inl h3
    · exact .inr ⟨d, xs, h4, e _ _ h5, h6, Reps.mono e ds xs h7⟩
  | .loc n, v, h => h
  | .scr l, v, h => by
    obtain ⟨p, h1, h2⟩ := h
    exact ⟨p, h1, e.seq h2⟩
theorem Reps.mono {G : Gx} {B B' : Hp} {ρ : List Addr} (e : Same B B') : ∀ (ds : List D) (xs : List V), Reps G B ρ ds xs → Reps G B' ρ ds xs
  | [], xs, h => h
  | d :: ds, xs, h => by
    obtain ⟨x, r, h1, h2, h3⟩ := h
    exact ⟨x, r, h1, Rep.mono e d x h2, Reps.mono e ds r h3⟩
end

section
variable {G : Gx} {B B' H H' : Hp} {ρ R : List Addr}
theorem Reps.nil : Reps G B ρ [] [] := rfl
theorem Reps.cons {d : D} {x : V} {ds : List D} {xs : List V} (h : Rep G B ρ d x) (t : Reps G B ρ ds xs) : Reps G B ρ (d :: ds) (x :: xs) := ⟨x, xs, rfl, h, t⟩
theorem Reps.len : ∀ {ds : List D} {xs : List V}, Reps G B ρ ds xs → ds.length = xs.length
  | [], xs, h => by
    have e : xs = [] := h
    rw [e] <;> rfl
  | d :: ds, xs, h => by
    obtain ⟨x, r, rfl, h2, h3⟩ := h
    rw [List.length_cons, List.length_cons, Reps.len h3]
theorem Reps.get : ∀ {ds : List D} {xs : List V} {i : Nat} {d : D}, Reps G B ρ ds xs → ds[i]? = some d → ∃ x, xs[i]? = some x ∧ Rep G B ρ d x
  | [], xs, i, d, h, e => by simp at e
  | d0 :: ds, xs, i, d, h, e => by
    obtain ⟨x, r, rfl, h2, h3⟩ := h
    cases i with
    | zero =>
      have e' : d0 = d := Option.some.inj (by simpa using e)
      subst e'
      exact ⟨x, rfl, h2⟩
    | succ i =>
      obtain ⟨y, h4, h5⟩ := Reps.get (i := i) h3 (by simpa using e)
      exact ⟨y, by simpa using h4, h5⟩
theorem Reps.at : ∀ {ds : List D} {xs : List V} {i : Nat} {x : V}, Reps G B ρ ds xs → xs[i]? = some x → ∃ d, ds[i]? = some d ∧ Rep G B ρ d x
  | [], xs, i, x, h, e => by
    have e' : xs = [] := h
    subst e'
    simp at e
  | d0 :: ds, xs, i, x, h, e => by
    obtain ⟨y, r, rfl, h2, h3⟩ := h
    cases i with
    | zero =>
      have e' : y = x := Option.some.inj (by simpa using e)
      subst e'
      exact ⟨d0, rfl, h2⟩
    | succ i =>
      obtain ⟨z, h4, h5⟩ := Reps.at (i := i) h3 (by simpa using e)
      exact ⟨z, by simpa using h4, h5⟩
theorem Reps.append : ∀ {ds es : List D} {xs ys : List V}, Reps G B ρ ds xs → Reps G B ρ es ys → Reps G B ρ (ds ++ es) (xs ++ ys)
  | [], es, xs, ys, h, k => by
    have e : xs = [] := h
    subst e
    exact k
  | d :: ds, es, xs, ys, h, k => by
    obtain ⟨x, r, rfl, h2, h3⟩ := h
    exact ⟨x, r ++ ys, rfl, h2, Reps.append h3 k⟩
theorem Reps.take : ∀ {ds : List D} {xs : List V} (n : Nat), Reps G B ρ ds xs → Reps G B ρ (ds.take n) (xs.take n)
  | [], xs, n, h => by
    have e : xs = [] := h
    subst e
    cases n <;> exact rfl
  | d :: ds, xs, 0, h => rfl
  | d :: ds, xs, n + 1, h => by
    obtain ⟨x, r, rfl, h2, h3⟩ := h
    exact ⟨x, r.take n, rfl, h2, Reps.take n h3⟩
theorem Reps.drop : ∀ {ds : List D} {xs : List V} (n : Nat), Reps G B ρ ds xs → Reps G B ρ (ds.drop n) (xs.drop n)
  | [], xs, n, h => by
    have e : xs = [] := h
    subst e
    cases n <;> exact rfl
  | d :: ds, xs, 0, h => h
  | d :: ds, xs, n + 1, h => by
    obtain ⟨x, r, rfl, h2, h3⟩ := h
    exact Reps.drop n h3
theorem Reps.reverse : ∀ {ds : List D} {xs : List V}, Reps G B ρ ds xs → Reps G B ρ ds.reverse xs.reverse
  | [], xs, h => by
    have e : xs = [] := h
    subst e
    exact rfl
  | d :: ds, xs, h => by
    obtain ⟨x, r, rfl, h2, h3⟩ := h
    rw [List.reverse_cons, List.reverse_cons]
    exact Reps.append (Reps.reverse h3) (Reps.cons h2 Reps.nil)
theorem Reps.set : ∀ {ds : List D} {xs : List V} {d : D} {x : V} (n : Nat), Reps G B ρ ds xs → Rep G B ρ d x → Reps G B ρ (ds.set n d) (xs.set n x)
  | [], xs, d, x, n, h, k => by
    have e : xs = [] := h
    subst e
    exact rfl
  | d0 :: ds, xs, d, x, 0, h, k => by
    obtain ⟨y, r, rfl, h2, h3⟩ := h
    exact ⟨x, r, rfl, k, h3⟩
  | d0 :: ds, xs, d, x, n + 1, h, k => by
    obtain ⟨y, r, rfl, h2, h3⟩ := h
    exact ⟨y, r.set n x, rfl, h2, Reps.set n h3 k⟩
/-- data told by lists of ints, texts, truth values -/
theorem Reps.ints : ∀ {ns : List Int} {xs : List V}, Reps G B ρ (ns.map D.int) xs ↔ xs = ns.map V.int
  | [], xs => Iff.rfl
  | n :: ns, xs => by
    constructor
    · rintro ⟨x, r, rfl, h2, h3⟩
      rw [Reps.ints.mp h3]
      have e : x = V.int n := h2
      rw [e] <;> rfl
    · rintro rfl
      exact ⟨V.int n, _, rfl, rfl, Reps.ints.mpr rfl⟩
theorem Reps.strs : ∀ {ns : List Str} {xs : List V}, Reps G B ρ (ns.map D.str) xs ↔ xs = ns.map V.str
  | [], xs => Iff.rfl
  | n :: ns, xs => by
    constructor
    · rintro ⟨x, r, rfl, h2, h3⟩
      rw [Reps.strs.mp h3]
      have e : x = V.str n := h2
      rw [e] <;> rfl
    · rintro rfl
      exact ⟨V.str n, _, rfl, rfl, Reps.strs.mpr rfl⟩
theorem Reps.bls : ∀ {ns : List Bool} {xs : List V}, Reps G B ρ (ns.map D.bl) xs ↔ xs = ns.map V.bl
  | [], xs => Iff.rfl
  | n :: ns, xs => by
    constructor
    · rintro ⟨x, r, rfl, h2, h3⟩
      rw [Reps.bls.mp h3]
      have e : x = V.bl n := h2
      rw [e] <;> rfl
    · rintro rfl
      exact ⟨V.bl n, _, rfl, rfl, Reps.bls.mpr rfl⟩
end

/-! ## what is a frame's own -/
mutual
def freeze : M → D
  | .val d => d
  | .lst ms => .lst (freezes ms)
  | .tup ms => .tup (freezes ms)
  | .obj c ns ms => .obj c ns (freezes ms)
def freezes : List M → List D
  | [] => []
  | m :: ms => freeze m :: freezes ms
end
theorem freezes_map : ∀ ms : List M, freezes ms = ms.map freeze
  | [] => rfl
  | m :: ms => by
    show freeze m :: freezes ms = _
    rw [freezes_map ms] <;> rfl
theorem freezes_val : ∀ ds : List D, freezes (ds.map M.val) = ds
  | [] => rfl
  | d :: ds => by
    show d :: freezes (ds.map M.val) = _
    rw [freezes_val ds]

mutual
def Own (G : Gx) (B H : Hp) (ρ : List Addr) : M → V → List Addr → Prop
  | .val d, v, F => F = [] ∧ Rep G B ρ d v
  | .lst ms, v, F => ∃ p xs F', v = .ref p ∧ H p = some (.lst xs) ∧ F = p :: F' ∧ Owns G B H ρ ms xs F'
  | .tup ms, v, F => ∃ p xs F', v = .ref p ∧ H p = some (.tup xs) ∧ F = p :: F' ∧ Owns G B H ρ ms xs F'
  | .obj c ns ms, v, F => ∃ p dx xs F', v = .ref p ∧ H p = some (.ins (G.T c) dx (ns.zip xs)) ∧ H dx = some (.own p) ∧ ns.length = xs.length ∧ F = p :: dx :: F' ∧ Owns G B H ρ ms xs F'
def Owns (G : Gx) (B H : Hp) (ρ : List Addr) : List M → List V → List Addr → Prop
  | [], xs, F => xs = [] ∧ F = []
  | m :: ms, xs, F => ∃ x r F1 F2, xs = x :: r ∧ F = F1 ++ F2 ∧ Own G B H ρ m x F1 ∧ Owns G B H ρ ms r F2
end

mutual
theorem Own.mono {G : Gx} {B B' H H' : Hp} {ρ : List Addr} (e : Same B B') : ∀ (m : M) (v : V) (F : List Addr), (∀ p ∈ F, H' p = H p) → Own G B H ρ m v F → Own G B' H' ρ m v F
  | .val d, v, F, k, h => ⟨h.1, Rep.mono e d v h.2⟩
  | .lst ms, v, F, k, h => by
    obtain ⟨p, xs, F', h1, h2, rfl, h4⟩ := h
    exact ⟨p, xs, F', h1, (k p List.mem_cons_self).trans h2, rfl, Owns.mono e ms xs F' (fun q hq => k q (List.mem_cons_of_mem _ hq)) h4⟩
  | .tup ms, v, F, k, h => by
    obtain ⟨p, xs, F', h1, h2, rfl, h4⟩ := h
    exact ⟨p, xs, F', h1, (k p List.mem_cons_self).trans h2, rfl, Owns.mono e ms xs F' (fun q hq => k q (List.mem_cons_of_mem _ hq)) h4⟩
  | .obj c ns ms, v, F, k, h => by
    obtain ⟨p, dx, xs, F', h1, h2, h3, hl, rfl, h4⟩ := h
    exact ⟨p, dx, xs, F', h1, (k p List.mem_cons_self).trans h2, (k dx (List.mem_cons_of_mem _ List.mem_cons_self)).trans h3, hl, rfl, Owns.mono e ms xs F' (fun q hq => k q (List.mem_cons_of_mem _ (List.mem_cons_of_mem _ hq))) h4⟩
theorem Owns.mono {G : Gx} {B B' H H' : Hp} {ρ : List Addr} (e : Same B B') : ∀ (ms : List M) (xs : List V) (F : List Addr), (∀ p ∈ F, H' p = H p) → Owns G B H ρ ms xs F → Owns G B' H' ρ ms xs F
  | [], xs, F, k, h => h
  | m :: ms, xs, F, k, h => by
    obtain ⟨x, r, F1, F2, h1, rfl, h3, h4⟩ := h
    exact ⟨x, r, F1, F2, h1, rfl, Own.mono e m x F1 (fun q hq => k q (List.mem_append_left _ hq)) h3, Owns.mono e ms r F2 (fun q hq => k q (List.mem_append_right _ hq)) h4⟩
end
mutual
/-- what is owned, given to the ground -/
theorem Own.froze {G : Gx} {B B1 H : Hp} {ρ : List Addr} (e : Same B B1) : ∀ (m : M) (v : V) (F : List Addr), (∀ p ∈ F, B1 p = H p) → Own G B H ρ m v F → Rep G B1 ρ (freeze m) v
  | .val d, v, F, k, h => Rep.mono e d v h.2
  | .lst ms, v, F, k, h => by
    obtain ⟨p, xs, F', h1, h2, rfl, h4⟩ := h
    exact ⟨p, xs, h1, (k p List.mem_cons_self).trans h2, Owns.froze e ms xs F' (fun q hq => k q (List.mem_cons_of_mem _ hq)) h4⟩
  | .tup ms, v, F, k, h => by
    obtain ⟨p, xs, F', h1, h2, rfl, h4⟩ := h
    exact ⟨p, xs, h1, SqT.of ((k p List.mem_cons_self).trans h2), Owns.froze e ms xs F' (fun q hq => k q (List.mem_cons_of_mem _ hq)) h4⟩
  | .obj c ns ms, v, F, k, h => by
    obtain ⟨p, dx, xs, F', h1, h2, h3, hl, rfl, h4⟩ := h
    exact ⟨p, dx, xs, h1, (k p List.mem_cons_self).trans h2, hl, Owns.froze e ms xs F' (fun q hq => k q (List.mem_cons_of_mem _ (List.mem_cons_of_mem _ hq))) h4⟩
theorem Owns.froze {G : Gx} {B B1 H : Hp} {ρ : List Addr} (e : Same B B1) : ∀ (ms : List M) (xs : List V) (F : List Addr), (∀ p ∈ F, B1 p = H p) → Owns G B H ρ ms xs F → Reps G B1 ρ (freezes ms) xs
  | [], xs, F, k, h => h.1
  | m :: ms, xs, F, k, h => by
    obtain ⟨x, r, F1, F2, h1, rfl, h3, h4⟩ := h
    exact ⟨x, r, h1, Own.froze e m x F1 (fun q hq => k q (List.mem_append_left _ hq)) h3, Owns.froze e ms r F2 (fun q hq => k q (List.mem_append_right _ hq)) h4⟩
end
mutual
/-- what is owned stands -/
theorem Own.there {G : Gx} {B H : Hp} {ρ : List Addr} : ∀ (m : M) (v : V) (F : List Addr), Own G B H ρ m v F → ∀ p ∈ F, (H p).isSome = true
  | .val d, v, F, h, p, hp => by
    rw [h.1] at hp
    cases hp
  | .lst ms, v, F, h, p, hp => by
    obtain ⟨q, xs, F', h1, h2, rfl, h4⟩ := h
    rcases List.mem_cons.mp hp with rfl | hp
    · rw [h2] <;> rfl
    · exact Owns.there ms xs F' h4 p hp
  | .tup ms, v, F, h, p, hp => by
    obtain ⟨q, xs, F', h1, h2, rfl, h4⟩ := h
    rcases List.mem_cons.mp hp with rfl | hp
    · rw [h2] <;> rfl
    · exact Owns.there ms xs F' h4 p hp
  | .obj c ns ms, v, F, h, p, hp => by
    obtain ⟨q, dx, xs, F', h1, h2, h3, hl, rfl, h4⟩ := h
    rcases List.mem_cons.mp hp with rfl | hp
    · rw [h2] <;> rfl
    · rcases List.mem_cons.mp hp with rfl | hp
      · rw [h3] <;> rfl
      · exact Owns.there ms xs F' h4 p hp
theorem Owns.there {G : Gx} {B H : Hp} {ρ : List Addr} : ∀ (ms : List M) (xs : List V) (F : List Addr), Owns G B H ρ ms xs F → ∀ p ∈ F, (H p).isSome = true
  | [], xs, F, h, p, hp => by
    rw [h.2] at hp
    cases hp
  | m :: ms, xs, F, h, p, hp => by
    obtain ⟨x, r, F1, F2, h1, rfl, h3, h4⟩ := h
    rcases List.mem_append.mp hp with hp | hp
    · exact Own.there m x F1 h3 p hp
    · exact Owns.there ms r F2 h4 p hp
end
theorem Owns.vals {G : Gx} {B H : Hp} {ρ : List Addr} : ∀ {ds : List D} {xs : List V}, Reps G B ρ ds xs → Owns G B H ρ (ds.map M.val) xs []
  | [], xs, h => ⟨h, rfl⟩
  | d :: ds, xs, h => by
    obtain ⟨x, r, h1, h2, h3⟩ := h
    exact ⟨x, r, [], [], h1, rfl, ⟨rfl, h2⟩, Owns.vals h3⟩
theorem Owns.append {G : Gx} {B H : Hp} {ρ : List Addr} : ∀ {ms ns : List M} {xs ys : List V} {F F' : List Addr}, Owns G B H ρ ms xs F → Owns G B H ρ ns ys F' → Owns G B H ρ (ms ++ ns) (xs ++ ys) (F ++ F')
  | [], ns, xs, ys, F, F', h, k => by
    obtain ⟨rfl, rfl⟩ := h
    exact k
  | m :: ms, ns, xs, ys, F, F', h, k => by
    obtain ⟨x, r, F1, F2, rfl, rfl, h3, h4⟩ := h
    exact ⟨x, r ++ ys, F1, F2 ++ F', rfl, by rw [List.append_assoc], h3, Owns.append h4 k⟩
theorem Owns.len {G : Gx} {B H : Hp} {ρ : List Addr} : ∀ {ms : List M} {xs : List V} {F : List Addr}, Owns G B H ρ ms xs F → ms.length = xs.length
  | [], xs, F, h => by
    obtain ⟨rfl, _⟩ := h
    rfl
  | m :: ms, xs, F, h => by
    obtain ⟨x, r, F1, F2, rfl, rfl, h3, h4⟩ := h
    rw [List.length_cons, List.length_cons, Owns.len h4]

/-! ## a longer row of shared places -/
mutual
theorem Rep.ext {G : Gx} {B : Hp} {ρ : List Addr} (e : List Addr) : ∀ (d : D) (v : V), Rep G B ρ d v → Rep G B (ρ ++ e) d v
  | .non, v, h => h
  | .bl b, v, h => h
  | .int i, v, h => h
  | .str s, v, h => h
  | .tup ds, v, h => by
    obtain ⟨p, xs, h1, h2, h3⟩ := h
    exact ⟨p, xs, h1, h2, Reps.ext e ds xs h3⟩
  | .lst ds, v, h => by
    obtain ⟨p, xs, h1, h2, h3⟩ := h
    exact ⟨p, xs, h1, h2, Reps.ext e ds xs h3⟩
  | .obj c ns ds, v, h => by
    obtain ⟨p, dx, xs, h1, h2, h4, h3⟩ := h
    exact ⟨p, dx, xs, h1, h2, h4, Reps.ext e ds xs h3⟩
  | .exc c ns ds, v, h => by
    obtain ⟨p, dd, h1, h2, h3⟩ := h
    refine ⟨p, dd, h1, h2, ?_⟩
    rcases h3 with h3 | ⟨d, xs, h4, h5, h6, h7⟩
    · exact .inl h3
    · exact .inr ⟨d, xs, h4, h5, h6, Reps.ext e ds xs h7⟩
  | .loc n, v, h => by
    obtain ⟨p, h1, h2⟩ := h
    have hn : n < ρ.length := (List.getElem?_eq_some_iff.mp h1).1
    exact ⟨p, by rw [List.getElem?_append_left hn]; exact h1, h2⟩
  | .scr l, v, h => h
theorem Reps.ext {G : Gx} {B : Hp} {ρ : List Addr} (e : List Addr) : ∀ (ds : List D) (xs : List V), Reps G B ρ ds xs → Reps G B (ρ ++ e) ds xs
  | [], xs, h => h
  | d :: ds, xs, h => by
    obtain ⟨x, r, h1, h2, h3⟩ := h
    exact ⟨x, r, h1, Rep.ext e d x h2, Reps.ext e ds r h3⟩
end
mutual
/-- the datum does not name the place n -/
def noLoc (n : Nat) : D → Bool
  | .tup l => noLocs n l
  | .lst l => noLocs n l
  | .obj _ _ l => noLocs n l
  | .exc _ _ l => noLocs n l
  | .loc m => decide (m ≠ n)
  | _ => true
def noLocs (n : Nat) : List D → Bool
  | [] => true
  | d :: ds => noLoc n d && noLocs n ds
end
mutual
theorem Rep.less {G : Gx} {B : Hp} {ρ : List Addr} {x : Addr} : ∀ (d : D) (v : V), noLoc ρ.length d = true → Rep G B (ρ ++ [x]) d v → Rep G B ρ d v
  | .non, v, c, h => h
  | .bl b, v, c, h => h
  | .int i, v, c, h => h
  | .str s, v, c, h => h
  | .tup ds, v, c, h => by
    obtain ⟨p, xs, h1, h2, h3⟩ := h
    exact ⟨p, xs, h1, h2, Reps.less ds xs c h3⟩
  | .lst ds, v, c, h => by
    obtain ⟨p, xs, h1, h2, h3⟩ := h
    exact ⟨p, xs, h1, h2, Reps.less ds xs c h3⟩
  | .obj _ ns ds, v, c, h => by
    obtain ⟨p, dx, xs, h1, h2, h4, h3⟩ := h
    exact ⟨p, dx, xs, h1, h2, h4, Reps.less ds xs c h3⟩
  | .exc _ ns ds, v, c, h => by
    obtain ⟨p, dd, h1, h2, h3⟩ := h
    refine ⟨p, dd, h1, h2, ?_⟩
    rcases h3 with h3 | ⟨d, xs, h4, h5, h6, h7⟩
    · exact .inl h3
    · exact .inr ⟨d, xs, h4, h5, h6, Reps.less ds xs c h7⟩
  | .loc n, v, c, h => by
    obtain ⟨p, h1, h2⟩ := h
    have hn : n < (ρ ++ [x]).length := (List.getElem?_eq_some_iff.mp h1).1
    rw [List.length_append, List.length_singleton] at hn
    have hc : n ≠ ρ.length := of_decide_eq_true c
    exact ⟨p, by rw [List.getElem?_append_left (by omega)] at h1; exact h1, h2⟩
  | .scr l, v, c, h => h
theorem Reps.less {G : Gx} {B : Hp} {ρ : List Addr} {x : Addr} : ∀ (ds : List D) (xs : List V), noLocs ρ.length ds = true → Reps G B (ρ ++ [x]) ds xs → Reps G B ρ ds xs
  | [], xs, c, h => h
  | d :: ds, xs, c, h => by
    obtain ⟨y, r, h1, h2, h3⟩ := h
    have c' : (noLoc ρ.length d && noLocs ρ.length ds) = true := c
    obtain ⟨c1, c2⟩ := Bool.and_eq_true_iff.mp c'
    exact ⟨y, r, h1, Rep.less d y c1 h2, Reps.less ds r c2 h3⟩
end

/-! ## the world -/
/-- a shared place: a list of ints that anyone may change (the draws' state), or an instance at work -/
inductive Cell where
  | nums (l : List Int)
  | obj (c : Nat) (ns : List Str) (ds : List D)
abbrev Sto := List Cell
def CellAt (G : Gx) (B H : Hp) (ρ R : List Addr) (p : Addr) : Cell → Prop
  | .nums l => H p = some (.lst (l.map V.int))
  | .obj c ns ds => ∃ dx xs, H p = some (.ins (G.T c) dx (ns.zip xs)) ∧ H dx = some (.own p) ∧ ns.length = xs.length ∧ Reps G B ρ ds xs ∧ dx ∉ ρ ++ R ∧ B dx = none
structure Wd (G : Gx) (B H : Hp) (ρ : List Addr) (a : Sto) (R : List Addr) : Prop where
  ex : Same B H
  len : ρ.length = a.length
  sto : ∀ (n : Nat) (p : Addr) (c : Cell), ρ[n]? = some p → a[n]? = some c → CellAt G B H ρ R p c
  nd : (ρ ++ R).Nodup
  bn : ∀ p ∈ ρ ++ R, B p = none
  has : ∀ p ∈ ρ ++ R, (H p).isSome = true
theorem Wd.ints {G : Gx} {B H : Hp} {ρ R : List Addr} {a : Sto} (w : Wd G B H ρ a R) {n : Nat} {p : Addr} {l : List Int} (h1 : ρ[n]? = some p) (h2 : a[n]? = some (.nums l)) : H p = some (.lst (l.map V.int)) := w.sto n p _ h1 h2
theorem CellAt.there {G : Gx} {B H : Hp} {ρ R : List Addr} {p : Addr} {c : Cell} (h : CellAt G B H ρ R p c) : ∃ o, H p = some o := by
  cases c with
  | nums l => exact ⟨_, h⟩
  | obj c ns ds =>
    obtain ⟨dx, xs, h1, _⟩ := h
    exact ⟨_, h1⟩
/-- a cell in a moved world -/
theorem CellAt.move {G : Gx} {B B' H H' : Hp} {ρ R R' : List Addr} {p : Addr} {c : Cell} (h : CellAt G B H ρ R p c) (e : Same B B') (k : H' p = H p)
    (m : ∀ dx, H dx = some (.own p) → B dx = none → dx ∉ ρ ++ R → H' dx = H dx ∧ B' dx = none ∧ dx ∉ ρ ++ R') : CellAt G B' H' ρ R' p c := by
  cases c with
  | nums l => exact k.trans h
  | obj c ns ds =>
    obtain ⟨dx, xs, h1, h2, h3, h4, h5, h6⟩ := h
    obtain ⟨m1, m2, m3⟩ := m dx h2 h6 h5
    exact ⟨dx, xs, k.trans h1, m1.trans h2, h3, Reps.mono e ds xs h4, m3, m2⟩
/-- what the callers own stays -/
def Kp (R : List Addr) (H H' : Hp) : Prop := ∀ p ∈ R, H' p = H p
theorem Kp.refl {R : List Addr} {H : Hp} : Kp R H H := fun _ _ => rfl
theorem Kp.trans {R : List Addr} {H H1 H2 : Hp} (a : Kp R H H1) (b : Kp R H1 H2) : Kp R H H2 := fun p hp => (b p hp).trans (a p hp)
theorem Kp.left {R F : List Addr} {H H' : Hp} (a : Kp (F ++ R) H H') : Kp F H H' := fun p hp => a p (List.mem_append_left _ hp)
theorem Kp.right {R F : List Addr} {H H' : Hp} (a : Kp (F ++ R) H H') : Kp R H H' := fun p hp => a p (List.mem_append_right _ hp)

section
variable {G : Gx} {B B' H H' : Hp} {ρ R F : List Addr} {a : Sto}
theorem same_new {H : Hp} {p : Addr} {o : HO} (h : H p = none) : Same H (upd H p o) := fun b x e => by
  rw [upd_ne (ne_of_none e h)]
  exact e
theorem Wd.noneB (w : Wd G B H ρ a R) {p : Addr} (hp : H p = none) : B p = none := w.ex.free hp
theorem Wd.ne (w : Wd G B H ρ a R) {p q : Addr} (hp : H p = none) (hq : q ∈ ρ ++ R) : q ≠ p := fun e => by
  have z := w.has q hq
  rw [e, hp] at z
  cases z
/-- a new object, known from now on -/
theorem Wd.new (w : Wd G B H ρ a R) {p : Addr} {o : HO} (hp : H p = none) : Wd G (upd B p o) (upd H p o) ρ a R where
  ex := fun b x e => by
    by_cases hb : b = p
    · subst hb
      rw [upd_same] at e ⊢
      exact e
    · rw [upd_ne hb] at e ⊢
      exact w.ex b x e
  len := w.len
  sto := fun n q c h1 h2 => by
    have h3 := w.sto n q c h1 h2
    obtain ⟨o', ho⟩ := h3.there
    refine h3.move (fun b x e => ?_) (upd_ne (ne_of_none ho hp)) fun dx g1 g2 g3 => ?_
    · have hb : b ≠ p := fun z => by
        rw [z, w.ex.free hp] at e
        cases e
      rw [upd_ne hb]
      exact e
    · have hd : dx ≠ p := ne_of_none g1 hp
      exact ⟨upd_ne hd, by rw [upd_ne hd]; exact g2, g3⟩
  nd := w.nd
  bn := fun q hq => by
    rw [upd_ne (w.ne hp hq)]
    exact w.bn q hq
  has := fun q hq => by
    rw [upd_ne (w.ne hp hq)]
    exact w.has q hq
/-- a new object, owned -/
theorem Wd.newOwn (w : Wd G B H ρ a R) {p : Addr} {o : HO} (hp : H p = none) : Wd G B (upd H p o) ρ a (p :: R) where
  ex := fun b x e => by
    rw [upd_ne (ne_of_none (w.ex b x e) hp)]
    exact w.ex b x e
  len := w.len
  sto := fun n q c h1 h2 => by
    have h3 := w.sto n q c h1 h2
    obtain ⟨o', ho⟩ := h3.there
    refine h3.move (Same.refl _) (upd_ne (ne_of_none ho hp)) fun dx g1 g2 g3 => ?_
    have hd : dx ≠ p := ne_of_none g1 hp
    refine ⟨upd_ne hd, g2, fun z => ?_⟩
    rcases List.mem_append.mp z with z | z
    · exact g3 (List.mem_append_left _ z)
    · rcases List.mem_cons.mp z with z | z
      · exact hd z
      · exact g3 (List.mem_append_right _ z)
  nd := by
    have h := w.nd
    have hp' : p ∉ ρ ++ R := fun z => w.ne hp z rfl
    have e : List.Perm (ρ ++ p :: R) (p :: (ρ ++ R)) := List.perm_middle
    exact e.nodup_iff.mpr (List.nodup_cons.mpr ⟨hp', h⟩)
  bn := fun q hq => by
    rcases List.mem_append.mp hq with h | h
    · exact w.bn q (List.mem_append_left _ h)
    · rcases List.mem_cons.mp h with rfl | h
      · exact w.noneB hp
      · exact w.bn q (List.mem_append_right _ h)
  has := fun q hq => by
    by_cases e : q = p
    · rw [e, upd_same] <;> rfl
    · rw [upd_ne e]
      rcases List.mem_append.mp hq with h | h
      · exact w.has q (List.mem_append_left _ h)
      · rcases List.mem_cons.mp h with h | h
        · exact absurd h e
        · exact w.has q (List.mem_append_right _ h)
theorem kp_new {p : Addr} {o : HO} (w : Wd G B H ρ a R) (hp : H p = none) : Kp R H (upd H p o) := fun q hq => by rw [upd_ne (w.ne hp (List.mem_append_right _ hq))]
/-- the ground with what stands at F -/
def ov (B H : Hp) (F : List Addr) : Hp := fun p => if p ∈ F then H p else B p
theorem ov_in {p : Addr} (h : p ∈ F) : ov B H F p = H p := by
  unfold ov
  rw [if_pos h]
theorem ov_out {p : Addr} (h : p ∉ F) : ov B H F p = B p := by
  unfold ov
  rw [if_neg h]
theorem ov_same (h : ∀ p ∈ F, B p = none) : Same B (ov B H F) := fun p o e => by
  rw [ov_out (fun z => by rw [h p z] at e; cases e)]
  exact e
/-- what is owned at F is given to the ground -/
theorem Wd.absorb (w : Wd G B H ρ a (F ++ R)) : Wd G (ov B H F) H ρ a R := by
  have hF : ∀ p ∈ F, B p = none := fun p hp => w.bn p (List.mem_append_right _ (List.mem_append_left _ hp))
  have nd := w.nd
  have out : ∀ p ∈ ρ ++ R, p ∉ F := fun p hp hq => by
    have h1 : List.Perm (ρ ++ (F ++ R)) (F ++ (ρ ++ R)) := by
      rw [← List.append_assoc, ← List.append_assoc]
      exact List.Perm.append_right R List.perm_append_comm
    have h2 := h1.nodup_iff.mp nd
    exact (List.nodup_append.mp h2).2.2 p hq p hp rfl
  have sub : ∀ p ∈ ρ ++ R, p ∈ ρ ++ (F ++ R) := fun p hp => by
    rcases List.mem_append.mp hp with h | h
    · exact List.mem_append_left _ h
    · exact List.mem_append_right _ (List.mem_append_right _ h)
  refine ⟨fun p o e => ?_, w.len, fun n q c h1 h2 => (w.sto n q c h1 h2).move (ov_same hF) rfl fun dx g1 g2 g3 => ⟨rfl, ?_, fun z => g3 (sub dx z)⟩, ?_, fun p hp => ?_, fun p hp => ?_⟩
  · by_cases hp : p ∈ F
    · rw [ov_in hp] at e
      exact e
    · rw [ov_out hp] at e
      exact w.ex p o e
  · rw [ov_out (fun z => g3 (List.mem_append_right _ (List.mem_append_left _ z)))]
    exact g2
  · have h1 : List.Sublist (ρ ++ R) (ρ ++ (F ++ R)) := List.Sublist.append_left (List.sublist_append_right F R) ρ
    exact nd.sublist h1
  · rw [ov_out (out p hp)]
    exact w.bn p (by
      rcases List.mem_append.mp hp with h | h
      · exact List.mem_append_left _ h
      · exact List.mem_append_right _ (List.mem_append_right _ h))
  · exact w.has p (by
      rcases List.mem_append.mp hp with h | h
      · exact List.mem_append_left _ h
      · exact List.mem_append_right _ (List.mem_append_right _ h))
theorem Wd.sameOv (w : Wd G B H ρ a (F ++ R)) : Same B (ov B H F) := ov_same fun p hp => w.bn p (List.mem_append_right _ (List.mem_append_left _ hp))
/-- what is owned at F is forgotten -/
theorem Wd.drop (w : Wd G B H ρ a (F ++ R)) : Wd G B H ρ a R where
  ex := w.ex
  len := w.len
  sto := fun n q c h1 h2 => (w.sto n q c h1 h2).move (Same.refl _) rfl fun dx g1 g2 g3 => ⟨rfl, g2, fun z => g3 (by
    rcases List.mem_append.mp z with h | h
    · exact List.mem_append_left _ h
    · exact List.mem_append_right _ (List.mem_append_right _ h))⟩
  nd := w.nd.sublist (List.Sublist.append_left (List.sublist_append_right F R) ρ)
  bn := fun p hp => w.bn p (by
    rcases List.mem_append.mp hp with h | h
    · exact List.mem_append_left _ h
    · exact List.mem_append_right _ (List.mem_append_right _ h))
  has := fun p hp => w.has p (by
    rcases List.mem_append.mp hp with h | h
    · exact List.mem_append_left _ h
    · exact List.mem_append_right _ (List.mem_append_right _ h))
theorem Wd.perm (w : Wd G B H ρ a R) {R' : List Addr} (h : List.Perm R R') : Wd G B H ρ a R' where
  ex := w.ex
  len := w.len
  sto := fun n q c h1 h2 => (w.sto n q c h1 h2).move (Same.refl _) rfl fun dx g1 g2 g3 => ⟨rfl, g2, fun z => g3 ((List.Perm.append_left ρ h).mem_iff.mpr z)⟩
  nd := (List.Perm.append_left ρ h).nodup_iff.mp w.nd
  bn := fun p hp => w.bn p ((List.Perm.append_left ρ h).mem_iff.mpr hp)
  has := fun p hp => w.has p ((List.Perm.append_left ρ h).mem_iff.mpr hp)
theorem Wd.nofr (w : Wd G B H ρ a (F ++ R)) : ∀ p ∈ F, B p = none := fun p hp => w.bn p (List.mem_append_right _ (List.mem_append_left _ hp))
end
end DL

namespace DL
open PySem L2

/-! ## outcomes -/
inductive Out (β : Type) where
  | ok (b : β) (a : Sto)
  | exc (c : Nat) (ns : List Str) (ds : List D) (a : Sto)
  | stuck
def Out.bind {β γ : Type} (o : Out β) (f : β → Sto → Out γ) : Out γ := match o with
  | .ok b a => f b a
  | .exc c ns ds a => .exc c ns ds a
  | .stuck => .stuck
def Out.map {β γ : Type} (g : β → γ) (o : Out β) : Out γ := o.bind fun b a => .ok (g b) a
def Out.opt {β γ : Type} (g : β → Option γ) (o : Out β) : Out γ := o.bind fun b a => match g b with | some r => .ok r a | none => .stuck
/-- where no exception may leave -/
def Out.calm {β : Type} : Out β → Out β
  | .ok b a => .ok b a
  | _ => .stuck
@[simp] theorem bind_ok {β γ : Type} (b : β) (a : Sto) (f : β → Sto → Out γ) : (Out.ok b a).bind f = f b a := rfl
@[simp] theorem bind_exc {β γ : Type} (c : Nat) (ns : List Str) (ds : List D) (a : Sto) (f : β → Sto → Out γ) : (Out.exc c ns ds a : Out β).bind f = .exc c ns ds a := rfl
@[simp] theorem bind_stuck {β γ : Type} (f : β → Sto → Out γ) : (Out.stuck : Out β).bind f = .stuck := rfl
@[simp] theorem map_ok {β γ : Type} (b : β) (a : Sto) (g : β → γ) : (Out.ok b a).map g = .ok (g b) a := rfl
@[simp] theorem map_exc {β γ : Type} (c : Nat) (ns : List Str) (ds : List D) (a : Sto) (g : β → γ) : (Out.exc c ns ds a : Out β).map g = .exc c ns ds a := rfl
@[simp] theorem map_stuck {β γ : Type} (g : β → γ) : (Out.stuck : Out β).map g = .stuck := rfl
@[simp] theorem calm_ok {β : Type} (b : β) (a : Sto) : (Out.ok b a).calm = .ok b a := rfl
@[simp] theorem opt_exc {β γ : Type} (c : Nat) (ns : List Str) (ds : List D) (a : Sto) (g : β → Option γ) : (Out.exc c ns ds a : Out β).opt g = .exc c ns ds a := rfl
theorem opt_ok {β γ : Type} (b : β) (a : Sto) (g : β → Option γ) : (Out.ok b a).opt g = match g b with | some r => .ok r a | none => .stuck := rfl

/-- the dict of an exception -/
def XdO (G : Gx) (B : Hp) (ρ : List Addr) (ns : List Str) (ds : List D) (dd : Option Addr) : Prop :=
  (ns = [] ∧ ds = [] ∧ dd = none) ∨ ∃ d xs, dd = some d ∧ B d = some (.xd (ns.zip xs)) ∧ ns.length = xs.length ∧ Reps G B ρ ds xs

def Fin {β : Type} (G : Gx) (W : WX) (ρ R : List Addr) (B H : Hp) (σ : St) (o : Out β) (k : β → Sto → Hp → Hp → Prop) : Prop := match o with
  | .ok b a => ∀ B' H', Wd G B' H' ρ a R → Same B B' → Kp R H H' → k b a B' H'
  | .exc c ns ds a => ∀ B' H' dd, Wd G B' H' ρ a R → Same B B' → Kp R H H' → XdO G B' ρ ns ds dd → W (.ref (G.T c)) dd σ H'
  | .stuck => False
def FinM (G : Gx) (W : WX) (ρ R : List Addr) (B H : Hp) (σ : St) (o : Out M) (k : M → Sto → Hp → Hp → V → List Addr → Prop) : Prop := match o with
  | .ok m a => ∀ B' H' v F, Wd G B' H' ρ a (F ++ R) → Same B B' → Kp R H H' → Own G B' H' ρ m v F → k m a B' H' v F
  | .exc c ns ds a => ∀ B' H' dd, Wd G B' H' ρ a R → Same B B' → Kp R H H' → XdO G B' ρ ns ds dd → W (.ref (G.T c)) dd σ H'
  | .stuck => False
def FinL (G : Gx) (W : WX) (ρ R : List Addr) (B H : Hp) (σ : St) (o : Out (List M)) (k : List M → Sto → Hp → Hp → List V → List Addr → Prop) : Prop := match o with
  | .ok m a => ∀ B' H' v F, Wd G B' H' ρ a (F ++ R) → Same B B' → Kp R H H' → Owns G B' H' ρ m v F → k m a B' H' v F
  | .exc c ns ds a => ∀ B' H' dd, Wd G B' H' ρ a R → Same B B' → Kp R H H' → XdO G B' ρ ns ds dd → W (.ref (G.T c)) dd σ H'
  | .stuck => False

section
variable {β γ : Type} {G : Gx} {W : WX} {ρ R : List Addr} {B B1 H H1 : Hp} {σ : St}
theorem Fin.base {o : Out β} {k : β → Sto → Hp → Hp → Prop} (h : Fin G W ρ R B H σ o k) (s : Same B B1) (kp : Kp R H H1) : Fin G W ρ R B1 H1 σ o k := by
  cases o with
  | ok b a => exact fun B' H' w s' k' => h B' H' w (s.trans s') (kp.trans k')
  | exc c ns ds a => exact fun B' H' dd w s' k' x => h B' H' dd w (s.trans s') (kp.trans k') x
  | stuck => exact h
theorem FinM.base {o : Out M} {k : M → Sto → Hp → Hp → V → List Addr → Prop} (h : FinM G W ρ R B H σ o k) (s : Same B B1) (kp : Kp R H H1) : FinM G W ρ R B1 H1 σ o k := by
  cases o with
  | ok b a => exact fun B' H' v F w s' k' => h B' H' v F w (s.trans s') (kp.trans k')
  | exc c ns ds a => exact fun B' H' dd w s' k' x => h B' H' dd w (s.trans s') (kp.trans k') x
  | stuck => exact h
theorem FinL.base {o : Out (List M)} {k : List M → Sto → Hp → Hp → List V → List Addr → Prop} (h : FinL G W ρ R B H σ o k) (s : Same B B1) (kp : Kp R H H1) : FinL G W ρ R B1 H1 σ o k := by
  cases o with
  | ok b a => exact fun B' H' v F w s' k' => h B' H' v F w (s.trans s') (kp.trans k')
  | exc c ns ds a => exact fun B' H' dd w s' k' x => h B' H' dd w (s.trans s') (kp.trans k') x
  | stuck => exact h
theorem Fin.imp {o : Out β} {k k' : β → Sto → Hp → Hp → Prop} (h : Fin G W ρ R B H σ o k) (i : ∀ b a B' H', Wd G B' H' ρ a R → Same B B' → Kp R H H' → k b a B' H' → k' b a B' H') : Fin G W ρ R B H σ o k' := by
  cases o with
  | ok b a => exact fun B' H' w s kp => i b a B' H' w s kp (h B' H' w s kp)
  | exc c ns ds a => exact h
  | stuck => exact h
/-- one, then another -/
theorem Fin.seq {o : Out β} {f : β → Sto → Out γ} {k : γ → Sto → Hp → Hp → Prop} (h : Fin G W ρ R B H σ (o.bind f) k) : Fin G W ρ R B H σ o (fun b a B' H' => Fin G W ρ R B' H' σ (f b a) k) := by
  cases o with
  | ok b a => exact fun B' H' w s kp => Fin.base (show Fin G W ρ R B H σ (f b a) k from h) s kp
  | exc c ns ds a => exact h
  | stuck => exact h
theorem Fin.seqM {o : Out β} {f : β → Sto → Out M} {k : M → Sto → Hp → Hp → V → List Addr → Prop} (h : FinM G W ρ R B H σ (o.bind f) k) : Fin G W ρ R B H σ o (fun b a B' H' => FinM G W ρ R B' H' σ (f b a) k) := by
  cases o with
  | ok b a => exact fun B' H' w s kp => FinM.base (show FinM G W ρ R B H σ (f b a) k from h) s kp
  | exc c ns ds a => exact h
  | stuck => exact h
theorem Fin.seqL {o : Out β} {f : β → Sto → Out (List M)} {k : List M → Sto → Hp → Hp → List V → List Addr → Prop} (h : FinL G W ρ R B H σ (o.bind f) k) : Fin G W ρ R B H σ o (fun b a B' H' => FinL G W ρ R B' H' σ (f b a) k) := by
  cases o with
  | ok b a => exact fun B' H' w s kp => FinL.base (show FinL G W ρ R B H σ (f b a) k from h) s kp
  | exc c ns ds a => exact h
  | stuck => exact h
theorem Fin.seqo {o : Out β} {g : β → Option γ} {k : γ → Sto → Hp → Hp → Prop} (h : Fin G W ρ R B H σ (o.opt g) k) : Fin G W ρ R B H σ o (fun b a B' H' => ∃ r, g b = some r ∧ k r a B' H') := by
  refine Fin.imp (Fin.seq h) fun b a B' H' w s kp q => ?_
  cases e : g b with
  | none =>
    rw [e] at q
    exact q.elim
  | some r =>
    rw [e] at q
    exact ⟨r, rfl, q B' H' w (Same.refl _) Kp.refl⟩
theorem Fin.here {b : β} {a : Sto} {k : β → Sto → Hp → Hp → Prop} (h : Fin G W ρ R B H σ (.ok b a) k) (w : Wd G B H ρ a R) : k b a B H := h B H w (Same.refl _) Kp.refl
end

/-! ## slots as they are seen -/
abbrev Sw := List (Option D)
def Sls (G : Gx) (B : Hp) (ρ : List Addr) (δ : Sw) (σ : St) : Prop := δ.length = σ.length ∧ ∀ (i : Nat) (d : D), δ[i]? = some (some d) → ∃ v, σ[i]? = some (some v) ∧ Rep G B ρ d v
theorem Sls.mono {G : Gx} {B B' : Hp} {ρ : List Addr} {δ : Sw} {σ : St} (h : Sls G B ρ δ σ) (s : Same B B') : Sls G B' ρ δ σ := ⟨h.1, fun i d e => by
  obtain ⟨v, h1, h2⟩ := h.2 i d e
  exact ⟨v, h1, Rep.mono s d v h2⟩⟩
theorem Sls.set {G : Gx} {B : Hp} {ρ : List Addr} {δ : Sw} {σ : St} {i : Nat} {d : D} {v : V} (h : Sls G B ρ δ σ) (r : Rep G B ρ d v) : Sls G B ρ (δ.set i (some d)) (σ.set i (some v)) := by
  refine ⟨by rw [List.length_set, List.length_set]; exact h.1, fun j d' e => ?_⟩
  by_cases hj : i = j
  · subst hj
    have hl : i < δ.length := by
      have z := (List.getElem?_eq_some_iff.mp e).1
      rw [List.length_set] at z
      exact z
    rw [List.getElem?_set_self hl] at e
    have e' : d = d' := Option.some.inj (Option.some.inj e)
    subst e'
    exact ⟨v, List.getElem?_set_self (by rw [← h.1]; exact hl), r⟩
  · rw [List.getElem?_set_ne hj] at e
    obtain ⟨v', h1, h2⟩ := h.2 j d' e
    exact ⟨v', by rw [List.getElem?_set_ne hj]; exact h1, h2⟩
theorem Sls.none {G : Gx} {B : Hp} {ρ : List Addr} {δ : Sw} {σ : St} {i : Nat} (h : Sls G B ρ δ σ) : Sls G B ρ (δ.set i Option.none) (σ.set i Option.none) := by
  refine ⟨by rw [List.length_set, List.length_set]; exact h.1, fun j d' e => ?_⟩
  by_cases hj : i = j
  · subst hj
    have hl : i < δ.length := by
      have z := (List.getElem?_eq_some_iff.mp e).1
      rw [List.length_set] at z
      exact z
    rw [List.getElem?_set_self hl] at e
    cases e
  · rw [List.getElem?_set_ne hj] at e
    obtain ⟨v', h1, h2⟩ := h.2 j d' e
    exact ⟨v', by rw [List.getElem?_set_ne hj]; exact h1, h2⟩

/-! ## what an expression computes -/
abbrev EV := Sw → Sto → Out D
abbrev EM := Sw → Sto → Out M
abbrev ET := Sw → Sto → Out Bool
abbrev EA := Sw → Sto → Out (List D)
abbrev EL := Sw → Sto → Out (List M)
section
variable (G : Gx) (W : WX)
def VOk (t : TE) (f : EV) : Prop := ∀ (ρ R : List Addr) (B H : Hp) (σ : St) (δ : Sw) (a : Sto) (Q : VK), Wd G B H ρ a R → Sls G B ρ δ σ →
  Fin G W ρ R B H σ (f δ a) (fun d _ B' H' => ∀ v, Rep G B' ρ d v → Q v H') → t σ H Q
def MOk (t : TE) (f : EM) : Prop := ∀ (ρ R : List Addr) (B H : Hp) (σ : St) (δ : Sw) (a : Sto) (Q : VK), Wd G B H ρ a R → Sls G B ρ δ σ →
  FinM G W ρ R B H σ (f δ a) (fun _ _ _ H' v _ => Q v H') → t σ H Q
def TOk (t : TT) (f : ET) : Prop := ∀ (ρ R : List Addr) (B H : Hp) (σ : St) (δ : Sw) (a : Sto) (Q : Bool → Hp → Prop), Wd G B H ρ a R → Sls G B ρ δ σ →
  Fin G W ρ R B H σ (f δ a) (fun b _ _ H' => Q b H') → t σ H Q
def AOk (t : TA) (f : EA) : Prop := ∀ (ρ R : List Addr) (B H : Hp) (σ : St) (δ : Sw) (a : Sto) (Q : List V → Hp → Prop), Wd G B H ρ a R → Sls G B ρ δ σ →
  Fin G W ρ R B H σ (f δ a) (fun ds _ B' H' => ∀ vs, Reps G B' ρ ds vs → Q vs H') → t σ H Q
def LOk (t : TA) (f : EL) : Prop := ∀ (ρ R : List Addr) (B H : Hp) (σ : St) (δ : Sw) (a : Sto) (Q : List V → Hp → Prop), Wd G B H ρ a R → Sls G B ρ δ σ →
  FinL G W ρ R B H σ (f δ a) (fun _ _ _ H' vs _ => Q vs H') → t σ H Q
end
structure DV (X : Cx) (G : Gx) (W : WX) (e : Expr) (f : EV) : Prop where
  ex : ∃ t, PE X e t ∧ VOk G W t f
structure DM (X : Cx) (G : Gx) (W : WX) (e : Expr) (f : EM) : Prop where
  ex : ∃ t, PE X e t ∧ MOk G W t f
structure DT (X : Cx) (G : Gx) (W : WX) (e : Expr) (f : ET) : Prop where
  ex : ∃ t, PT X e t ∧ TOk G W t f
/-- a test whatever its whole is (and, or) -/
structure DW (X : Cx) (G : Gx) (W : WX) (e : Expr) (f : ET) : Prop where
  ex : ∃ t, PW X e t ∧ TOk G W t f
structure DA (X : Cx) (G : Gx) (W : WX) (es : List Expr) (f : EA) : Prop where
  ex : ∃ t, PA X es t ∧ AOk G W t f
structure DL (X : Cx) (G : Gx) (W : WX) (es : List Expr) (f : EL) : Prop where
  ex : ∃ t, PA X es t ∧ LOk G W t f

section
variable {X : Cx} {G : Gx} {W : WX} {e e1 e2 : Expr} {f g : EV}
/-- a value as what is owned -/
def mV (f : EV) : EM := fun δ a => (f δ a).map M.val
theorem dm_v (h : DV X G W e f) : DM X G W e (mV f) := by
  obtain ⟨t, p, s⟩ := h.ex
  refine ⟨t, p, fun ρ R B H σ δ a Q w sl q => s ρ R B H σ δ a Q w sl ?_⟩
  unfold mV at q
  cases e : f δ a with
  | ok d a' =>
    rw [e] at q
    exact fun B' H' w' s' k' v r => q B' H' v [] w' s' k' ⟨rfl, r⟩
  | exc c ns ds a' =>
    rw [e] at q
    exact q
  | stuck =>
    rw [e] at q
    exact q
/-- .. and back: it is given to the ground -/
def vM (f : EM) : EV := fun δ a => (f δ a).map freeze
theorem dv_m {f : EM} (h : DM X G W e f) : DV X G W e (vM f) := by
  obtain ⟨t, p, s⟩ := h.ex
  refine ⟨t, p, fun ρ R B H σ δ a Q w sl q => s ρ R B H σ δ a Q w sl ?_⟩
  unfold vM at q
  cases e : f δ a with
  | ok m a' =>
    rw [e] at q
    exact fun B' H' v F w' s' k' o => q (ov B' H' F) H' w'.absorb (s'.trans w'.sameOv) k' v (Own.froze w'.sameOv m v F (fun p hp => ov_in hp) o)
  | exc c ns ds a' =>
    rw [e] at q
    exact q
  | stuck =>
    rw [e] at q
    exact q
/-! ### names, constants -/
def eVar (i : Nat) : EV := fun δ a => match δ[i]? with
  | some (some d) => .ok d a
  | _ => .stuck
theorem dv_var {i : Nat} {x : Str} {pos : Pos} (hN : X.N[i]? = some x) (hv : Vis X.env.scope x) (hd : (x == ("__debug__" : Str)) = false := by decide) (hcd : (x == ("__classdict__" : Str)) = false := by decide) : DV X G W (.Name x pos) (eVar i) := by
  refine ⟨tVar i, pe_var hN hv hd hcd, fun ρ R B H σ δ a Q w sl q => ?_⟩
  unfold eVar at q
  cases e : δ[i]? with
  | none =>
    rw [e] at q
    exact q.elim
  | some o =>
    cases o with
    | none =>
      rw [e] at q
      exact q.elim
    | some d =>
      rw [e] at q
      obtain ⟨v, h1, h2⟩ := sl.2 i d e
      exact ⟨v, h1, q B H w (Same.refl _) Kp.refl v h2⟩
def eC (d : D) : EV := fun _ a => .ok d a
theorem VOk.c {d : D} {v : V} (h : ∀ B ρ, Rep G B ρ d v) : VOk G W (tC v) (eC d) := fun ρ R B H σ δ a Q w sl q => q B H w (Same.refl _) Kp.refl v (h B ρ)
theorem dv_int {i j pos} : DV X G W (.Constant (.int i) j pos) (eC (.int i)) := ⟨_, pe_int, VOk.c fun _ _ => rfl⟩
theorem dv_bl {b j pos} : DV X G W (.Constant (.bool b) j pos) (eC (.bl b)) := ⟨_, pe_bl, VOk.c fun _ _ => rfl⟩
theorem dv_non {j pos} : DV X G W (.Constant .none j pos) (eC .non) := ⟨_, pe_non, VOk.c fun _ _ => rfl⟩
theorem dv_str {x j pos} : DV X G W (.Constant (.str x) j pos) (eC (.str x)) := ⟨_, pe_str, VOk.c fun _ _ => rfl⟩
/-- a constant of the module -/
theorem dv_glob {x : Str} {v : V} {u : Value} {d : D} {pos : Pos} (hg : Gl X x) (hm : X.mg x = some u) (r : RelV v u) (h : ∀ B ρ, Rep G B ρ d v) (hd : (x == ("__debug__" : Str)) = false := by decide) : DV X G W (.Name x pos) (eC d) :=
  ⟨_, pe_glob hg hm r hd, VOk.c h⟩

/-! ### operators -/
def ev1 (g : D → Option D) (f : EV) : EV := fun δ a => (f δ a).opt g
def ev2 (g : D → D → Option D) (f1 f2 : EV) : EV := fun δ a => (f1 δ a).bind fun d a' => (f2 δ a').opt (g d)
/-- an operator on two known values -/
def Op2 (G : Gx) (r : R2) (g : D → D → Option D) : Prop := ∀ (B H : Hp) (ρ : List Addr) (d1 d2 d : D) (x y : V) (Q : VK), Same B H → Rep G B ρ d1 x → Rep G B ρ d2 y → g d1 d2 = some d → (∀ v, Rep G B ρ d v → Q v H) → r x y H Q
theorem VOk.op {r : R2} {g : D → D → Option D} {ta tb : TE} {fa fb : EV} (o : Op2 G r g) (ha : VOk G W ta fa) (hb : VOk G W tb fb) : VOk G W (tOp r ta tb) (ev2 g fa fb) := fun ρ R B H σ δ a Q w sl q =>
  ha ρ R B H σ δ a _ w sl (Fin.imp (Fin.seq q) fun d1 a1 B1 H1 w1 s1 k1 q1 x r1 =>
    hb ρ R B1 H1 σ δ a1 _ w1 (sl.mono s1) (Fin.imp (Fin.seqo q1) fun d2 a2 B2 H2 w2 s2 k2 q2 y r2 => by
      obtain ⟨d, e, q3⟩ := q2
      exact o B2 H2 ρ d1 d2 d x y Q w2.ex (Rep.mono s2 d1 x r1) r2 e q3))
theorem dv_bin {op : Operator} {r : R2} {g : D → D → Option D} {pos : Pos} {fa fb : EV} (ho : OpR X (binaryOp op) r) (o : Op2 G r g) (ha : DV X G W e1 fa) (hb : DV X G W e2 fb) : DV X G W (.BinOp e1 op e2 pos) (ev2 g fa fb) := by
  obtain ⟨ta, pa, sa⟩ := ha.ex
  obtain ⟨tb, pb, sb⟩ := hb.ex
  exact ⟨_, pe_op ho pa pb, VOk.op o sa sb⟩
theorem dv_cmp {op : CmpOp} {r : R2} {g : D → D → Option D} {pos : Pos} {fa fb : EV} (ho : OpR X (compareOp op) r) (o : Op2 G r g) (ha : DV X G W e1 fa) (hb : DV X G W e2 fb) (hm : behindInMarks op e2 = false) : DV X G W (.Compare e1 [op] [e2] pos) (ev2 g fa fb) := by
  obtain ⟨ta, pa, sa⟩ := ha.ex
  obtain ⟨tb, pb, sb⟩ := hb.ex
  exact ⟨_, pe_cmpR ho pa pb hm, VOk.op o sa sb⟩
/-- a test of a truth value -/
def asB : D → Option Bool
  | .bl b => some b
  | _ => none
def tV (f : EV) : ET := fun δ a => (f δ a).opt asB
theorem TOk.ofV {t : TE} {f : EV} (h : VOk G W t f) : TOk G W (tB t) (tV f) := fun ρ R B H σ δ a Q w sl q =>
  h ρ R B H σ δ a _ w sl (Fin.imp (Fin.seqo q) fun d a1 B1 H1 w1 s1 k1 q1 x r1 => by
    obtain ⟨b, e, q2⟩ := q1
    cases d with
    | bl b' =>
      have e' : b' = b := Option.some.inj e
      subst e'
      exact ⟨b', r1, q2⟩
    | _ => cases e)
theorem dt_val {f : EV} (h : DV X G W e f) (he : ∀ whole, isTrue e X.env whole = (do let v ← whole; standAt e.pos; holding [v] (truthy v)) := by intro _; rfl) : DT X G W e (tV f) := by
  obtain ⟨t, p, s⟩ := h.ex
  exact ⟨_, pt_val p he, TOk.ofV s⟩
theorem dt_cmp {op : CmpOp} {r : R2} {g : D → D → Option D} {pos : Pos} {fa fb : EV} (ho : OpR X (compareOp op) r) (o : Op2 G r g) (ha : DV X G W e1 fa) (hb : DV X G W e2 fb) (hm : behindInMarks op e2 = false) : DT X G W (.Compare e1 [op] [e2] pos) (tV (ev2 g fa fb)) := by
  obtain ⟨ta, pa, sa⟩ := ha.ex
  obtain ⟨tb, pb, sb⟩ := hb.ex
  exact ⟨_, pt_cmpR ho pa pb hm, TOk.ofV (VOk.op o sa sb)⟩
def tN (f : ET) : ET := fun δ a => (f δ a).map not
theorem dt_not {f : ET} {pos : Pos} (h : DT X G W e f) : DT X G W (.UnaryOp .Not e pos) (tN f) := by
  obtain ⟨t, p, s⟩ := h.ex
  exact ⟨_, pt_not p, fun ρ R B H σ δ a Q w sl q => s ρ R B H σ δ a _ w sl (Fin.imp (Fin.seq q) fun b a1 B1 H1 w1 s1 k1 q1 => q1.here w1)⟩
def tAn (f g : ET) : ET := fun δ a => (f δ a).bind fun b a1 => if b = true then g δ a1 else .ok false a1
def tOn (f g : ET) : ET := fun δ a => (f δ a).bind fun b a1 => if b = true then .ok true a1 else g δ a1
theorem TOk.and {t u : TT} {f g : ET} (h1 : TOk G W t f) (h2 : TOk G W u g) : TOk G W (tAnd t u) (tAn f g) := fun ρ R B H σ δ a Q w sl q =>
  h1 ρ R B H σ δ a _ w sl (Fin.imp (Fin.seq q) fun b a1 B1 H1 w1 s1 k1 q1 => by
    cases b with
    | true => exact h2 ρ R B1 H1 σ δ a1 _ w1 (sl.mono s1) q1
    | false => exact q1.here w1)
theorem TOk.or {t u : TT} {f g : ET} (h1 : TOk G W t f) (h2 : TOk G W u g) : TOk G W (tOr t u) (tOn f g) := fun ρ R B H σ δ a Q w sl q =>
  h1 ρ R B H σ δ a _ w sl (Fin.imp (Fin.seq q) fun b a1 B1 H1 w1 s1 k1 q1 => by
    cases b with
    | true => exact q1.here w1
    | false => exact h2 ρ R B1 H1 σ δ a1 _ w1 (sl.mono s1) q1)
theorem dw_and1 {f : ET} {pos : Pos} (h : DT X G W e f) : DW X G W (.BoolOp .And [e] pos) f := by
  obtain ⟨t, p, s⟩ := h.ex
  exact ⟨_, pw_and1 p, s⟩
theorem dw_or1 {f : ET} {pos : Pos} (h : DT X G W e f) : DW X G W (.BoolOp .Or [e] pos) f := by
  obtain ⟨t, p, s⟩ := h.ex
  exact ⟨_, pw_or1 p, s⟩
theorem dw_and {f g : ET} {rest : List Expr} {pos : Pos} (h : DT X G W e f) (k : DW X G W (.BoolOp .And (e1 :: rest) pos) g) : DW X G W (.BoolOp .And (e :: e1 :: rest) pos) (tAn f g) := by
  obtain ⟨t, p, s⟩ := h.ex
  obtain ⟨u, p2, s2⟩ := k.ex
  exact ⟨_, pw_and p p2, TOk.and s s2⟩
theorem dw_or {f g : ET} {rest : List Expr} {pos : Pos} (h : DT X G W e f) (k : DW X G W (.BoolOp .Or (e1 :: rest) pos) g) : DW X G W (.BoolOp .Or (e :: e1 :: rest) pos) (tOn f g) := by
  obtain ⟨t, p, s⟩ := h.ex
  obtain ⟨u, p2, s2⟩ := k.ex
  exact ⟨_, pw_or p p2, TOk.or s s2⟩
theorem dt_w {f : ET} (h : DW X G W e f) : DT X G W e f := by
  obtain ⟨t, p, s⟩ := h.ex
  exact ⟨_, p.pt, s⟩
/-! and, or, not as values, all truth values -/
def vAn (f g : EV) : EV := fun δ a => ((f δ a).opt asB).bind fun b a1 => if b = true then g δ a1 else .ok (.bl false) a1
def vOn (f g : EV) : EV := fun δ a => ((f δ a).opt asB).bind fun b a1 => if b = true then .ok (.bl true) a1 else g δ a1
def vN (f : EV) : EV := fun δ a => ((f δ a).opt asB).map fun b => .bl (!b)
theorem asB_rep {d : D} {b : Bool} {B : Hp} {ρ : List Addr} {x : V} (e : asB d = some b) (r : Rep G B ρ d x) : x = .bl b := by
  cases d with
  | bl b' =>
    have e' : b' = b := Option.some.inj e
    subst e'
    exact r
  | _ => cases e
theorem dv_one {op} {pos : Pos} (h : DV X G W e f) : DV X G W (.BoolOp op [e] pos) f := by
  obtain ⟨t, p, s⟩ := h.ex
  exact ⟨_, pe_one p, s⟩
theorem dv_and {rest : List Expr} {pos : Pos} (h : DV X G W e f) (k : DV X G W (.BoolOp .And (e1 :: rest) pos) g) : DV X G W (.BoolOp .And (e :: e1 :: rest) pos) (vAn f g) := by
  obtain ⟨t, p, s⟩ := h.ex
  obtain ⟨u, p2, s2⟩ := k.ex
  refine ⟨_, pe_and p p2, fun ρ R B H σ δ a Q w sl q => s ρ R B H σ δ a _ w sl (Fin.imp (Fin.seqo (Fin.seq q)) fun d a1 B1 H1 w1 s1 k1 q1 x r => ?_)⟩
  obtain ⟨b, e, q2⟩ := q1
  refine ⟨b, asB_rep e r, ?_⟩
  cases b with
  | true => exact s2 ρ R B1 H1 σ δ a1 _ w1 (sl.mono s1) q2
  | false => exact q2.here w1 _ rfl
theorem dv_or {rest : List Expr} {pos : Pos} (h : DV X G W e f) (k : DV X G W (.BoolOp .Or (e1 :: rest) pos) g) : DV X G W (.BoolOp .Or (e :: e1 :: rest) pos) (vOn f g) := by
  obtain ⟨t, p, s⟩ := h.ex
  obtain ⟨u, p2, s2⟩ := k.ex
  refine ⟨_, pe_or p p2, fun ρ R B H σ δ a Q w sl q => s ρ R B H σ δ a _ w sl (Fin.imp (Fin.seqo (Fin.seq q)) fun d a1 B1 H1 w1 s1 k1 q1 x r => ?_)⟩
  obtain ⟨b, e, q2⟩ := q1
  refine ⟨b, asB_rep e r, ?_⟩
  cases b with
  | true => exact q2.here w1 _ rfl
  | false => exact s2 ρ R B1 H1 σ δ a1 _ w1 (sl.mono s1) q2
theorem dv_not {pos : Pos} (h : DV X G W e f) : DV X G W (.UnaryOp .Not e pos) (vN f) := by
  obtain ⟨t, p, s⟩ := h.ex
  refine ⟨_, pe_not p, fun ρ R B H σ δ a Q w sl q => s ρ R B H σ δ a _ w sl (Fin.imp (Fin.seqo (Fin.seq q)) fun d a1 B1 H1 w1 s1 k1 q1 x r => ?_)⟩
  obtain ⟨b, e, q2⟩ := q1
  exact ⟨b, asB_rep e r, q2.here w1 _ rfl⟩
/-- a if t else b -/
def eIf (t : ET) (f g : EM) : EM := fun δ a => (t δ a).bind fun b a1 => if b = true then f δ a1 else g δ a1
theorem dm_if {t : ET} {f g : EM} {pos : Pos} (h : DT X G W e t) (h1 : DM X G W e1 f) (h2 : DM X G W e2 g) : DM X G W (.IfExp e e1 e2 pos) (eIf t f g) := by
  obtain ⟨u, p, s⟩ := h.ex
  obtain ⟨u1, p1, s1⟩ := h1.ex
  obtain ⟨u2, p2, s2⟩ := h2.ex
  refine ⟨_, pe_ifExp p p1 p2, fun ρ R B H σ δ a Q w sl q => s ρ R B H σ δ a _ w sl (Fin.imp (Fin.seqM q) fun b a1 B1 H1 w1 s1' k1 q1 => ?_)⟩
  cases b with
  | true => exact s1 ρ R B1 H1 σ δ a1 _ w1 (sl.mono s1') q1
  | false => exact s2 ρ R B1 H1 σ δ a1 _ w1 (sl.mono s1') q1
/-! ### argument lists -/
def aNil : EA := fun _ a => .ok [] a
def aCons (f : EV) (g : EA) : EA := fun δ a => (f δ a).bind fun d a1 => (g δ a1).map fun ds => d :: ds
theorem da_nil : DA X G W [] aNil := ⟨tNil, pa_nil, fun ρ R B H σ δ a Q w sl q => q.here w _ Reps.nil⟩
theorem da_cons {es : List Expr} {g : EA} (h : DV X G W e f) (k : DA X G W es g) (hs : starEach (e :: es) X.env = (false, eval e X.env) :: starEach es X.env := by rfl) : DA X G W (e :: es) (aCons f g) := by
  obtain ⟨t, p, s⟩ := h.ex
  obtain ⟨u, p2, s2⟩ := k.ex
  exact ⟨_, pa_cons p p2 hs, fun ρ R B H σ δ a Q w sl q => s ρ R B H σ δ a _ w sl (Fin.imp (Fin.seq q) fun d a1 B1 H1 w1 s1 k1 q1 x r1 =>
    s2 ρ R B1 H1 σ δ a1 _ w1 (sl.mono s1) (Fin.imp (Fin.seq q1) fun ds a2 B2 H2 w2 s2 k2 q2 vs r2 => q2.here w2 _ (Reps.cons (Rep.mono s2 d x r1) r2)))⟩
end
end DL

namespace DL
open PySem L2

theorem lim {n : Nat} (h : n ≤ 100000) : n ≤ sizeLine := Nat.le_trans h (by rw [sizeLine_eq]; decide)
theorem limT {n : Nat} (h : n < 100000) : n < sizeLine := Nat.lt_of_lt_of_le h (by rw [sizeLine_eq]; decide)

/-! ## what an operation gives: a value, a new list, a new tuple -/
inductive New where
  | val (d : D) | lst (l : List D) | tup (l : List D)
def New.m : New → M
  | .val d => .val d
  | .lst l => .lst (l.map M.val)
  | .tup l => .val (.tup l)
def New.d : New → D
  | .val d => d
  | .lst l => .lst l
  | .tup l => .tup l
def NewK (G : Gx) (B H : Hp) (ρ : List Addr) (nw : New) (Q : VK) : Prop := match nw with
  | .val d => ∀ v, Rep G B ρ d v → Q v H
  | .lst l => ∀ p xs, H p = none → Reps G B ρ l xs → Q (.ref p) (upd H p (.lst xs))
  | .tup l => ∀ p xs, H p = none → Reps G B ρ l xs → Q (.ref p) (upd H p (.tup xs))
section
variable {G : Gx} {W : WX} {ρ R : List Addr} {B H : Hp} {σ : St} {a : Sto} {nw : New}
/-- owned -/
theorem FinM.new {Q : VK} (w : Wd G B H ρ a R) (h : FinM G W ρ R B H σ (.ok nw.m a) (fun _ _ _ H' v _ => Q v H')) : NewK G B H ρ nw Q := by
  cases nw with
  | val d => exact fun v r => h B H v [] w (Same.refl _) Kp.refl ⟨rfl, r⟩
  | lst l => exact fun p xs hp r => h B (upd H p (.lst xs)) (.ref p) [p] (w.newOwn hp) (Same.refl _) (kp_new w hp) ⟨p, xs, [], rfl, upd_same, rfl, Owns.vals r⟩
  | tup l => exact fun p xs hp r => h (upd B p (.tup xs)) (upd H p (.tup xs)) (.ref p) [] (w.new hp) (same_new (w.noneB hp)) (kp_new w hp) ⟨rfl, p, xs, rfl, SqT.of upd_same, Reps.mono (same_new (w.noneB hp)) l xs r⟩
/-- known to the ground -/
theorem Fin.new {Q : VK} (w : Wd G B H ρ a R) (h : Fin G W ρ R B H σ (.ok nw.d a) (fun d _ B' H' => ∀ v, Rep G B' ρ d v → Q v H')) : NewK G B H ρ nw Q := by
  cases nw with
  | val d => exact fun v r => h B H w (Same.refl _) Kp.refl v r
  | lst l => exact fun p xs hp r => h (upd B p (.lst xs)) (upd H p (.lst xs)) (w.new hp) (same_new (w.noneB hp)) (kp_new w hp) (.ref p) ⟨p, xs, rfl, upd_same, Reps.mono (same_new (w.noneB hp)) l xs r⟩
  | tup l => exact fun p xs hp r => h (upd B p (.tup xs)) (upd H p (.tup xs)) (w.new hp) (same_new (w.noneB hp)) (kp_new w hp) (.ref p) ⟨p, xs, rfl, SqT.of upd_same, Reps.mono (same_new (w.noneB hp)) l xs r⟩
end

/-! ## operators on two values -/
def OpN (G : Gx) (r : R2) (g : D → D → Option New) : Prop := ∀ (ρ R : List Addr) (B H : Hp) (a : Sto) (d1 d2 : D) (nw : New) (x y : V) (Q : VK), Wd G B H ρ a R → Rep G B ρ d1 x → Rep G B ρ d2 y → g d1 d2 = some nw → NewK G B H ρ nw Q → r x y H Q
/-- .. where a list of the store is asked, too -/
def OpS (G : Gx) (r : R2) (g : Sto → D → D → Option New) : Prop := ∀ (ρ R : List Addr) (B H : Hp) (a : Sto) (d1 d2 : D) (nw : New) (x y : V) (Q : VK), Wd G B H ρ a R → Rep G B ρ d1 x → Rep G B ρ d2 y → g a d1 d2 = some nw → NewK G B H ρ nw Q → r x y H Q
def eN (g : D → D → Option New) (f1 f2 : EV) : EM := fun δ a => (f1 δ a).bind fun d a1 => (f2 δ a1).bind fun e a2 => match g d e with | some nw => .ok nw.m a2 | none => .stuck
def vNw (g : D → D → Option New) (f1 f2 : EV) : EV := fun δ a => (f1 δ a).bind fun d a1 => (f2 δ a1).bind fun e a2 => match g d e with | some nw => .ok nw.d a2 | none => .stuck
def vS (g : Sto → D → D → Option New) (f1 f2 : EV) : EV := fun δ a => (f1 δ a).bind fun d a1 => (f2 δ a1).bind fun e a2 => match g a2 d e with | some nw => .ok nw.d a2 | none => .stuck
section
variable {X : Cx} {G : Gx} {W : WX} {e1 e2 : Expr} {fa fb : EV} {pos : Pos} {r : R2}
theorem MOk.opN {g : D → D → Option New} {ta tb : TE} (o : OpN G r g) (ha : VOk G W ta fa) (hb : VOk G W tb fb) : MOk G W (tOp r ta tb) (eN g fa fb) := fun ρ R B H σ δ a Q w sl q =>
  ha ρ R B H σ δ a _ w sl (Fin.imp (Fin.seqM q) fun d1 a1 B1 H1 w1 s1 k1 q1 x r1 =>
    hb ρ R B1 H1 σ δ a1 _ w1 (sl.mono s1) (Fin.imp (Fin.seqM q1) fun d2 a2 B2 H2 w2 s2 k2 q2 y r2 => by
      cases e : g d1 d2 with
      | none =>
        rw [e] at q2
        exact q2.elim
      | some nw =>
        rw [e] at q2
        exact o ρ R B2 H2 a2 d1 d2 nw x y Q w2 (Rep.mono s2 d1 x r1) r2 e (FinM.new w2 q2)))
theorem VOk.opN {g : D → D → Option New} {ta tb : TE} (o : OpN G r g) (ha : VOk G W ta fa) (hb : VOk G W tb fb) : VOk G W (tOp r ta tb) (vNw g fa fb) := fun ρ R B H σ δ a Q w sl q =>
  ha ρ R B H σ δ a _ w sl (Fin.imp (Fin.seq q) fun d1 a1 B1 H1 w1 s1 k1 q1 x r1 =>
    hb ρ R B1 H1 σ δ a1 _ w1 (sl.mono s1) (Fin.imp (Fin.seq q1) fun d2 a2 B2 H2 w2 s2 k2 q2 y r2 => by
      cases e : g d1 d2 with
      | none =>
        rw [e] at q2
        exact q2.elim
      | some nw =>
        rw [e] at q2
        exact o ρ R B2 H2 a2 d1 d2 nw x y Q w2 (Rep.mono s2 d1 x r1) r2 e (Fin.new w2 q2)))
theorem VOk.opS {g : Sto → D → D → Option New} {ta tb : TE} (o : OpS G r g) (ha : VOk G W ta fa) (hb : VOk G W tb fb) : VOk G W (tOp r ta tb) (vS g fa fb) := fun ρ R B H σ δ a Q w sl q =>
  ha ρ R B H σ δ a _ w sl (Fin.imp (Fin.seq q) fun d1 a1 B1 H1 w1 s1 k1 q1 x r1 =>
    hb ρ R B1 H1 σ δ a1 _ w1 (sl.mono s1) (Fin.imp (Fin.seq q1) fun d2 a2 B2 H2 w2 s2 k2 q2 y r2 => by
      cases e : g a2 d1 d2 with
      | none =>
        rw [e] at q2
        exact q2.elim
      | some nw =>
        rw [e] at q2
        exact o ρ R B2 H2 a2 d1 d2 nw x y Q w2 (Rep.mono s2 d1 x r1) r2 e (Fin.new w2 q2)))
theorem dm_bin {op : Operator} {g : D → D → Option New} (ho : OpR X (binaryOp op) r) (o : OpN G r g) (ha : DV X G W e1 fa) (hb : DV X G W e2 fb) : DM X G W (.BinOp e1 op e2 pos) (eN g fa fb) := by
  obtain ⟨ta, pa, sa⟩ := ha.ex
  obtain ⟨tb, pb, sb⟩ := hb.ex
  exact ⟨_, pe_op ho pa pb, MOk.opN o sa sb⟩
theorem dv_binN {op : Operator} {g : D → D → Option New} (ho : OpR X (binaryOp op) r) (o : OpN G r g) (ha : DV X G W e1 fa) (hb : DV X G W e2 fb) : DV X G W (.BinOp e1 op e2 pos) (vNw g fa fb) := by
  obtain ⟨ta, pa, sa⟩ := ha.ex
  obtain ⟨tb, pb, sb⟩ := hb.ex
  exact ⟨_, pe_op ho pa pb, VOk.opN o sa sb⟩
end

/-! ### the operators -/
def dI (g : Int → Int → Option D) : D → D → Option D
  | .int i, .int j => g i j
  | _, _ => none
theorem op_I {G : Gx} {C : Int → Int → Prop} {f : Int → Int → V} {g : Int → Int → Option D} (h : ∀ i j d, g i j = some d → C i j ∧ ∀ B ρ, Rep G B ρ d (f i j)) : Op2 G (rI C f) (dI g) := fun B H ρ d1 d2 d x y Q s r1 r2 e q => by
  cases d1 with
  | int i =>
    cases d2 with
    | int j =>
      obtain ⟨h1, h2⟩ := h i j d e
      exact ⟨i, j, r1, r2, h1, q _ (h2 B ρ)⟩
    | _ => cases e
  | _ => cases e
theorem op_I0 {G : Gx} {f : Int → Int → V} {g : Int → Int → Option D} (h : ∀ i j d, g i j = some d → ∀ B ρ, Rep G B ρ d (f i j)) : Op2 G (rI0 f) (dI g) := fun B H ρ d1 d2 d x y Q s r1 r2 e q => by
  cases d1 with
  | int i =>
    cases d2 with
    | int j => exact ⟨i, j, r1, r2, q _ (h i j d e B ρ)⟩
    | _ => cases e
  | _ => cases e
def gSub (i j : Int) : Option D := some (.int (i - j))
def gMod (i j : Int) : Option D := if 0 < j then some (.int (i % j)) else none
def gDiv (i j : Int) : Option D := if 0 < j ∧ j < 1073741824 then some (.int (i / j)) else none
def gPow (i j : Int) : Option D := if 0 ≤ j ∧ j ≤ 1000000 ∧ i.natAbs < 2 ^ 64 then some (.int (i ^ j.toNat)) else none
def gLt (i j : Int) : Option D := some (.bl (decide (i < j)))
def gLe (i j : Int) : Option D := some (.bl (decide (i ≤ j)))
def gGt (i j : Int) : Option D := some (.bl (decide (j < i)))
def gGe (i j : Int) : Option D := some (.bl (decide (j ≤ i)))
theorem some_rep {G : Gx} {B : Hp} {ρ : List Addr} {d d' : D} {v : V} (h : some d = some d') (r : Rep G B ρ d v) : Rep G B ρ d' v := by
  rw [← Option.some.inj h]
  exact r
theorem o_sub {G : Gx} : Op2 G (rI0 fun i j => .int (i - j)) (dI gSub) := op_I0 fun i j d e B ρ => some_rep e rfl
theorem o_mod {G : Gx} : Op2 G (rI (fun _ j => 0 < j) fun i j => .int (i % j)) (dI gMod) := op_I fun i j d e => by
  dsimp only [gMod] at e
  by_cases c : 0 < j
  · rw [if_pos c] at e
    exact ⟨c, fun B ρ => some_rep e rfl⟩
  · rw [if_neg c] at e
    cases e
theorem o_div {G : Gx} : Op2 G (rI CDiv fun i j => .int (i / j)) (dI gDiv) := op_I fun i j d e => by
  dsimp only [gDiv] at e
  by_cases c : 0 < j ∧ j < 1073741824
  · rw [if_pos c] at e
    exact ⟨c, fun B ρ => some_rep e rfl⟩
  · rw [if_neg c] at e
    cases e
theorem o_pow {G : Gx} : Op2 G (rI CPow fun i j => .int (i ^ j.toNat)) (dI gPow) := op_I fun i j d e => by
  dsimp only [gPow] at e
  by_cases c : 0 ≤ j ∧ j ≤ 1000000 ∧ i.natAbs < 2 ^ 64
  · rw [if_pos c] at e
    exact ⟨c, fun B ρ => some_rep e rfl⟩
  · rw [if_neg c] at e
    cases e
theorem o_lt {G : Gx} : Op2 G (rI0 fun i j => .bl (decide (i < j))) (dI gLt) := op_I0 fun i j d e B ρ => some_rep e rfl
theorem o_le {G : Gx} : Op2 G (rI0 fun i j => .bl (decide (i ≤ j))) (dI gLe) := op_I0 fun i j d e B ρ => some_rep e rfl
theorem o_gt {G : Gx} : Op2 G (rI0 fun i j => .bl (decide (j < i))) (dI gGt) := op_I0 fun i j d e B ρ => some_rep e rfl
theorem o_ge {G : Gx} : Op2 G (rI0 fun i j => .bl (decide (j ≤ i))) (dI gGe) := op_I0 fun i j d e B ρ => some_rep e rfl

/-- + : ints, texts, lists, tuples -/
def dAdd : D → D → Option New
  | .int i, .int j => some (.val (.int (i + j)))
  | .str x, .str y => if x.length + y.length ≤ 100000 then some (.val (.str (x ++ y))) else none
  | .lst xs, .lst ys => if xs.length + ys.length ≤ 100000 then some (.lst (xs ++ ys)) else none
  | .tup xs, .tup ys => if xs.length + ys.length ≤ 100000 then some (if xs.isEmpty then .val (.tup ys) else if ys.isEmpty then .val (.tup xs) else .tup (xs ++ ys)) else none
  | _, _ => none
def rAddA (K : PySem.W.Frag) : R2 := fun x y H Q => rI0 (fun i j => .int (i + j)) x y H Q ∨ (fun x y H Q => ∃ i j, x = V.str i ∧ y = V.str j ∧ i.length + j.length ≤ sizeLine ∧ Q (.str (i ++ j)) H) x y H Q ∨ rCat x y H Q ∨ rCatA K x y H Q
theorem op_addA {X : Cx} : OpR X (binaryOp .Add) (rAddA X.K) := op_add.or (op_add_str.or (op_cat.or op_catA))
theorem Reps.empty {G : Gx} {B : Hp} {ρ : List Addr} {ds : List D} {xs : List V} (h : Reps G B ρ ds xs) : xs = [] ↔ ds.isEmpty = true := by
  have e := h.len
  cases ds with
  | nil =>
    have z : xs = [] := h
    subst z
    exact ⟨fun _ => rfl, fun _ => rfl⟩
  | cons d ds =>
    obtain ⟨x, r, rfl, _⟩ := h
    constructor
    · intro z
      cases z
    · intro z
      cases z
theorem o_add {G : Gx} : OpN G (rAddA G.K) dAdd := fun ρ R B H a d1 d2 nw x y Q w r1 r2 e q => by
  cases d1 with
  | int i =>
    cases d2 with
    | int j =>
      cases e
      exact .inl ⟨i, j, r1, r2, q _ rfl⟩
    | _ => cases e
  | str i =>
    cases d2 with
    | str j =>
      dsimp only [dAdd] at e
      by_cases c : i.length + j.length ≤ 100000
      · rw [if_pos c] at e
        cases e
        exact .inr (.inl ⟨i, j, r1, r2, lim c, q _ rfl⟩)
      · rw [if_neg c] at e
        cases e
    | _ => cases e
  | lst i =>
    cases d2 with
    | lst j =>
      dsimp only [dAdd] at e
      by_cases c : i.length + j.length ≤ 100000
      · rw [if_pos c] at e
        cases e
        obtain ⟨p, xs, rfl, h1, h2⟩ := r1
        obtain ⟨p', xs', rfl, h1', h2'⟩ := r2
        exact .inr (.inr (.inl ⟨p, p', xs, xs', rfl, rfl, w.ex _ _ h1, w.ex _ _ h1', lim (by rw [← h2.len, ← h2'.len]; exact c), fun o ho => q o _ ho (h2.append h2')⟩))
      · rw [if_neg c] at e
        cases e
    | _ => cases e
  | tup i =>
    cases d2 with
    | tup j =>
      dsimp only [dAdd] at e
      by_cases c : i.length + j.length ≤ 100000
      · rw [if_pos c] at e
        obtain ⟨p, xs, rfl, h1, h2⟩ := r1
        obtain ⟨p', xs', rfl, h1', h2'⟩ := r2
        have t1 : SqT G.K H p xs := by
          rcases h1 with (h | ⟨o, h⟩) | h
          · exact .inl (.inl (w.ex _ _ h))
          · exact .inl (.inr ⟨o, w.ex _ _ h⟩)
          · exact .inr h
        have t2 : SqT G.K H p' xs' := by
          rcases h1' with (h | ⟨o, h⟩) | h
          · exact .inl (.inl (w.ex _ _ h))
          · exact .inl (.inr ⟨o, w.ex _ _ h⟩)
          · exact .inr h
        refine .inr (.inr (.inr ⟨p, p', xs, xs', rfl, rfl, t1, t2, lim (by rw [← h2.len, ← h2'.len]; exact c), fun z => ?_, fun z z' => ?_, fun z z' => ?_⟩))
        · rw [if_pos (h2.empty.mp z)] at e
          cases e
          exact q _ ⟨p', xs', rfl, h1', h2'⟩
        · rw [if_neg (fun u => z (h2.empty.mpr u)), if_pos (h2'.empty.mp z')] at e
          cases e
          exact q _ ⟨p, xs, rfl, h1, h2⟩
        · rw [if_neg (fun u => z (h2.empty.mpr u)), if_neg (fun u => z' (h2'.empty.mpr u))] at e
          cases e
          exact fun o ho => q o _ ho (h2.append h2')
      · rw [if_neg c] at e
        cases e
    | _ => cases e
  | _ => cases e
theorem sqt_same {K : PySem.W.Frag} {B H : Hp} {p : Addr} {xs : List V} (s : Same B H) (h : SqT K B p xs) : SqT K H p xs := by
  rcases h with (h | ⟨o, h⟩) | h
  · exact .inl (.inl (s _ _ h))
  · exact .inl (.inr ⟨o, s _ _ h⟩)
  · exact .inr h
/-- * : ints; a list, how often -/
def dMul : D → D → Option New
  | .int i, .int j => if (-(2 ^ 64) < i ∧ i < 2 ^ 64) ∨ (-(2 ^ 64) < j ∧ j < 2 ^ 64) then some (.val (.int (i * j))) else none
  | .lst xs, .int k => if 0 ≤ k ∧ k ≤ 1000 ∧ xs.length ≤ 100 then some (.lst (List.replicate k.toNat xs).flatten) else none
  | _, _ => none
def rMulA : R2 := fun x y H Q => rI CMul (fun i j => .int (i * j)) x y H Q ∨ rRep x y H Q
theorem op_mulA {X : Cx} : OpR X (binaryOp .Mult) rMulA := op_mul.or op_rep
theorem Reps.rep {G : Gx} {B : Hp} {ρ : List Addr} {ds : List D} {xs : List V} (h : Reps G B ρ ds xs) : ∀ k : Nat, Reps G B ρ (List.replicate k ds).flatten (List.replicate k xs).flatten
  | 0 => rfl
  | k + 1 => by
    rw [List.replicate_succ, List.replicate_succ, List.flatten_cons, List.flatten_cons]
    exact h.append (Reps.rep h k)
theorem o_mul {G : Gx} : OpN G rMulA dMul := fun ρ R B H a d1 d2 nw x y Q w r1 r2 e q => by
  cases d1 with
  | int i =>
    cases d2 with
    | int j =>
      dsimp only [dMul] at e
      by_cases c : (-(2 ^ 64) < i ∧ i < 2 ^ 64) ∨ (-(2 ^ 64) < j ∧ j < 2 ^ 64)
      · rw [if_pos c] at e
        cases e
        exact .inl ⟨i, j, r1, r2, c, q _ rfl⟩
      · rw [if_neg c] at e
        cases e
    | _ => cases e
  | lst i =>
    cases d2 with
    | int j =>
      dsimp only [dMul] at e
      by_cases c : 0 ≤ j ∧ j ≤ 1000 ∧ i.length ≤ 100
      · rw [if_pos c] at e
        cases e
        obtain ⟨p, xs, rfl, h1, h2⟩ := r1
        obtain ⟨c1, c2, c3⟩ := c
        have hl := h2.len
        have c4 : j.toNat ≤ 1000 := by omega
        have c5 : xs.length * j.toNat ≤ 100 * 1000 := Nat.mul_le_mul (by omega) c4
        exact .inr ⟨p, j, xs, rfl, r2, w.ex _ _ h1, by omega, by omega, lim (by omega), fun o ho => q o _ ho (h2.rep _)⟩
      · rw [if_neg c] at e
        cases e
    | _ => cases e
  | _ => cases e

/-! ### == of data -/
/-- data of depth at most n -/
def dd : Nat → D → Bool
  | _, .non => true
  | _, .bl _ => true
  | _, .int _ => true
  | _, .str s => PySem.PyData.strOk s
  | n + 1, .tup l => l.all (dd n)
  | n + 1, .lst l => l.all (dd n)
  | _, _ => false
mutual
def eqvD : D → D → Bool
  | .non, .non => true
  | .bl a, .bl b => a == b
  | .bl a, .int j => (if a then 1 else 0) == j
  | .int i, .bl b => i == (if b then 1 else 0)
  | .int i, .int j => i == j
  | .str x, .str y => x == y
  | .lst xs, .lst ys => eqvDs xs ys
  | .tup xs, .tup ys => eqvDs xs ys
  | _, _ => false
def eqvDs : List D → List D → Bool
  | [], [] => true
  | x :: xs, y :: ys => eqvD x y && eqvDs xs ys
  | _, _ => false
end
mutual
def pd : D → PyData
  | .non => .none
  | .bl b => .bool b
  | .int i => .int i
  | .str s => .str s
  | .tup l => .tuple (pds l)
  | .lst l => .list (pds l)
  | _ => .none
def pds : List D → List PyData
  | [] => []
  | d :: ds => pd d :: pds ds
end
theorem pds_map : ∀ l : List D, pds l = l.map pd
  | [] => rfl
  | d :: ds => by
    show pd d :: pds ds = _
    rw [pds_map ds] <;> rfl
section
variable {G : Gx} {B : Hp} {ρ : List Addr}
theorem dp_of (H : Hp) (s : Same B H) : ∀ (n : Nat) (d : D) (v : V), dd n d = true → Rep G B ρ d v → Dp G.K H v (pd d)
  | n, .non, v, h, r => by
    have e : v = .non := r
    rw [e]
    exact .non
  | n, .bl b, v, h, r => by
    have e : v = .bl b := r
    rw [e]
    exact .bl b
  | n, .int b, v, h, r => by
    have e : v = .int b := r
    rw [e]
    exact .int b
  | n, .str b, v, h, r => by
    have e : v = .str b := r
    rw [e]
    exact .str b
  | 0, .tup l, v, h, r => by cases h
  | 0, .lst l, v, h, r => by cases h
  | n + 1, .tup l, v, h, r => by
    obtain ⟨p, xs, rfl, h1, h2⟩ := r
    have all : ∀ (l : List D) (xs : List V), l.all (dd n) = true → Reps G B ρ l xs → DpAll G.K H xs (pds l) := by
      intro l
      induction l with
      | nil =>
        intro xs _ r
        have e : xs = [] := r
        rw [e]
        exact .nil
      | cons d ds ih =>
        intro xs hl r
        obtain ⟨x, r', rfl, h3, h4⟩ := r
        rw [List.all_cons, Bool.and_eq_true] at hl
        exact .cons (dp_of H s n d x hl.1 h3) (ih r' hl.2 h4)
    exact .tup (sqt_same s h1) (all l xs h h2)
  | n + 1, .lst l, v, h, r => by
    obtain ⟨p, xs, rfl, h1, h2⟩ := r
    have all : ∀ (l : List D) (xs : List V), l.all (dd n) = true → Reps G B ρ l xs → DpAll G.K H xs (pds l) := by
      intro l
      induction l with
      | nil =>
        intro xs _ r
        have e : xs = [] := r
        rw [e]
        exact .nil
      | cons d ds ih =>
        intro xs hl r
        obtain ⟨x, r', rfl, h3, h4⟩ := r
        rw [List.all_cons, Bool.and_eq_true] at hl
        exact .cons (dp_of H s n d x hl.1 h3) (ih r' hl.2 h4)
    exact .lst (SqL.of (s _ _ h1)) (all l xs h h2)
  | n, .obj _ _ _, v, h, r => by cases n <;> cases h
  | n, .exc _ _ _, v, h, r => by cases n <;> cases h
  | n, .loc _, v, h, r => by cases n <;> cases h
  | n, .scr _, v, h, r => by cases n <;> cases h
end
theorem canLay_pd : ∀ (n : Nat) (d : D), dd n d = true → (pd d).canLay0 = true ∧ (pd d).depth ≤ n + 1
  | n, .non, h => by
    refine ⟨by unfold pd; rfl, ?_⟩
    unfold pd PyData.depth
    omega
  | n, .bl b, h => by
    refine ⟨by unfold pd; rfl, ?_⟩
    unfold pd PyData.depth
    omega
  | n, .int b, h => by
    refine ⟨by unfold pd; rfl, ?_⟩
    unfold pd PyData.depth
    omega
  | n, .str b, h => by
    have h' : PySem.PyData.strOk b = true := by
      cases n <;> exact h
    refine ⟨?_, ?_⟩
    · show PyData.canLay0 (.str b) = true
      simp only [PyData.canLay0]
      exact h'
    · unfold pd PyData.depth
      omega
  | 0, .tup l, h => by cases h
  | 0, .lst l, h => by cases h
  | n + 1, .tup l, h => by
    have all : ∀ (l : List D), l.all (dd n) = true → PyData.canLayAll0 (pds l) = true ∧ PyData.depthAll (pds l) ≤ n + 1 := by
      intro l
      induction l with
      | nil => intro _; exact ⟨rfl, Nat.zero_le _⟩
      | cons d ds ih =>
        intro hl
        rw [List.all_cons, Bool.and_eq_true] at hl
        have h1 := canLay_pd n d hl.1
        have h2 := ih hl.2
        refine ⟨?_, ?_⟩
        · show PyData.canLayAll0 (pd d :: pds ds) = true
          simp [PyData.canLayAll0, h1.1, h2.1]
        · show PyData.depthAll (pd d :: pds ds) ≤ n + 1
          simp only [PyData.depthAll]
          omega
    have q := all l h
    refine ⟨?_, ?_⟩
    · show PyData.canLay0 (.tuple (pds l)) = true
      simp [PyData.canLay0, q.1]
    · show PyData.depth (.tuple (pds l)) ≤ n + 1 + 1
      simp only [PyData.depth]
      omega
  | n + 1, .lst l, h => by
    have all : ∀ (l : List D), l.all (dd n) = true → PyData.canLayAll0 (pds l) = true ∧ PyData.depthAll (pds l) ≤ n + 1 := by
      intro l
      induction l with
      | nil => intro _; exact ⟨rfl, Nat.zero_le _⟩
      | cons d ds ih =>
        intro hl
        rw [List.all_cons, Bool.and_eq_true] at hl
        have h1 := canLay_pd n d hl.1
        have h2 := ih hl.2
        refine ⟨?_, ?_⟩
        · show PyData.canLayAll0 (pd d :: pds ds) = true
          simp [PyData.canLayAll0, h1.1, h2.1]
        · show PyData.depthAll (pd d :: pds ds) ≤ n + 1
          simp only [PyData.depthAll]
          omega
    have q := all l h
    refine ⟨?_, ?_⟩
    · show PyData.canLay0 (.list (pds l)) = true
      simp [PyData.canLay0, q.1]
    · show PyData.depth (.list (pds l)) ≤ n + 1 + 1
      simp only [PyData.depth]
      omega
  | n, .obj _ _ _, h => by cases n <;> cases h
  | n, .exc _ _ _, h => by cases n <;> cases h
  | n, .loc _, h => by cases n <;> cases h
  | n, .scr _, h => by cases n <;> cases h
theorem eqv_pd : ∀ (n : Nat) (d e : D), dd n d = true → dd n e = true → PyData.eqv (pd d) (pd e) = eqvD d e := by
  intro n
  induction n with
  | zero =>
    intro d e h1 h2
    cases d <;> first | (cases h1; done) | (cases e <;> first | (cases h2; done) | (unfold pd eqvD PyData.eqv; rfl))
  | succ n ih =>
    have all : ∀ (l m : List D), l.all (dd n) = true → m.all (dd n) = true → PyData.eqvAll (pds l) (pds m) = eqvDs l m := by
      intro l
      induction l with
      | nil =>
        intro m _ _
        cases m with
        | nil => rfl
        | cons y ys => rfl
      | cons x xs ih2 =>
        intro m h1 h2
        cases m with
        | nil => rfl
        | cons y ys =>
          rw [List.all_cons, Bool.and_eq_true] at h1 h2
          show PyData.eqvAll (pd x :: pds xs) (pd y :: pds ys) = (eqvD x y && eqvDs xs ys)
          rw [← ih x y h1.1 h2.1, ← ih2 ys h1.2 h2.2]
          rfl
    intro d e h1 h2
    cases d with
    | tup l =>
      cases e with
      | tup m =>
        show PyData.eqvAll (pds l) (pds m) = eqvDs l m
        exact all l m h1 h2
      | _ => first | (cases h2; done) | rfl
    | lst l =>
      cases e with
      | lst m =>
        show PyData.eqvAll (pds l) (pds m) = eqvDs l m
        exact all l m h1 h2
      | _ => first | (cases h2; done) | rfl
    | _ => first | (cases h1; done) | (cases e <;> first | (cases h2; done) | (unfold pd eqvD PyData.eqv; rfl) | rfl)
/-- the scalars -/
def scE : D → D → Option Bool
  | .str x, .str y => some (x == y)
  | .int x, .int y => some (x == y)
  | .bl x, .bl y => some (x == y)
  | .non, .non => some true
  | .non, .str _ => some false | .str _, .non => some false
  | .non, .int _ => some false | .int _, .non => some false
  | .non, .bl _ => some false | .bl _, .non => some false
  | .int _, .str _ => some false | .str _, .int _ => some false
  | .bl _, .str _ => some false | .str _, .bl _ => some false
  | _, _ => none
def dEqB (d e : D) : Option Bool := match scE d e with
  | some b => some b
  | none => if dd 8 d = true ∧ dd 8 e = true then some (eqvD d e) else none
def dEq (d e : D) : Option D := (dEqB d e).map D.bl
def dNe (d e : D) : Option D := (dEqB d e).map fun b => D.bl (!b)
theorem shaped_pd {d : D} (h : dd 8 d = true) : SeqAt.shaped (pd d) = true := by
  obtain ⟨h1, h2⟩ := canLay_pd 8 d h
  unfold SeqAt.shaped
  rw [h1]
  exact decide_eq_true (by omega)
def rEqA (K : PySem.W.Frag) : R2 := fun x y H Q => rEq x y H Q ∨ rEqD K x y H Q
def rNeA (K : PySem.W.Frag) : R2 := fun x y H Q => rNe x y H Q ∨ rNeD K x y H Q
theorem op_eqA {X : Cx} (hu : X.A.units + 64 < cLine) : OpR X (compareOp .Eq) (rEqA X.K) := op_eq.or (op_eqD hu)
theorem op_neA {X : Cx} (hu : X.A.units + 64 < cLine) : OpR X (compareOp .NotEq) (rNeA X.K) := op_ne.or (op_neD hu)
theorem sc_rep {G : Gx} {B : Hp} {ρ : List Addr} {d e : D} {b : Bool} {x y : V} (h : scE d e = some b) (r1 : Rep G B ρ d x) (r2 : Rep G B ρ e y) : scal x y = true ∧ decide (x = y) = b := by
  cases d <;> cases e <;> first
    | (cases h; done)
    | (cases (show x = _ from r1); cases (show y = _ from r2); refine ⟨rfl, ?_⟩; cases h; first | rfl | exact dec_int | exact dec_bl | exact dec_str)
theorem o_eq {G : Gx} : Op2 G (rEqA G.K) dEq := fun B H ρ d1 d2 d x y Q s r1 r2 e q => by
  unfold dEq dEqB at e
  cases c : scE d1 d2 with
  | some b =>
    rw [c] at e
    obtain ⟨h1, h2⟩ := sc_rep c r1 r2
    refine .inl ⟨h1, ?_⟩
    rw [h2]
    exact q _ (some_rep e rfl)
  | none =>
    rw [c] at e
    dsimp only at e
    by_cases c : dd 8 d1 = true ∧ dd 8 d2 = true
    · rw [if_pos c] at e
      refine .inr ⟨pd d1, pd d2, dp_of H s 8 d1 x c.1 r1, dp_of H s 8 d2 y c.2 r2, shaped_pd c.1, shaped_pd c.2, ?_⟩
      rw [eqv_pd 8 d1 d2 c.1 c.2]
      exact q _ (some_rep e rfl)
    · rw [if_neg c] at e
      cases e
theorem o_ne {G : Gx} : Op2 G (rNeA G.K) dNe := fun B H ρ d1 d2 d x y Q s r1 r2 e q => by
  unfold dNe dEqB at e
  cases c : scE d1 d2 with
  | some b =>
    rw [c] at e
    obtain ⟨h1, h2⟩ := sc_rep c r1 r2
    refine .inl ⟨h1, ?_⟩
    rw [h2]
    exact q _ (some_rep e rfl)
  | none =>
    rw [c] at e
    dsimp only at e
    by_cases c : dd 8 d1 = true ∧ dd 8 d2 = true
    · rw [if_pos c] at e
      refine .inr ⟨pd d1, pd d2, dp_of H s 8 d1 x c.1 r1, dp_of H s 8 d2 y c.2 r2, shaped_pd c.1, shaped_pd c.2, ?_⟩
      rw [eqv_pd 8 d1 d2 c.1 c.2]
      exact q _ (some_rep e rfl)
    · rw [if_neg c] at e
      cases e
/-! ### is None -/
def isNonD : D → Bool
  | .non => true
  | _ => false
def dIs (d e : D) : Option D := match e with
  | .non => some (.bl (isNonD d))
  | _ => none
def dIsNot (d e : D) : Option D := match e with
  | .non => some (.bl (!isNonD d))
  | _ => none
theorem isNon_rep {G : Gx} {B : Hp} {ρ : List Addr} {d : D} {x : V} (r : Rep G B ρ d x) : decide (x = .non) = isNonD d := by
  cases d with
  | non =>
    have e : x = .non := r
    rw [e]
    rfl
  | bl b =>
    have e : x = .bl b := r
    rw [e]
    rfl
  | int b =>
    have e : x = .int b := r
    rw [e]
    rfl
  | str b =>
    have e : x = .str b := r
    rw [e]
    rfl
  | tup l =>
    obtain ⟨p, _, rfl, _⟩ := r
    rfl
  | lst l =>
    obtain ⟨p, _, rfl, _⟩ := r
    rfl
  | obj c ns l =>
    obtain ⟨p, _, _, rfl, _⟩ := r
    rfl
  | exc c ns l =>
    obtain ⟨p, _, rfl, _⟩ := r
    rfl
  | loc n =>
    obtain ⟨p, _, rfl⟩ := r
    rfl
  | scr n =>
    obtain ⟨p, rfl, _⟩ := r
    rfl
theorem o_is {G : Gx} : Op2 G (fun x y H Q => y = .non ∧ Q (.bl (decide (x = .non))) H) dIs := fun B H ρ d1 d2 d x y Q s r1 r2 e q => by
  cases d2 with
  | non =>
    refine ⟨r2, ?_⟩
    rw [isNon_rep r1]
    exact q _ (some_rep e rfl)
  | _ => cases e
theorem o_isNot {G : Gx} : Op2 G (fun x y H Q => y = .non ∧ Q (.bl (!decide (x = .non))) H) dIsNot := fun B H ρ d1 d2 d x y Q s r1 r2 e q => by
  cases d2 with
  | non =>
    refine ⟨r2, ?_⟩
    rw [isNon_rep r1]
    exact q _ (some_rep e rfl)
  | _ => cases e
end DL

namespace DL
open PySem L2

/-! ## calls of built-ins -/
def CallN (G : Gx) (r : List V → Hp → VK → Prop) (g : Sto → List D → Option New) : Prop := ∀ (ρ R : List Addr) (B H : Hp) (a : Sto) (ds : List D) (nw : New) (vs : List V) (Q : VK), Wd G B H ρ a R → Reps G B ρ ds vs → g a ds = some nw → NewK G B H ρ nw Q → r vs H Q
def cN (g : Sto → List D → Option New) (f : EA) : EM := fun δ a => (f δ a).bind fun ds a1 => match g a1 ds with | some nw => .ok nw.m a1 | none => .stuck
def cV (g : Sto → List D → Option New) (f : EA) : EV := fun δ a => (f δ a).bind fun ds a1 => match g a1 ds with | some nw => .ok nw.d a1 | none => .stuck
section
variable {X : Cx} {G : Gx} {W : WX} {e : Expr} {es : List Expr} {fa : EA} {p pos : Pos} {r : List V → Hp → VK → Prop} {g : Sto → List D → Option New} {id T : String} {x : Str}
theorem MOk.callN {ta : TA} (o : CallN G r g) (ha : AOk G W ta fa) : MOk G W (fun σ H Q => ta σ H fun vs H1 => r vs H1 Q) (cN g fa) := fun ρ R B H σ δ a Q w sl q =>
  ha ρ R B H σ δ a _ w sl (Fin.imp (Fin.seqM q) fun ds a1 B1 H1 w1 s1 k1 q1 vs r1 => by
    cases e : g a1 ds with
    | none =>
      rw [e] at q1
      exact q1.elim
    | some nw =>
      rw [e] at q1
      exact o ρ R B1 H1 a1 ds nw vs Q w1 r1 e (FinM.new w1 q1))
theorem VOk.callN {ta : TA} (o : CallN G r g) (ha : AOk G W ta fa) : VOk G W (fun σ H Q => ta σ H fun vs H1 => r vs H1 Q) (cV g fa) := fun ρ R B H σ δ a Q w sl q =>
  ha ρ R B H σ δ a _ w sl (Fin.imp (Fin.seq q) fun ds a1 B1 H1 w1 s1 k1 q1 vs r1 => by
    cases e : g a1 ds with
    | none =>
      rw [e] at q1
      exact q1.elim
    | some nw =>
      rw [e] at q1
      exact o ρ R B1 H1 a1 ds nw vs Q w1 r1 e (Fin.new w1 q1))
theorem dm_callB (hc : CallR X (.builtin id) r) (o : CallN G r g) (hg : Gl X x) (hm : X.mg x = none) (hv : bootBuiltins x = some (.builtin id)) (ha : DA X G W (e :: es) fa) (hn : x ≠ "__name__" := by decide) (hdb : (x == ("__debug__" : Str)) = false := by decide)
    (hs : starEach (e :: es) X.env = (false, eval e X.env) :: starEach es X.env := by rfl) (hp : (backTo pos (starEach es X.env)).any (·.1) = false := by rfl) : DM X G W (.Call (.Name x p) (e :: es) [] pos) (cN g fa) := by
  obtain ⟨ta, pa, sa⟩ := ha.ex
  exact ⟨_, pe_callB hc hg hm hv pa hn hdb hs hp, MOk.callN o sa⟩
theorem dv_callB (hc : CallR X (.builtin id) r) (o : CallN G r g) (hg : Gl X x) (hm : X.mg x = none) (hv : bootBuiltins x = some (.builtin id)) (ha : DA X G W (e :: es) fa) (hn : x ≠ "__name__" := by decide) (hdb : (x == ("__debug__" : Str)) = false := by decide)
    (hs : starEach (e :: es) X.env = (false, eval e X.env) :: starEach es X.env := by rfl) (hp : (backTo pos (starEach es X.env)).any (·.1) = false := by rfl) : DV X G W (.Call (.Name x p) (e :: es) [] pos) (cV g fa) := by
  obtain ⟨ta, pa, sa⟩ := ha.ex
  exact ⟨_, pe_callB hc hg hm hv pa hn hdb hs hp, VOk.callN o sa⟩
theorem dm_callT (hc : CallR X (.type T) r) (o : CallN G r g) (hg : Gl X x) (hm : X.mg x = none) (hv : bootBuiltins x = some (.type T)) (ha : DA X G W (e :: es) fa) (hn : x ≠ "__name__" := by decide) (hdb : (x == ("__debug__" : Str)) = false := by decide)
    (hs : starEach (e :: es) X.env = (false, eval e X.env) :: starEach es X.env := by rfl) (hp : (backTo pos (starEach es X.env)).any (·.1) = false := by rfl) : DM X G W (.Call (.Name x p) (e :: es) [] pos) (cN g fa) := by
  obtain ⟨ta, pa, sa⟩ := ha.ex
  exact ⟨_, pe_callTy hc hg hm hv pa hn hdb hs hp, MOk.callN o sa⟩
theorem dv_callT (hc : CallR X (.type T) r) (o : CallN G r g) (hg : Gl X x) (hm : X.mg x = none) (hv : bootBuiltins x = some (.type T)) (ha : DA X G W (e :: es) fa) (hn : x ≠ "__name__" := by decide) (hdb : (x == ("__debug__" : Str)) = false := by decide)
    (hs : starEach (e :: es) X.env = (false, eval e X.env) :: starEach es X.env := by rfl) (hp : (backTo pos (starEach es X.env)).any (·.1) = false := by rfl) : DV X G W (.Call (.Name x p) (e :: es) [] pos) (cV g fa) := by
  obtain ⟨ta, pa, sa⟩ := ha.ex
  exact ⟨_, pe_callTy hc hg hm hv pa hn hdb hs hp, VOk.callN o sa⟩
end

/-! ### one argument, two arguments -/
theorem Reps.one {G : Gx} {B : Hp} {ρ : List Addr} {d : D} {vs : List V} (h : Reps G B ρ [d] vs) : ∃ x, vs = [x] ∧ Rep G B ρ d x := by
  obtain ⟨x, r, rfl, h2, h3⟩ := h
  have e : r = [] := h3
  subst e
  exact ⟨x, rfl, h2⟩
theorem Reps.two {G : Gx} {B : Hp} {ρ : List Addr} {d e : D} {vs : List V} (h : Reps G B ρ [d, e] vs) : ∃ x y, vs = [x, y] ∧ Rep G B ρ d x ∧ Rep G B ρ e y := by
  obtain ⟨x, r, rfl, h2, h3⟩ := h
  obtain ⟨y, rfl, h4⟩ := Reps.one h3
  exact ⟨x, y, rfl, h2, h4⟩
def un1 (g : Sto → D → Option New) (a : Sto) : List D → Option New
  | [d] => g a d
  | _ => none
def bi2 (g : Sto → D → D → Option New) (a : Sto) : List D → Option New
  | [d, e] => g a d e
  | _ => none
theorem CallN.un {G : Gx} {r : List V → Hp → VK → Prop} {g : Sto → D → Option New} (h : ∀ (ρ R : List Addr) (B H : Hp) (a : Sto) (d : D) (nw : New) (x : V) (Q : VK), Wd G B H ρ a R → Rep G B ρ d x → g a d = some nw → NewK G B H ρ nw Q → r [x] H Q) : CallN G r (un1 g) :=
  fun ρ R B H a ds nw vs Q w rs e q => by
    match ds, e, rs with
    | [], e, rs => cases e
    | [d], e, rs =>
      obtain ⟨x, rfl, r1⟩ := rs.one
      exact h ρ R B H a d nw x Q w r1 e q
    | _ :: _ :: _, e, rs => cases e
theorem CallN.bi {G : Gx} {r : List V → Hp → VK → Prop} {g : Sto → D → D → Option New} (h : ∀ (ρ R : List Addr) (B H : Hp) (a : Sto) (d d' : D) (nw : New) (x y : V) (Q : VK), Wd G B H ρ a R → Rep G B ρ d x → Rep G B ρ d' y → g a d d' = some nw → NewK G B H ρ nw Q → r [x, y] H Q) : CallN G r (bi2 g) :=
  fun ρ R B H a ds nw vs Q w rs e q => by
    match ds, e, rs with
    | [], e, rs => cases e
    | [d], e, rs => cases e
    | [d, d'], e, rs =>
      obtain ⟨x, y, rfl, r1, r2⟩ := rs.two
      exact h ρ R B H a d d' nw x y Q w r1 r2 e q
    | _ :: _ :: _ :: _, e, rs => cases e
theorem Wd.loc {G : Gx} {B H : Hp} {ρ R : List Addr} {a : Sto} {n : Nat} {l : List Int} {x : V} (w : Wd G B H ρ a R) (h : a[n]? = some (.nums l)) (r : Rep G B ρ (.loc n) x) : ∃ p, x = .ref p ∧ ρ[n]? = some p ∧ H p = some (.lst (l.map V.int)) := by
  obtain ⟨p, h1, rfl⟩ := r
  exact ⟨p, rfl, h1, w.ints h1 h⟩
/-! ### len -/
def gLen (a : Sto) : D → Option New
  | .str s => if s.length ≤ 100000 then some (.val (.int s.length)) else none
  | .tup l => some (.val (.int l.length))
  | .lst l => some (.val (.int l.length))
  | .scr l => some (.val (.int l.length))
  | .loc n => match a[n]? with
    | some (.nums l) => some (.val (.int l.length))
    | _ => none
  | _ => none
theorem c_len {G : Gx} : CallN G (fun xs H Q => ∃ x n, xs = [x] ∧ LenV G.K x H n ∧ Q (.int n) H) (un1 gLen) := .un fun ρ R B H a d nw x Q w r e q => by
  cases d with
  | str s =>
    dsimp only [gLen] at e
    by_cases c : s.length ≤ 100000
    · rw [if_pos c] at e
      cases e
      have e' : x = .str s := r
      subst e'
      exact ⟨_, s.length, rfl, ⟨lim c, rfl⟩, q _ rfl⟩
    · rw [if_neg c] at e
      cases e
  | tup l =>
    cases e
    obtain ⟨p, xs, rfl, h1, h2⟩ := r
    exact ⟨_, l.length, rfl, .inr ⟨xs, sqt_same w.ex h1, h2.len⟩, q _ rfl⟩
  | lst l =>
    cases e
    obtain ⟨p, xs, rfl, h1, h2⟩ := r
    exact ⟨_, l.length, rfl, .inl ⟨xs, SqL.of (w.ex _ _ h1), h2.len⟩, q _ rfl⟩
  | scr l =>
    cases e
    obtain ⟨p, rfl, h1⟩ := r
    exact ⟨_, l.length, rfl, .inl ⟨_, w.ex.seq h1, by rw [List.length_map]⟩, q _ rfl⟩
  | loc n =>
    dsimp only [gLen] at e
    cases c : a[n]? with
    | none =>
      rw [c] at e
      cases e
    | some cl =>
      rw [c] at e
      cases cl with
      | obj _ _ _ => cases e
      | nums l =>
        cases e
        obtain ⟨p, rfl, _, h2⟩ := w.loc c r
        exact ⟨_, l.length, rfl, .inl ⟨_, SqL.of h2, by rw [List.length_map]⟩, q _ rfl⟩
  | _ => cases e

/-! ### int, abs, min, max, str, list, tuple -/
def gInt (_ : Sto) : D → Option New
  | .int i => some (.val (.int i))
  | .bl b => some (.val (.int (if b then 1 else 0)))
  | .str s => if s.length ≤ 640 then (PySem.intText? s).map fun n => .val (.int n) else none
  | _ => none
def rIntA : List V → Hp → VK → Prop := fun xs H Q => (fun xs H Q => (∃ i, xs = [V.int i] ∧ Q (.int i) H) ∨ ∃ k, xs = [V.bl k] ∧ Q (.int (if k then 1 else 0)) H) xs H Q ∨ (fun xs H Q => ∃ a n, xs = [V.str a] ∧ PySem.intText? a = some n ∧ a.length ≤ 640 ∧ Q (.int n) H) xs H Q
theorem call_intA {X : Cx} : CallR X (.type "int") rIntA := call_int1.or call_int_str
theorem c_int {G : Gx} : CallN G rIntA (un1 gInt) := .un fun ρ R B H a d nw x Q w r e q => by
  cases d with
  | int i =>
    cases e
    have e' : x = .int i := r
    subst e'
    exact .inl (.inl ⟨i, rfl, q _ rfl⟩)
  | bl b =>
    cases e
    have e' : x = .bl b := r
    subst e'
    exact .inl (.inr ⟨b, rfl, q _ rfl⟩)
  | str s =>
    dsimp only [gInt] at e
    by_cases c : s.length ≤ 640
    · rw [if_pos c] at e
      cases c2 : PySem.intText? s with
      | none =>
        rw [c2] at e
        cases e
      | some n =>
        rw [c2] at e
        cases e
        have e' : x = .str s := r
        subst e'
        exact .inr ⟨s, n, rfl, c2, c, q _ rfl⟩
    · rw [if_neg c] at e
      cases e
  | _ => cases e
def gAbs (_ : Sto) : D → Option New
  | .int i => some (.val (.int (if i < 0 then -i else i)))
  | _ => none
theorem c_abs {G : Gx} : CallN G (fun xs H Q => ∃ i, xs = [.int i] ∧ Q (.int (if i < 0 then -i else i)) H) (un1 gAbs) := .un fun ρ R B H a d nw x Q w r e q => by
  cases d with
  | int i =>
    cases e
    have e' : x = .int i := r
    subst e'
    exact ⟨i, rfl, q _ rfl⟩
  | _ => cases e
def gMin2 (_ : Sto) : D → D → Option New
  | .int i, .int j => some (.val (.int (if j < i then j else i)))
  | _, _ => none
def gMax2 (_ : Sto) : D → D → Option New
  | .int i, .int j => some (.val (.int (if j > i then j else i)))
  | _, _ => none
theorem c_min2 {G : Gx} : CallN G (fun xs H Q => ∃ i j, xs = [.int i, .int j] ∧ Q (.int (if j < i then j else i)) H) (bi2 gMin2) := .bi fun ρ R B H a d d2 nw x y Q w r1 r2 e q => by
  cases d with
  | int i =>
    cases d2 with
    | int j =>
      cases e
      have e1 : x = .int i := r1
      have e2 : y = .int j := r2
      subst e1 e2
      exact ⟨i, j, rfl, q _ rfl⟩
    | _ => cases e
  | _ => cases e
theorem c_max2 {G : Gx} : CallN G (fun xs H Q => ∃ i j, xs = [.int i, .int j] ∧ Q (.int (if j > i then j else i)) H) (bi2 gMax2) := .bi fun ρ R B H a d d2 nw x y Q w r1 r2 e q => by
  cases d with
  | int i =>
    cases d2 with
    | int j =>
      cases e
      have e1 : x = .int i := r1
      have e2 : y = .int j := r2
      subst e1 e2
      exact ⟨i, j, rfl, q _ rfl⟩
    | _ => cases e
  | _ => cases e
def gTuple (_ : Sto) : D → Option New
  | .tup l => some (.val (.tup l))
  | .lst l => some (.tup l)
  | _ => none
theorem c_tuple {G : Gx} : CallN G (fun xs H Q => ∃ p ys, xs = [.ref p] ∧ ((SqL G.K H p ys ∧ ∀ l, H l = none → Q (.ref l) (upd H l (.tup ys))) ∨ (SqT G.K H p ys ∧ Q (.ref p) H))) (un1 gTuple) := .un fun ρ R B H a d nw x Q w r e q => by
  cases d with
  | tup l =>
    cases e
    obtain ⟨p, xs, rfl, h1, h2⟩ := r
    exact ⟨p, xs, rfl, .inr ⟨sqt_same w.ex h1, q _ ⟨p, xs, rfl, h1, h2⟩⟩⟩
  | lst l =>
    cases e
    obtain ⟨p, xs, rfl, h1, h2⟩ := r
    exact ⟨p, xs, rfl, .inl ⟨SqL.of (w.ex _ _ h1), fun o ho => q o xs ho h2⟩⟩
  | _ => cases e
def gList (_ : Sto) : D → Option New
  | .tup l => some (.lst l)
  | .lst l => some (.lst l)
  | .scr l => some (.lst (l.map D.int))
  | _ => none
theorem c_list {G : Gx} : CallN G (fun xs H Q => ∃ p ys, xs = [.ref p] ∧ (SqL G.K H p ys ∨ SqT G.K H p ys) ∧ ∀ l, H l = none → Q (.ref l) (upd H l (.lst ys))) (un1 gList) := .un fun ρ R B H a d nw x Q w r e q => by
  cases d with
  | tup l =>
    cases e
    obtain ⟨p, xs, rfl, h1, h2⟩ := r
    exact ⟨p, xs, rfl, .inr (sqt_same w.ex h1), fun o ho => q o xs ho h2⟩
  | lst l =>
    cases e
    obtain ⟨p, xs, rfl, h1, h2⟩ := r
    exact ⟨p, xs, rfl, .inl (SqL.of (w.ex _ _ h1)), fun o ho => q o xs ho h2⟩
  | scr l =>
    cases e
    obtain ⟨p, rfl, h1⟩ := r
    exact ⟨p, _, rfl, .inl (w.ex.seq h1), fun o ho => q o _ ho (Reps.ints.mpr rfl)⟩
  | _ => cases e
/-- str(n), str(text) -/
def gStr (_ : Sto) : D → Option New
  | .int i => if i.natAbs.log2 < 1920 then some (.val (.str (Str.ofString (toString i)))) else none
  | .str s => some (.val (.str s))
  | _ => none
def rStrA : List V → Hp → VK → Prop := fun xs H Q => (fun xs H Q => ∃ i : Int, xs = [V.int i] ∧ i.natAbs.log2 < 1920 ∧ Q (.str (Str.ofString (toString i))) H) xs H Q ∨ (fun xs H Q => ∃ a, xs = [V.str a] ∧ Q (.str a) H) xs H Q
theorem call_strA {X : Cx} : CallR X (.type "str") rStrA := call_str_int.or SkE.call_str_str
theorem c_str {G : Gx} : CallN G rStrA (un1 gStr) := .un fun ρ R B H a d nw x Q w r e q => by
  cases d with
  | int i =>
    dsimp only [gStr] at e
    by_cases c : i.natAbs.log2 < 1920
    · rw [if_pos c] at e
      cases e
      have e' : x = .int i := r
      subst e'
      exact .inl ⟨i, rfl, c, q _ rfl⟩
    · rw [if_neg c] at e
      cases e
  | str s =>
    cases e
    have e' : x = .str s := r
    subst e'
    exact .inr ⟨s, rfl, q _ rfl⟩
  | _ => cases e

/-! ## index, slice -/
def dIx (a : Sto) : D → D → Option New
  | .tup l, .int i => (atI l i).map New.val
  | .lst l, .int i => (atI l i).map New.val
  | .scr l, .int i => (atI l i).map fun n => .val (.int n)
  | .loc n, .int i => match a[n]? with
    | some (.nums l) => (atI l i).map fun n => .val (.int n)
    | _ => none
  | .str z, .int i => if z.length ≤ 100000 then (atI z.cps.toList i).map fun c => .val (.str ⟨#[c]⟩) else none
  | _, _ => none
theorem Reps.atI {G : Gx} {B : Hp} {ρ : List Addr} {l : List D} {xs : List V} {i : Int} {d : D} (h : Reps G B ρ l xs) (e : L2.atI l i = some d) : ∃ x, L2.atI xs i = some x ∧ Rep G B ρ d x := by
  unfold L2.atI at e ⊢
  rw [← h.len]
  cases c : ixN l.length i with
  | none =>
    rw [c] at e
    cases e
  | some j =>
    rw [c] at e
    exact h.get e
theorem atI_map {α β : Type} {f : α → β} {l : List α} {i : Int} {x : α} (c : L2.atI l i = some x) : L2.atI (l.map f) i = some (f x) := by
  unfold L2.atI at c ⊢
  rw [List.length_map]
  cases c2 : ixN l.length i with
  | none =>
    rw [c2] at c
    cases c
  | some j =>
    rw [c2] at c
    show (l.map f)[j]? = some (f x)
    rw [List.getElem?_map, show l[j]? = some x from c] <;> rfl
theorem o_ix {G : Gx} : OpS G (rIx G.K) dIx := fun ρ R B H a d1 d2 nw x y Q w r1 r2 e q => by
  cases d2 with
  | int i =>
    have e2 : y = .int i := r2
    subst e2
    cases d1 with
    | tup l =>
      dsimp only [dIx] at e
      cases c : L2.atI l i with
      | none =>
        rw [c] at e
        cases e
      | some d =>
        rw [c] at e
        cases e
        obtain ⟨p, xs, rfl, h1, h2⟩ := r1
        obtain ⟨v, h3, h4⟩ := h2.atI c
        exact .inr (.inl ⟨p, xs, i, v, rfl, rfl, sqt_same w.ex h1, h3, q v h4⟩)
    | lst l =>
      dsimp only [dIx] at e
      cases c : L2.atI l i with
      | none =>
        rw [c] at e
        cases e
      | some d =>
        rw [c] at e
        cases e
        obtain ⟨p, xs, rfl, h1, h2⟩ := r1
        obtain ⟨v, h3, h4⟩ := h2.atI c
        exact .inl ⟨p, xs, i, v, rfl, rfl, SqL.of (w.ex _ _ h1), h3, q v h4⟩
    | scr l =>
      dsimp only [dIx] at e
      cases c : L2.atI l i with
      | none =>
        rw [c] at e
        cases e
      | some n =>
        rw [c] at e
        cases e
        obtain ⟨p, rfl, h1⟩ := r1
        exact .inl ⟨p, _, i, .int n, rfl, rfl, w.ex.seq h1, atI_map c, q _ rfl⟩
    | loc n =>
      dsimp only [dIx] at e
      cases c0 : a[n]? with
      | none =>
        rw [c0] at e
        cases e
      | some cl =>
        rw [c0] at e
        cases cl with
        | obj _ _ _ => cases e
        | nums l =>
          dsimp only at e
          cases c : L2.atI l i with
          | none =>
            rw [c] at e
            cases e
          | some k =>
            rw [c] at e
            cases e
            obtain ⟨p, rfl, _, h1⟩ := w.loc c0 r1
            exact .inl ⟨p, _, i, .int k, rfl, rfl, SqL.of h1, atI_map c, q _ rfl⟩
    | str z =>
      dsimp only [dIx] at e
      by_cases c0 : z.length ≤ 100000
      · rw [if_pos c0] at e
        cases c : L2.atI z.cps.toList i with
        | none =>
          rw [c] at e
          cases e
        | some k =>
          rw [c] at e
          cases e
          exact .inr (.inr ⟨z, i, k, r1, rfl, lim c0, c, q _ rfl⟩)
      · rw [if_neg c0] at e
        cases e
    | _ => cases e
  | _ => cases d1 <;> cases e
section
variable {X : Cx} {G : Gx} {W : WX} {e1 e2 : Expr} {fa fb : EV} {pos : Pos}
theorem dv_ix (hK : G.K = X.K) (ha : DV X G W e1 fa) (hb : DV X G W e2 fb) (hs : PlainIx e2) : DV X G W (.Subscript e1 e2 pos) (vS dIx fa fb) := by
  obtain ⟨ta, pa, sa⟩ := ha.ex
  obtain ⟨tb, pb, sb⟩ := hb.ex
  exact ⟨_, pe_ix ix_seq pa pb hs, VOk.opS (by rw [← hK]; exact o_ix) sa sb⟩
end
/-! slices -/
def cutG {α : Type} (xs : List α) (lo hi : Option Int) : List α := (xs.drop (HT.sIx xs.length 0 lo)).take (HT.sIx xs.length xs.length hi - HT.sIx xs.length 0 lo)
def dSl (d : D) (lo hi : Option Int) : Option New := match d with
  | .lst l => some (.lst (cutG l lo hi))
  | .tup l => if HT.sIx l.length 0 lo = 0 ∧ HT.sIx l.length l.length hi = l.length then some (.val (.tup l)) else some (.tup (cutG l lo hi))
  | .str z => if z.length ≤ 100000 then some (.val (.str (cutS z lo hi))) else none
  | _ => none
theorem Reps.cut {G : Gx} {B : Hp} {ρ : List Addr} {l : List D} {xs : List V} (h : Reps G B ρ l xs) (lo hi : Option Int) : Reps G B ρ (cutG l lo hi) (cutV xs lo hi) := by
  unfold cutG cutV
  rw [← h.len]
  exact (h.drop _).take _
def rSlA3 (K : PySem.W.Frag) : V → Option Int → Option Int → Hp → VK → Prop := fun x lo hi H Q => rSlL K x lo hi H Q ∨ rSlA K x lo hi H Q ∨ rSlS x lo hi H Q
theorem sl_all {X : Cx} : SlR X (rSlA3 X.K) := sl_list.or (sl_tupA.or sl_str)
abbrev EO := Sw → Sto → Out (Option Int)
structure DO (X : Cx) (G : Gx) (W : WX) (e : Option Expr) (f : EO) : Prop where
  ex : ∃ t, PO X e t ∧ ∀ (ρ R : List Addr) (B H : Hp) (σ : St) (δ : Sw) (a : Sto) (Q : Option Int → Hp → Prop), Wd G B H ρ a R → Sls G B ρ δ σ → Fin G W ρ R B H σ (f δ a) (fun o _ _ H' => Q o H') → t σ H Q
def asI : D → Option (Option Int)
  | .int i => some (some i)
  | _ => none
def oNo : EO := fun _ a => .ok none a
def oSome (f : EV) : EO := fun δ a => (f δ a).opt asI
section
variable {X : Cx} {G : Gx} {W : WX} {e : Expr} {f : EV}
theorem do_no : DO X G W none oNo := ⟨_, po_none, fun ρ R B H σ δ a Q w sl q => q.here w⟩
theorem do_some (h : DV X G W e f) : DO X G W (some e) (oSome f) := by
  obtain ⟨t, p, s⟩ := h.ex
  refine ⟨_, po_some p, fun ρ R B H σ δ a Q w sl q => s ρ R B H σ δ a _ w sl (Fin.imp (Fin.seqo q) fun d a1 B1 H1 w1 s1 k1 q1 x r => ?_)⟩
  obtain ⟨o, e, q2⟩ := q1
  cases d with
  | int i =>
    cases e
    exact ⟨i, r, q2⟩
  | _ => cases e
def slN (fe : EV) (fl fh : EO) : EM := fun δ a => (fe δ a).bind fun d a1 => (fl δ a1).bind fun lo a2 => (fh δ a2).bind fun hi a3 => match dSl d lo hi with | some nw => .ok nw.m a3 | none => .stuck
theorem sl_ok {B H : Hp} {ρ R : List Addr} {a : Sto} {d : D} {lo hi : Option Int} {nw : New} {x : V} {Q : VK} (w : Wd G B H ρ a R) (r : Rep G B ρ d x) (e : dSl d lo hi = some nw) (q : NewK G B H ρ nw Q) : rSlA3 G.K x lo hi H Q := by
  cases d with
  | lst l =>
    cases e
    obtain ⟨p, xs, rfl, h1, h2⟩ := r
    exact .inl ⟨p, xs, rfl, SqL.of (w.ex _ _ h1), fun o ho => q o _ ho (h2.cut lo hi)⟩
  | tup l =>
    dsimp only [dSl] at e
    obtain ⟨p, xs, rfl, h1, h2⟩ := r
    have hl := h2.len
    refine .inr (.inl ⟨p, xs, rfl, sqt_same w.ex h1, fun c => ?_, fun c o ho => ?_⟩)
    · rw [← hl] at c
      rw [if_pos c] at e
      cases e
      exact q _ ⟨p, xs, rfl, h1, h2⟩
    · rw [← hl] at c
      rw [if_neg c] at e
      cases e
      exact q o _ ho (h2.cut lo hi)
  | str z =>
    dsimp only [dSl] at e
    by_cases c : z.length ≤ 100000
    · rw [if_pos c] at e
      cases e
      exact .inr (.inr ⟨z, r, lim c, q _ rfl⟩)
    · rw [if_neg c] at e
      cases e
  | _ => cases e
theorem dm_slice {lo hi : Option Expr} {fl fh : EO} {p2 pos : Pos} (hK : G.K = X.K) (he : DV X G W e f) (hl : DO X G W lo fl) (hh : DO X G W hi fh) : DM X G W (.Subscript e (.Slice lo hi none p2) pos) (slN f fl fh) := by
  obtain ⟨t, p, s⟩ := he.ex
  obtain ⟨t1, p1, s1⟩ := hl.ex
  obtain ⟨t2, p3, s2⟩ := hh.ex
  refine ⟨_, pe_slice sl_all p p1 p3, fun ρ R B H σ δ a Q w sl q => s ρ R B H σ δ a _ w sl (Fin.imp (Fin.seqM q) fun d a1 B1 H1 w1 sm1 k1 q1 x r => ?_)⟩
  refine s1 ρ R B1 H1 σ δ a1 _ w1 (sl.mono sm1) (Fin.imp (Fin.seqM q1) fun lo a2 B2 H2 w2 sm2 k2 q2 => ?_)
  refine s2 ρ R B2 H2 σ δ a2 _ w2 ((sl.mono sm1).mono sm2) (Fin.imp (Fin.seqM q2) fun hi a3 B3 H3 w3 sm3 k3 q3 => ?_)
  rw [← hK]
  cases e : dSl d lo hi with
  | none =>
    rw [e] at q3
    exact q3.elim
  | some nw =>
    rw [e] at q3
    exact sl_ok w3 (Rep.mono (sm2.trans sm3) d x r) e (FinM.new w3 q3)
end

/-! ## displays -/
def lNil : EL := fun _ a => .ok [] a
def lCons (f : EM) (g : EL) : EL := fun δ a => (f δ a).bind fun m a1 => (g δ a1).map fun ms => m :: ms
theorem FinM.seqL {G : Gx} {W : WX} {ρ R : List Addr} {B H : Hp} {σ : St} {o : Out M} {f : M → Sto → Out (List M)} {k : List M → Sto → Hp → Hp → List V → List Addr → Prop} (h : FinL G W ρ R B H σ (o.bind f) k) :
    FinM G W ρ R B H σ o (fun m a B' H' _ _ => FinL G W ρ R B' H' σ (f m a) k) := by
  cases o with
  | ok b a => exact fun B' H' v F w s kp _ => FinL.base (show FinL G W ρ R B H σ (f b a) k from h) s kp
  | exc c ns ds a => exact h
  | stuck => exact h
section
variable {X : Cx} {G : Gx} {W : WX} {e : Expr} {es : List Expr} {pos : Pos}
theorem dl_nil : DL X G W [] lNil := ⟨tNil, pa_nil, fun ρ R B H σ δ a Q w sl q => q B H [] [] w (Same.refl _) Kp.refl ⟨rfl, rfl⟩⟩
theorem dl_cons {f : EM} {g : EL} (h : DM X G W e f) (k : DL X G W es g) (hs : starEach (e :: es) X.env = (false, eval e X.env) :: starEach es X.env := by rfl) : DL X G W (e :: es) (lCons f g) := by
  obtain ⟨t, p, s⟩ := h.ex
  obtain ⟨u, p2, s2⟩ := k.ex
  refine ⟨_, pa_cons p p2 hs, fun ρ R B H σ δ a Q w sl q => s ρ R B H σ δ a _ w sl ?_⟩
  unfold lCons at q
  cases c : f δ a with
  | stuck =>
    rw [c] at q
    exact q
  | exc cc ns ds a' =>
    rw [c] at q
    exact q
  | ok m a1 =>
    rw [c] at q
    intro B1 H1 v F w1 s1 k1 o1
    refine s2 ρ (F ++ R) B1 H1 σ δ a1 _ w1 (sl.mono s1) ?_
    dsimp only [Out.bind] at q
    cases c2 : g δ a1 with
    | stuck =>
      rw [c2] at q
      exact q
    | exc cc ns ds a' =>
      rw [c2] at q
      exact fun B' H' dd w' s' k' x => q B' H' dd w'.drop (s1.trans s') (k1.trans k'.right) x
    | ok ms a2 =>
      rw [c2] at q
      intro B2 H2 vs F2 w2 s2' k2 o2
      refine q B2 H2 (v :: vs) (F ++ F2) (w2.perm ?_) (s1.trans s2') (k1.trans k2.right) ⟨v, vs, F, F2, rfl, rfl, Own.mono s2' m v F k2.left o1, o2⟩
      rw [← List.append_assoc]
      exact List.Perm.append_right R List.perm_append_comm
/-- [e, ..] -/
def mLst (f : EL) : EM := fun δ a => (f δ a).bind fun ms a1 => if ms.length ≤ 100000 then .ok (.lst ms) a1 else .stuck
theorem dm_lst {f : EL} (h : DL X G W es f) : DM X G W (.List es pos) (mLst f) := by
  obtain ⟨t, p, s⟩ := h.ex
  refine ⟨_, pe_lst p, fun ρ R B H σ δ a Q w sl q => s ρ R B H σ δ a _ w sl ?_⟩
  unfold mLst at q
  cases c : f δ a with
  | stuck =>
    rw [c] at q
    exact q
  | exc cc ns ds a' =>
    rw [c] at q
    exact q
  | ok ms a1 =>
    rw [c] at q
    intro B1 H1 vs F w1 s1 k1 o1
    dsimp only [Out.bind] at q
    by_cases hz : ms.length ≤ 100000
    · rw [if_pos hz] at q
      refine ⟨lim (by rw [← o1.len]; exact hz), fun l hl => ?_⟩
      exact q B1 (upd H1 l (.lst vs)) (.ref l) (l :: F) (w1.newOwn hl) s1 (k1.trans (fun q' hq => kp_new w1 hl q' (List.mem_append_right _ hq))) ⟨l, vs, F, rfl, upd_same, rfl, Owns.mono (Same.refl _) ms vs F (fun q' hq => kp_new w1 hl q' (List.mem_append_left _ hq)) o1⟩
    · rw [if_neg hz] at q
      exact q.elim
/-- (e, ..) -/
def allV : List M → Option (List D)
  | [] => some []
  | .val d :: r => (allV r).map fun ds => d :: ds
  | _ :: _ => none
theorem allV_map : ∀ ds : List D, allV (ds.map M.val) = some ds
  | [] => rfl
  | d :: ds => by
    show (allV (ds.map M.val)).map _ = _
    rw [allV_map ds] <;> rfl
theorem allV_eq : ∀ {ms : List M} {ds : List D}, allV ms = some ds → ms = ds.map M.val
  | [], ds, h => by
    cases h
    rfl
  | m :: r, ds, h => by
    cases m with
    | val d =>
      have h' : (allV r).map (fun es => d :: es) = some ds := h
      cases c : allV r with
      | none =>
        rw [c] at h'
        cases h'
      | some es =>
        rw [c] at h'
        cases h'
        rw [allV_eq c] <;> rfl
    | _ => cases h
def mkTup (ms : List M) : M := match allV ms with
  | some ds => .val (.tup ds)
  | none => .tup ms
def mTup (f : EL) : EM := fun δ a => (f δ a).bind fun ms a1 => if ms.length ≤ 100000 then .ok (mkTup ms) a1 else .stuck
theorem owns_vals {B H : Hp} {ρ : List Addr} : ∀ {ds : List D} {xs : List V} {F : List Addr}, Owns G B H ρ (ds.map M.val) xs F → F = [] ∧ Reps G B ρ ds xs
  | [], xs, F, h => ⟨h.2, h.1⟩
  | d :: ds, xs, F, h => by
    obtain ⟨x, r, F1, F2, rfl, rfl, ⟨rfl, h3⟩, h4⟩ := h
    obtain ⟨rfl, h5⟩ := owns_vals h4
    exact ⟨rfl, x, r, rfl, h3, h5⟩
theorem dm_tup {f : EL} {x1} (h : DL X G W es f) : DM X G W (.Tuple es x1 pos) (mTup f) := by
  obtain ⟨t, p, s⟩ := h.ex
  refine ⟨_, pe_tup p, fun ρ R B H σ δ a Q w sl q => s ρ R B H σ δ a _ w sl ?_⟩
  unfold mTup at q
  cases c : f δ a with
  | stuck =>
    rw [c] at q
    exact q
  | exc cc ns ds a' =>
    rw [c] at q
    exact q
  | ok ms a1 =>
    rw [c] at q
    intro B1 H1 vs F w1 s1 k1 o1
    dsimp only [Out.bind] at q
    by_cases hz : ms.length ≤ 100000
    · rw [if_pos hz] at q
      refine ⟨lim (by rw [← o1.len]; exact hz), fun l hl => ?_⟩
      unfold mkTup at q
      cases c2 : allV ms with
      | none =>
        rw [c2] at q
        exact q B1 (upd H1 l (.tup vs)) (.ref l) (l :: F) (w1.newOwn hl) s1 (k1.trans (fun q' hq => kp_new w1 hl q' (List.mem_append_right _ hq))) ⟨l, vs, F, rfl, upd_same, rfl, Owns.mono (Same.refl _) ms vs F (fun q' hq => kp_new w1 hl q' (List.mem_append_left _ hq)) o1⟩
      | some ds =>
        rw [c2] at q
        have e2 := allV_eq c2
        subst e2
        obtain ⟨rfl, o2⟩ := owns_vals o1
        exact q (upd B1 l (.tup vs)) (upd H1 l (.tup vs)) (.ref l) [] (w1.new hl) (s1.trans (same_new (w1.noneB hl))) (k1.trans (kp_new w1 hl)) ⟨rfl, l, vs, rfl, SqT.of upd_same, Reps.mono (same_new (w1.noneB hl)) ds vs o2⟩
    · rw [if_neg hz] at q
      exact q.elim
end

/-! ## attributes -/
theorem lookup_zip {G : Gx} {B : Hp} {ρ : List Addr} {f : Str} {d : D} : ∀ {ns : List Str} {ds : List D} {xs : List V}, Reps G B ρ ds xs → ns.length = xs.length → (ns.zip ds).lookup f = some d → ∃ v, (ns.zip xs).lookup f = some v ∧ Rep G B ρ d v
  | [], ds, xs, h, hl, e => by cases e
  | n :: ns, [], xs, h, hl, e => by cases e
  | n :: ns, d0 :: ds, xs, h, hl, e => by
    obtain ⟨x, r, rfl, h2, h3⟩ := h
    rw [List.zip_cons_cons, List.lookup_cons] at e ⊢
    cases c : f == n with
    | true =>
      rw [c] at e
      cases e
      exact ⟨x, rfl, h2⟩
    | false =>
      rw [c] at e
      exact lookup_zip h3 (by simpa using hl) e
/-- where a class's instances have the attribute f -/
def FldC (K : PySem.W.Frag) (T : Nat → Addr) (f : Str) (c : Nat) : Prop := Cls K (T c) ∧ NoAttr K (T c) f
def FldX (K : PySem.W.Frag) (T : Nat → Addr) (f : Str) (c : Nat) : Prop := XfC K (T c) ∧ PySem.W.findIn K (.ref (T c)) f = some none
def dFld (cs xs : List Nat) (f : Str) : D → Option D
  | .obj c ns ds => if c ∈ cs then (ns.zip ds).lookup f else none
  | .exc c ns ds => if c ∈ xs then (ns.zip ds).lookup f else none
  | _ => none
theorem pe_attr {X : Cx} {e : Expr} {te : TE} {f : Str} {pos : Pos} (he : PE X e te) (hb : attributeBase e f X.env (eval e X.env) = eval e X.env) :
    PE X (.Attribute e f pos) (fun σ H Q => te σ H fun x H1 => (∃ a C dx fs v, x = .ref a ∧ H1 a = some (.ins C dx fs) ∧ Cls X.K C ∧ NoAttr X.K C f ∧ fs.lookup f = some v ∧ Q v H1) ∨
      (∃ a C d fs v, x = .ref a ∧ H1 a = some (ExV (.ref C) (some d) a) ∧ H1 d = some (.xd fs) ∧ XfC X.K C ∧ PySem.W.findIn X.K (.ref C) f = some none ∧ fs.lookup f = some v ∧ Q v H1)) := by
  refine ⟨fun pins s σ H Q I h => ?_⟩
  refine attr_of hb (thn (he.run pins s σ H _ I h) fun u s1 ⟨x, H1, I1, rx, q⟩ => ?_)
  rcases q with ⟨a, C, dx, fs, v, rfl, ea, c, n, l, q⟩ | ⟨a, C, d, fs, v, rfl, ea, ed, T, hno, l, q⟩
  · obtain rfl : u = Value.ref a := rx
    exact getattr_ok I1 ea c n l fun w s2 I2 rw => ⟨v, H1, I2, rw, q⟩
  · obtain rfl : u = Value.ref a := rx
    obtain ⟨⟨oe, vs, ha, hz, hd⟩, _, _⟩ := I1.hok a _ ea
    have hx : ObjOk X.prog X.w H1 s1.heap d (.xd fs) := I1.hok d _ ed
    obtain ⟨mA, hns, hr⟩ := hx
    obtain ⟨od, ho, hl⟩ := lookIn_ns hns
    obtain ⟨w, hw, rw⟩ := RelO.some_of (v := v) (o := mA f) (by rw [← l]; exact hr f)
    have J : PySem.W.InstAt s1.heap a oe C (some od) := ⟨ha, hz.1, by unfold PySem.W.notCls; rw [hd] <;> rfl, by rw [hz.2]; exact ho⟩
    exact HandSPX.exc_get I1.kIn J T.ga T.gg T.exC (PySem.W.findObj_own T.hdC hno rfl (by rw [hl, hw])) (handed_of rw) ⟨v, H1, I1.tok _, rw, q⟩
section
variable {X : Cx} {G : Gx} {W : WX} {e : Expr} {pos : Pos} {fe : EV} {f : Str} {cs xs : List Nat}
theorem dv_attr (hK : G.K = X.K) (he : DV X G W e fe) (hc : ∀ c ∈ cs, FldC X.K G.T f c) (hx : ∀ c ∈ xs, FldX X.K G.T f c) (hb : attributeBase e f X.env (eval e X.env) = eval e X.env := by rfl) : DV X G W (.Attribute e f pos) (ev1 (dFld cs xs f) fe) := by
  obtain ⟨t, p, s⟩ := he.ex
  refine ⟨_, pe_attr p hb, fun ρ R B H σ δ a Q w sl q => s ρ R B H σ δ a _ w sl (Fin.imp (Fin.seqo q) fun d a1 B1 H1 w1 s1 k1 q1 x r => ?_)⟩
  obtain ⟨d', e', q2⟩ := q1
  cases d with
  | obj c ns ds =>
    dsimp only [dFld] at e'
    by_cases hm : c ∈ cs
    · rw [if_pos hm] at e'
      obtain ⟨h1, h2⟩ := hc c hm
      obtain ⟨p, dx, ys, rfl, h3, h4, h5⟩ := r
      obtain ⟨v, h6, h7⟩ := lookup_zip h5 h4 e'
      exact .inl ⟨p, _, dx, _, v, rfl, w1.ex _ _ h3, h1, h2, h6, q2 v h7⟩
    · rw [if_neg hm] at e'
      cases e'
  | exc c ns ds =>
    dsimp only [dFld] at e'
    by_cases hm : c ∈ xs
    · rw [if_pos hm] at e'
      obtain ⟨h1, h2⟩ := hx c hm
      obtain ⟨p, dd, rfl, h3, h4⟩ := r
      rcases h4 with ⟨rfl, rfl, _⟩ | ⟨d, ys, rfl, h5, h6, h7⟩
      · cases e'
      · obtain ⟨v, h8, h9⟩ := lookup_zip h7 h6 e'
        exact .inr ⟨p, _, d, _, v, rfl, w1.ex _ _ h3, w1.ex _ _ h5, h1, h2, h8, q2 v h9⟩
    · rw [if_neg hm] at e'
      cases e'
  | _ => cases e'
end
end DL

namespace DL
open PySem L2

/-! ## a frame's slots -/
abbrev SlM := List (Option M)
def OwnS (G : Gx) (B H : Hp) (ρ : List Addr) : SlM → St → List Addr → Prop
  | [], σ, F => σ = [] ∧ F = []
  | none :: δ, σ, F => ∃ o r, σ = o :: r ∧ OwnS G B H ρ δ r F
  | some m :: δ, σ, F => ∃ v r F1 F2, σ = some v :: r ∧ F = F1 ++ F2 ∧ Own G B H ρ m v F1 ∧ OwnS G B H ρ δ r F2
section
variable {G : Gx} {B B' H H' : Hp} {ρ : List Addr}
theorem OwnS.mono (e : Same B B') : ∀ (δ : SlM) (σ : St) (F : List Addr), (∀ p ∈ F, H' p = H p) → OwnS G B H ρ δ σ F → OwnS G B' H' ρ δ σ F
  | [], σ, F, k, h => h
  | none :: δ, σ, F, k, h => by
    obtain ⟨o, r, h1, h2⟩ := h
    exact ⟨o, r, h1, OwnS.mono e δ r F k h2⟩
  | some m :: δ, σ, F, k, h => by
    obtain ⟨v, r, F1, F2, h1, rfl, h2, h3⟩ := h
    exact ⟨v, r, F1, F2, h1, rfl, Own.mono e m v F1 (fun p hp => k p (List.mem_append_left _ hp)) h2, OwnS.mono e δ r F2 (fun p hp => k p (List.mem_append_right _ hp)) h3⟩
theorem OwnS.len : ∀ {δ : SlM} {σ : St} {F : List Addr}, OwnS G B H ρ δ σ F → δ.length = σ.length
  | [], σ, F, h => by
    obtain ⟨rfl, _⟩ := h
    rfl
  | none :: δ, σ, F, h => by
    obtain ⟨o, r, rfl, h2⟩ := h
    rw [List.length_cons, List.length_cons, OwnS.len h2]
  | some m :: δ, σ, F, h => by
    obtain ⟨v, r, F1, F2, rfl, rfl, h2, h3⟩ := h
    rw [List.length_cons, List.length_cons, OwnS.len h3]
theorem OwnS.there : ∀ {δ : SlM} {σ : St} {F : List Addr}, OwnS G B H ρ δ σ F → ∀ p ∈ F, (H p).isSome = true
  | [], σ, F, h, p, hp => by
    rw [h.2] at hp
    cases hp
  | none :: δ, σ, F, h, p, hp => by
    obtain ⟨o, r, rfl, h2⟩ := h
    exact OwnS.there h2 p hp
  | some m :: δ, σ, F, h, p, hp => by
    obtain ⟨v, r, F1, F2, rfl, rfl, h2, h3⟩ := h
    rcases List.mem_append.mp hp with hp | hp
    · exact Own.there m v F1 h2 p hp
    · exact OwnS.there h3 p hp
/-- a slot is stored into -/
theorem OwnS.set {m : M} {v : V} {Fm : List Addr} (hm : Own G B H ρ m v Fm) : ∀ {δ : SlM} {σ : St} {F : List Addr} {i : Nat}, OwnS G B H ρ δ σ F → i < δ.length →
    ∃ Fi Fr F', F.Perm (Fi ++ Fr) ∧ F'.Perm (Fm ++ Fr) ∧ OwnS G B H ρ (δ.set i (some m)) (σ.set i (some v)) F'
  | [], σ, F, i, h, hi => absurd hi (Nat.not_lt_zero _)
  | none :: δ, σ, F, 0, h, hi => by
    obtain ⟨o, r, rfl, h2⟩ := h
    exact ⟨[], F, Fm ++ F, List.Perm.refl _, List.Perm.refl _, v, r, Fm, F, rfl, rfl, hm, h2⟩
  | some m0 :: δ, σ, F, 0, h, hi => by
    obtain ⟨v0, r, F1, F2, rfl, rfl, h2, h3⟩ := h
    exact ⟨F1, F2, Fm ++ F2, List.Perm.refl _, List.Perm.refl _, v, r, Fm, F2, rfl, rfl, hm, h3⟩
  | none :: δ, σ, F, i + 1, h, hi => by
    obtain ⟨o, r, rfl, h2⟩ := h
    obtain ⟨Fi, Fr, F', p1, p2, h4⟩ := OwnS.set hm h2 (Nat.lt_of_succ_lt_succ hi)
    exact ⟨Fi, Fr, F', p1, p2, o, _, rfl, h4⟩
  | some m0 :: δ, σ, F, i + 1, h, hi => by
    obtain ⟨v0, r, F1, F2, rfl, rfl, h2, h3⟩ := h
    obtain ⟨Fi, Fr, F', p1, p2, h4⟩ := OwnS.set hm h3 (Nat.lt_of_succ_lt_succ hi)
    refine ⟨Fi, F1 ++ Fr, F1 ++ F', ?_, ?_, v0, _, F1, F', rfl, rfl, h2, h4⟩
    · refine (List.Perm.append_left F1 p1).trans ?_
      rw [← List.append_assoc, ← List.append_assoc]
      exact List.Perm.append_right Fr List.perm_append_comm
    · refine (List.Perm.append_left F1 p2).trans ?_
      rw [← List.append_assoc, ← List.append_assoc]
      exact List.Perm.append_right Fr List.perm_append_comm
/-- what a slot owns is taken out -/
theorem OwnS.take {m : M} : ∀ {δ : SlM} {σ : St} {F : List Addr} {i : Nat}, OwnS G B H ρ δ σ F → δ[i]? = some (some m) →
    ∃ v Fi Fr, F.Perm (Fi ++ Fr) ∧ σ[i]? = some (some v) ∧ Own G B H ρ m v Fi ∧ OwnS G B H ρ (δ.set i none) σ Fr
  | [], σ, F, i, h, e => by simp at e
  | none :: δ, σ, F, 0, h, e => by simp at e
  | some m0 :: δ, σ, F, 0, h, e => by
    obtain ⟨v0, r, F1, F2, rfl, rfl, h2, h3⟩ := h
    have e' : m0 = m := by simpa using e
    subst e'
    exact ⟨v0, F1, F2, List.Perm.refl _, rfl, h2, some v0, r, rfl, h3⟩
  | none :: δ, σ, F, i + 1, h, e => by
    obtain ⟨o, r, rfl, h2⟩ := h
    obtain ⟨v, Fi, Fr, p1, e1, h3, h4⟩ := OwnS.take (i := i) h2 (by simpa using e)
    exact ⟨v, Fi, Fr, p1, by simpa using e1, h3, o, r, rfl, h4⟩
  | some m0 :: δ, σ, F, i + 1, h, e => by
    obtain ⟨v0, r, F1, F2, rfl, rfl, h2, h3⟩ := h
    obtain ⟨v, Fi, Fr, p1, e1, h4, h5⟩ := OwnS.take (i := i) h3 (by simpa using e)
    refine ⟨v, Fi, F1 ++ Fr, ?_, by simpa using e1, h4, v0, r, F1, Fr, rfl, rfl, h2, h5⟩
    refine (List.Perm.append_left F1 p1).trans ?_
    rw [← List.append_assoc, ← List.append_assoc]
    exact List.Perm.append_right Fr List.perm_append_comm
/-- a slot forgotten -/
theorem OwnS.forget : ∀ {δ : SlM} {σ : St} {F : List Addr} {i : Nat}, OwnS G B H ρ δ σ F → ∃ Fi Fr, F.Perm (Fi ++ Fr) ∧ OwnS G B H ρ (δ.set i none) (σ.set i none) Fr
  | [], σ, F, i, h => by
    obtain ⟨rfl, rfl⟩ := h
    exact ⟨[], [], List.Perm.refl _, rfl, rfl⟩
  | none :: δ, σ, F, 0, h => by
    obtain ⟨o, r, rfl, h2⟩ := h
    exact ⟨[], F, List.Perm.refl _, none, r, rfl, h2⟩
  | some m0 :: δ, σ, F, 0, h => by
    obtain ⟨v0, r, F1, F2, rfl, rfl, h2, h3⟩ := h
    exact ⟨F1, F2, List.Perm.refl _, none, r, rfl, h3⟩
  | none :: δ, σ, F, i + 1, h => by
    obtain ⟨o, r, rfl, h2⟩ := h
    obtain ⟨Fi, Fr, p1, h4⟩ := OwnS.forget (i := i) h2
    exact ⟨Fi, Fr, p1, o, _, rfl, h4⟩
  | some m0 :: δ, σ, F, i + 1, h => by
    obtain ⟨v0, r, F1, F2, rfl, rfl, h2, h3⟩ := h
    obtain ⟨Fi, Fr, p1, h5⟩ := OwnS.forget (i := i) h3
    refine ⟨Fi, F1 ++ Fr, ?_, v0, _, F1, Fr, rfl, rfl, h2, h5⟩
    refine (List.Perm.append_left F1 p1).trans ?_
    rw [← List.append_assoc, ← List.append_assoc]
    exact List.Perm.append_right Fr List.perm_append_comm
end

/-! ## how slots are seen while an expression runs -/
structure Kd where
  l : Bool
  t : Bool
  o : Bool
def Kd.no : Kd := ⟨false, false, false⟩
def Kd.or (a b : Kd) : Kd := ⟨a.l || b.l, a.t || b.t, a.o || b.o⟩
mutual
def kdM : M → Kd
  | .val _ => .no
  | .lst ms => Kd.or ⟨true, false, false⟩ (kdMs ms)
  | .tup ms => Kd.or ⟨false, true, false⟩ (kdMs ms)
  | .obj _ _ ms => Kd.or ⟨false, false, true⟩ (kdMs ms)
def kdMs : List M → Kd
  | [] => .no
  | m :: ms => Kd.or (kdM m) (kdMs ms)
end
mutual
/-- nothing that k has -/
def cl (k : Kd) : D → Bool
  | .tup l => !k.t && cls k l
  | .lst l => !k.l && cls k l
  | .obj _ _ l => !k.o && cls k l
  | .exc _ _ l => cls k l
  | .scr _ => !k.l
  | _ => true
def cls (k : Kd) : List D → Bool
  | [] => true
  | d :: ds => cl k d && cls k ds
end
mutual
def clM (k : Kd) : M → Bool
  | .val d => cl k d
  | .lst ms => clMs k ms
  | .tup ms => clMs k ms
  | .obj _ _ ms => clMs k ms
def clMs (k : Kd) : List M → Bool
  | [] => true
  | m :: ms => clM k m && clMs k ms
end
mutual
theorem cl_no : ∀ d : D, cl .no d = true
  | .non => rfl
  | .bl _ => rfl
  | .int _ => rfl
  | .str _ => rfl
  | .tup l => by
    show (true && cls .no l) = true
    rw [cls_no l] <;> rfl
  | .lst l => by
    show (true && cls .no l) = true
    rw [cls_no l] <;> rfl
  | .obj _ _ l => by
    show (true && cls .no l) = true
    rw [cls_no l] <;> rfl
  | .exc _ _ l => cls_no l
  | .loc _ => rfl
  | .scr _ => rfl
theorem cls_no : ∀ l : List D, cls .no l = true
  | [] => rfl
  | d :: ds => by
    show (cl .no d && cls .no ds) = true
    rw [cl_no d, cls_no ds] <;> rfl
end
mutual
theorem clM_no : ∀ m : M, clM .no m = true
  | .val d => cl_no d
  | .lst l => clMs_no l
  | .tup l => clMs_no l
  | .obj _ _ l => clMs_no l
theorem clMs_no : ∀ l : List M, clMs .no l = true
  | [] => rfl
  | d :: ds => by
    show (clM .no d && clMs .no ds) = true
    rw [clM_no d, clMs_no ds] <;> rfl
end
/-- the shared places lean on none of these kinds -/
def clA (k : Kd) : Sto → Bool
  | [] => true
  | .nums _ :: r => clA k r
  | .obj _ _ ds :: r => cls k ds && clA k r
theorem clA_no : ∀ a : Sto, clA .no a = true
  | [] => rfl
  | .nums _ :: r => clA_no r
  | .obj _ _ ds :: r => by
    show (cls .no ds && clA .no r) = true
    rw [cls_no ds, clA_no r] <;> rfl
theorem clA_at {k : Kd} {c : Nat} {ns : List Str} {ds : List D} : ∀ {a : Sto} {n : Nat}, clA k a = true → a[n]? = some (.obj c ns ds) → cls k ds = true
  | [], n, h, e => by simp at e
  | .nums l :: r, 0, h, e => by simp at e
  | .obj c' ns' ds' :: r, 0, h, e => by
    have h' : (cls k ds' && clA k r) = true := h
    simp at e
    obtain ⟨_, _, rfl⟩ := e
    exact (Bool.and_eq_true_iff.mp h').1
  | .nums l :: r, n + 1, h, e => clA_at (a := r) (n := n) h (by simpa using e)
  | .obj c' ns' ds' :: r, n + 1, h, e => by
    have h' : (cls k ds' && clA k r) = true := h
    exact clA_at (a := r) (n := n) (Bool.and_eq_true_iff.mp h').2 (by simpa using e)
/-- what stands at F has only kinds that k has -/
def KdAt (H : Hp) (k : Kd) (F : List Addr) : Prop := ∀ p ∈ F, (∃ xs, H p = some (.lst xs) ∧ k.l = true) ∨ (∃ xs, H p = some (.tup xs) ∧ k.t = true) ∨ (∃ C dx fs, H p = some (.ins C dx fs) ∧ k.o = true) ∨ (∃ q, H p = some (.own q) ∧ k.o = true)
theorem KdAt.up {H : Hp} {k k' : Kd} {F : List Addr} (h : KdAt H k F) (l : k.l = true → k'.l = true) (t : k.t = true → k'.t = true) (o : k.o = true → k'.o = true) : KdAt H k' F := fun p hp => by
  rcases h p hp with ⟨xs, e, q⟩ | ⟨xs, e, q⟩ | ⟨C, dx, fs, e, q⟩ | ⟨z, e, q⟩
  · exact .inl ⟨xs, e, l q⟩
  · exact .inr (.inl ⟨xs, e, t q⟩)
  · exact .inr (.inr (.inl ⟨C, dx, fs, e, o q⟩))
  · exact .inr (.inr (.inr ⟨z, e, o q⟩))
theorem KdAt.orl {H : Hp} {k k' : Kd} {F : List Addr} (h : KdAt H k F) : KdAt H (k.or k') F := h.up (fun e => by simp [Kd.or, e]) (fun e => by simp [Kd.or, e]) fun e => by simp [Kd.or, e]
theorem KdAt.orr {H : Hp} {k k' : Kd} {F : List Addr} (h : KdAt H k F) : KdAt H (k'.or k) F := h.up (fun e => by simp [Kd.or, e]) (fun e => by simp [Kd.or, e]) fun e => by simp [Kd.or, e]
theorem KdAt.app {H : Hp} {k : Kd} {F F' : List Addr} (h : KdAt H k F) (h' : KdAt H k F') : KdAt H k (F ++ F') := fun p hp => (List.mem_append.mp hp).elim (h p) (h' p)
section
variable {G : Gx} {B H : Hp} {ρ : List Addr}
mutual
theorem Own.kd : ∀ (m : M) (v : V) (F : List Addr), Own G B H ρ m v F → KdAt H (kdM m) F
  | .val d, v, F, h, p, hp => by
    rw [h.1] at hp
    cases hp
  | .lst ms, v, F, h, p, hp => by
    obtain ⟨q, xs, F', h1, h2, rfl, h4⟩ := h
    rcases List.mem_cons.mp hp with rfl | hp
    · exact .inl ⟨xs, h2, rfl⟩
    · exact (Owns.kd ms xs F' h4).orr p hp
  | .tup ms, v, F, h, p, hp => by
    obtain ⟨q, xs, F', h1, h2, rfl, h4⟩ := h
    rcases List.mem_cons.mp hp with rfl | hp
    · exact .inr (.inl ⟨xs, h2, rfl⟩)
    · exact (Owns.kd ms xs F' h4).orr p hp
  | .obj c ns ms, v, F, h, p, hp => by
    obtain ⟨q, dx, xs, F', h1, h2, h3, hl, rfl, h4⟩ := h
    rcases List.mem_cons.mp hp with rfl | hp
    · exact .inr (.inr (.inl ⟨_, _, _, h2, rfl⟩))
    · rcases List.mem_cons.mp hp with rfl | hp
      · exact .inr (.inr (.inr ⟨_, h3, rfl⟩))
      · exact (Owns.kd ms xs F' h4).orr p hp
theorem Owns.kd : ∀ (ms : List M) (xs : List V) (F : List Addr), Owns G B H ρ ms xs F → KdAt H (kdMs ms) F
  | [], xs, F, h, p, hp => by
    rw [h.2] at hp
    cases hp
  | m :: ms, xs, F, h, p, hp => by
    obtain ⟨x, r, F1, F2, h1, rfl, h3, h4⟩ := h
    rcases List.mem_append.mp hp with hp | hp
    · exact (Own.kd m x F1 h3).orl p hp
    · exact (Owns.kd ms r F2 h4).orr p hp
end
end
/-- the ground without F -/
def wo (B : Hp) (F : List Addr) : Hp := fun p => if p ∈ F then none else B p
theorem wo_in {B : Hp} {F : List Addr} {p : Addr} (h : p ∈ F) : wo B F p = none := by
  unfold wo
  rw [if_pos h]
theorem wo_out {B : Hp} {F : List Addr} {p : Addr} (h : p ∉ F) : wo B F p = B p := by
  unfold wo
  rw [if_neg h]
section
variable {G : Gx} {B H : Hp} {ρ F : List Addr} {k : Kd}
theorem not_at {o : HO} {p : Addr} (h : KdAt B k F) (e : B p = some o) (hl : ∀ xs, o = .lst xs → k.l = false) (ht : ∀ xs, o = .tup xs → k.t = false) (ho : ∀ C dx fs, o = .ins C dx fs → k.o = false) (hw : ∀ q, o ≠ .own q) : p ∉ F := fun hp => by
  rcases h p hp with ⟨xs, e', q⟩ | ⟨xs, e', q⟩ | ⟨C, dx, fs, e', q⟩ | ⟨z, e', q⟩
  · rw [e] at e'
    rw [hl xs (Option.some.inj e')] at q
    cases q
  · rw [e] at e'
    rw [ht xs (Option.some.inj e')] at q
    cases q
  · rw [e] at e'
    rw [ho C dx fs (Option.some.inj e')] at q
    cases q
  · rw [e] at e'
    exact hw z (Option.some.inj e')
theorem wo_at {o : HO} {p : Addr} (h : KdAt B k F) (e : B p = some o) (hl : ∀ xs, o = .lst xs → k.l = false) (ht : ∀ xs, o = .tup xs → k.t = false) (ho : ∀ C dx fs, o = .ins C dx fs → k.o = false) (hw : ∀ q, o ≠ .own q) : wo B F p = some o := by
  rw [wo_out (not_at h e hl ht ho hw)]
  exact e
mutual
/-- data that has nothing of those kinds does not lean on F -/
theorem Rep.wo (h : KdAt B k F) : ∀ (d : D) (v : V), cl k d = true → Rep G B ρ d v → Rep G (wo B F) ρ d v
  | .non, v, c, r => r
  | .bl _, v, c, r => r
  | .int _, v, c, r => r
  | .str _, v, c, r => r
  | .loc _, v, c, r => r
  | .tup l, v, c, r => by
    obtain ⟨p, xs, h1, h2, h3⟩ := r
    have c' : (!k.t && cls k l) = true := c
    rw [Bool.and_eq_true, Bool.not_eq_true'] at c'
    refine ⟨p, xs, h1, ?_, Reps.wo h l xs c'.2 h3⟩
    rcases h2 with (h2 | ⟨o, h2⟩) | h2
    · exact .inl (.inl (wo_at h h2 (fun _ z => nomatch z) (fun _ _ => c'.1) (fun _ _ _ z => nomatch z) fun _ z => nomatch z))
    · exact .inl (.inr ⟨o, wo_at h h2 (fun _ z => nomatch z) (fun _ z => nomatch z) (fun _ _ _ z => nomatch z) fun _ z => nomatch z⟩)
    · exact .inr h2
  | .lst l, v, c, r => by
    obtain ⟨p, xs, h1, h2, h3⟩ := r
    have c' : (!k.l && cls k l) = true := c
    rw [Bool.and_eq_true, Bool.not_eq_true'] at c'
    exact ⟨p, xs, h1, wo_at h h2 (fun _ _ => c'.1) (fun _ z => nomatch z) (fun _ _ _ z => nomatch z) (fun _ z => nomatch z), Reps.wo h l xs c'.2 h3⟩
  | .obj cc ns l, v, c, r => by
    obtain ⟨p, dx, xs, h1, h2, h4, h3⟩ := r
    have c' : (!k.o && cls k l) = true := c
    rw [Bool.and_eq_true, Bool.not_eq_true'] at c'
    exact ⟨p, dx, xs, h1, wo_at h h2 (fun _ z => nomatch z) (fun _ z => nomatch z) (fun _ _ _ _ => c'.1) (fun _ z => nomatch z), h4, Reps.wo h l xs c'.2 h3⟩
  | .exc cc ns l, v, c, r => by
    obtain ⟨p, dd, h1, h2, h3⟩ := r
    refine ⟨p, dd, h1, wo_at h h2 (fun _ z => nomatch z) (fun _ z => nomatch z) (fun _ _ _ z => nomatch z) (fun _ z => nomatch z), ?_⟩
    rcases h3 with h3 | ⟨d, xs, h4, h5, h6, h7⟩
    · exact .inl h3
    · exact .inr ⟨d, xs, h4, wo_at h h5 (fun _ z => nomatch z) (fun _ z => nomatch z) (fun _ _ _ z => nomatch z) (fun _ z => nomatch z), h6, Reps.wo h l xs c h7⟩
  | .scr l, v, c, r => by
    obtain ⟨p, h1, h2⟩ := r
    have c' : k.l = false := by
      have z : (!k.l) = true := c
      rw [Bool.not_eq_true'] at z
      exact z
    refine ⟨p, h1, ?_⟩
    rcases h2 with (h2 | ⟨o, h2⟩) | h2
    · exact .inl (.inl (wo_at h h2 (fun _ _ => c') (fun _ z => nomatch z) (fun _ _ _ z => nomatch z) fun _ z => nomatch z))
    · exact .inl (.inr ⟨o, wo_at h h2 (fun _ z => nomatch z) (fun _ z => nomatch z) (fun _ _ _ z => nomatch z) fun _ z => nomatch z⟩)
    · exact .inr h2
theorem Reps.wo (h : KdAt B k F) : ∀ (ds : List D) (xs : List V), cls k ds = true → Reps G B ρ ds xs → Reps G (wo B F) ρ ds xs
  | [], xs, c, r => r
  | d :: ds, xs, c, r => by
    obtain ⟨x, t, h1, h2, h3⟩ := r
    have c' : (cl k d && cls k ds) = true := c
    rw [Bool.and_eq_true] at c'
    exact ⟨x, t, h1, Rep.wo h d x c'.1 h2, Reps.wo h ds t c'.2 h3⟩
end
mutual
theorem Own.wo (h : KdAt B k F) : ∀ (m : M) (v : V) (F' : List Addr), clM k m = true → Own G B H ρ m v F' → Own G (wo B F) H ρ m v F'
  | .val d, v, F', c, r => ⟨r.1, Rep.wo h d v c r.2⟩
  | .lst l, v, F', c, r => by
    obtain ⟨p, xs, F1, h1, h2, h3, h4⟩ := r
    exact ⟨p, xs, F1, h1, h2, h3, Owns.wo h l xs F1 c h4⟩
  | .tup l, v, F', c, r => by
    obtain ⟨p, xs, F1, h1, h2, h3, h4⟩ := r
    exact ⟨p, xs, F1, h1, h2, h3, Owns.wo h l xs F1 c h4⟩
  | .obj cc ns l, v, F', c, r => by
    obtain ⟨p, dx, xs, F1, h1, h2, h3, h5, h6, h4⟩ := r
    exact ⟨p, dx, xs, F1, h1, h2, h3, h5, h6, Owns.wo h l xs F1 c h4⟩
theorem Owns.wo (h : KdAt B k F) : ∀ (ms : List M) (xs : List V) (F' : List Addr), clMs k ms = true → Owns G B H ρ ms xs F' → Owns G (wo B F) H ρ ms xs F'
  | [], xs, F', c, r => r
  | m :: ms, xs, F', c, r => by
    obtain ⟨x, t, F1, F2, h1, h2, h3, h4⟩ := r
    have c' : (clM k m && clMs k ms) = true := c
    rw [Bool.and_eq_true] at c'
    exact ⟨x, t, F1, F2, h1, h2, Own.wo h m x F1 c'.1 h3, Owns.wo h ms t F2 c'.2 h4⟩
end
end

/-- as an expression sees the slots: those of I given to the ground, the other owned ones hidden -/
def see (I : List Nat) : Nat → SlM → Sw
  | _, [] => []
  | n, none :: r => none :: see I (n + 1) r
  | n, some (.val d) :: r => some d :: see I (n + 1) r
  | n, some m :: r => (if n ∈ I then some (freeze m) else none) :: see I (n + 1) r
def kin (I : List Nat) : Nat → SlM → Kd
  | _, [] => .no
  | n, none :: r => kin I (n + 1) r
  | n, some (.val d) :: r => kin I (n + 1) r
  | n, some m :: r => if n ∈ I then Kd.or (kdM m) (kin I (n + 1) r) else kin I (n + 1) r
def frz (I : List Nat) : Nat → SlM → SlM
  | _, [] => []
  | n, none :: r => none :: frz I (n + 1) r
  | n, some (.val d) :: r => some (.val d) :: frz I (n + 1) r
  | n, some m :: r => (if n ∈ I then some (.val (freeze m)) else some m) :: frz I (n + 1) r
/-- the slots of I and the others apart -/
structure Seen (G : Gx) (B H : Hp) (ρ : List Addr) (I : List Nat) (n : Nat) (δ : SlM) (σ : St) (F Fv Fh : List Addr) : Prop where
  perm : F.Perm (Fv ++ Fh)
  kd : KdAt H (kin I n δ) Fv
  sl : ∀ B1, Same B B1 → (∀ p ∈ Fv, B1 p = H p) → Sls G B1 ρ (see I n δ) σ
  fz : ∀ B1 H1, Same B B1 → (∀ p ∈ Fv, B1 p = H p) → (∀ p ∈ Fh, H1 p = H p) → OwnS G B1 H1 ρ (frz I n δ) σ Fh
theorem Sls.cons {G : Gx} {B : Hp} {ρ : List Addr} {o : Option D} {v : Option V} {δ : Sw} {σ : St} (h : Sls G B ρ δ σ) (h0 : ∀ d, o = some d → ∃ x, v = some x ∧ Rep G B ρ d x) : Sls G B ρ (o :: δ) (v :: σ) := by
  refine ⟨by rw [List.length_cons, List.length_cons, h.1], fun i d e => ?_⟩
  cases i with
  | zero =>
    have e' : o = some d := by simpa using e
    obtain ⟨x, h1, h2⟩ := h0 d e'
    exact ⟨x, by simp [h1], h2⟩
  | succ i =>
    obtain ⟨x, h1, h2⟩ := h.2 i d (by simpa using e)
    exact ⟨x, by simpa using h1, h2⟩
theorem seen {G : Gx} {B H : Hp} {ρ : List Addr} (I : List Nat) : ∀ (δ : SlM) (n : Nat) (σ : St) (F : List Addr), OwnS G B H ρ δ σ F → ∃ Fv Fh, Seen G B H ρ I n δ σ F Fv Fh
  | [], n, σ, F, h => by
    obtain ⟨rfl, rfl⟩ := h
    exact ⟨[], [], ⟨List.Perm.refl _, (fun p hp => nomatch hp), fun B1 _ _ => ⟨rfl, fun i d e => by simp [see] at e⟩, fun B1 H1 _ _ _ => ⟨rfl, rfl⟩⟩⟩
  | none :: δ, n, σ, F, h => by
    obtain ⟨o, r, rfl, h2⟩ := h
    obtain ⟨Fv, Fh, s⟩ := seen I δ (n + 1) r F h2
    exact ⟨Fv, Fh, ⟨s.perm, s.kd, fun B1 a b => (s.sl B1 a b).cons (fun d e => nomatch e), fun B1 H1 a b c => ⟨o, r, rfl, s.fz B1 H1 a b c⟩⟩⟩
  | some (.val d) :: δ, n, σ, F, h => by
    obtain ⟨v, r, F1, F2, rfl, rfl, ⟨rfl, h1⟩, h2⟩ := h
    obtain ⟨Fv, Fh, s⟩ := seen I δ (n + 1) r F2 h2
    refine ⟨Fv, Fh, ⟨s.perm, s.kd, fun B1 a b => (s.sl B1 a b).cons fun d' e => ?_, fun B1 H1 a b c => ⟨v, r, [], Fh, rfl, rfl, ⟨rfl, Rep.mono a d v h1⟩, s.fz B1 H1 a b c⟩⟩⟩
    cases e
    exact ⟨v, rfl, Rep.mono a d v h1⟩
  | some (.lst l) :: δ, n, σ, F, h => by
    obtain ⟨v, r, F1, F2, rfl, rfl, h1, h2⟩ := h
    obtain ⟨Fv, Fh, s⟩ := seen I δ (n + 1) r F2 h2
    by_cases c : n ∈ I
    · refine ⟨F1 ++ Fv, Fh, ⟨?_, ?_, fun B1 a b => ?_, fun B1 H1 a b k => ?_⟩⟩
      · rw [List.append_assoc]
        exact List.Perm.append_left F1 s.perm
      · unfold kin
        rw [if_pos c]
        exact (Own.kd _ v F1 h1).orl.app s.kd.orr
      · unfold see
        rw [if_pos c]
        refine (s.sl B1 a fun p hp => b p (List.mem_append_right _ hp)).cons fun d e => ?_
        cases e
        exact ⟨v, rfl, Own.froze a _ v F1 (fun p hp => b p (List.mem_append_left _ hp)) h1⟩
      · unfold frz
        rw [if_pos c]
        exact ⟨v, r, [], Fh, rfl, rfl, ⟨rfl, Own.froze a _ v F1 (fun p hp => b p (List.mem_append_left _ hp)) h1⟩, s.fz B1 H1 a (fun p hp => b p (List.mem_append_right _ hp)) k⟩
    · refine ⟨Fv, F1 ++ Fh, ⟨?_, ?_, fun B1 a b => ?_, fun B1 H1 a b k => ?_⟩⟩
      · refine (List.Perm.append_left F1 s.perm).trans ?_
        rw [← List.append_assoc, ← List.append_assoc]
        exact List.Perm.append_right Fh List.perm_append_comm
      · unfold kin
        rw [if_neg c]
        exact s.kd
      · unfold see
        rw [if_neg c]
        exact (s.sl B1 a b).cons fun d e => nomatch e
      · unfold frz
        rw [if_neg c]
        exact ⟨v, r, F1, Fh, rfl, rfl, Own.mono a _ v F1 (fun p hp => k p (List.mem_append_left _ hp)) h1, s.fz B1 H1 a b fun p hp => k p (List.mem_append_right _ hp)⟩
  | some (.tup l) :: δ, n, σ, F, h => by
    obtain ⟨v, r, F1, F2, rfl, rfl, h1, h2⟩ := h
    obtain ⟨Fv, Fh, s⟩ := seen I δ (n + 1) r F2 h2
    by_cases c : n ∈ I
    · refine ⟨F1 ++ Fv, Fh, ⟨?_, ?_, fun B1 a b => ?_, fun B1 H1 a b k => ?_⟩⟩
      · rw [List.append_assoc]
        exact List.Perm.append_left F1 s.perm
      · unfold kin
        rw [if_pos c]
        exact (Own.kd _ v F1 h1).orl.app s.kd.orr
      · unfold see
        rw [if_pos c]
        refine (s.sl B1 a fun p hp => b p (List.mem_append_right _ hp)).cons fun d e => ?_
        cases e
        exact ⟨v, rfl, Own.froze a _ v F1 (fun p hp => b p (List.mem_append_left _ hp)) h1⟩
      · unfold frz
        rw [if_pos c]
        exact ⟨v, r, [], Fh, rfl, rfl, ⟨rfl, Own.froze a _ v F1 (fun p hp => b p (List.mem_append_left _ hp)) h1⟩, s.fz B1 H1 a (fun p hp => b p (List.mem_append_right _ hp)) k⟩
    · refine ⟨Fv, F1 ++ Fh, ⟨?_, ?_, fun B1 a b => ?_, fun B1 H1 a b k => ?_⟩⟩
      · refine (List.Perm.append_left F1 s.perm).trans ?_
        rw [← List.append_assoc, ← List.append_assoc]
        exact List.Perm.append_right Fh List.perm_append_comm
      · unfold kin
        rw [if_neg c]
        exact s.kd
      · unfold see
        rw [if_neg c]
        exact (s.sl B1 a b).cons fun d e => nomatch e
      · unfold frz
        rw [if_neg c]
        exact ⟨v, r, F1, Fh, rfl, rfl, Own.mono a _ v F1 (fun p hp => k p (List.mem_append_left _ hp)) h1, s.fz B1 H1 a b fun p hp => k p (List.mem_append_right _ hp)⟩
  | some (.obj cc ns l) :: δ, n, σ, F, h => by
    obtain ⟨v, r, F1, F2, rfl, rfl, h1, h2⟩ := h
    obtain ⟨Fv, Fh, s⟩ := seen I δ (n + 1) r F2 h2
    by_cases c : n ∈ I
    · refine ⟨F1 ++ Fv, Fh, ⟨?_, ?_, fun B1 a b => ?_, fun B1 H1 a b k => ?_⟩⟩
      · rw [List.append_assoc]
        exact List.Perm.append_left F1 s.perm
      · unfold kin
        rw [if_pos c]
        exact (Own.kd _ v F1 h1).orl.app s.kd.orr
      · unfold see
        rw [if_pos c]
        refine (s.sl B1 a fun p hp => b p (List.mem_append_right _ hp)).cons fun d e => ?_
        cases e
        exact ⟨v, rfl, Own.froze a _ v F1 (fun p hp => b p (List.mem_append_left _ hp)) h1⟩
      · unfold frz
        rw [if_pos c]
        exact ⟨v, r, [], Fh, rfl, rfl, ⟨rfl, Own.froze a _ v F1 (fun p hp => b p (List.mem_append_left _ hp)) h1⟩, s.fz B1 H1 a (fun p hp => b p (List.mem_append_right _ hp)) k⟩
    · refine ⟨Fv, F1 ++ Fh, ⟨?_, ?_, fun B1 a b => ?_, fun B1 H1 a b k => ?_⟩⟩
      · refine (List.Perm.append_left F1 s.perm).trans ?_
        rw [← List.append_assoc, ← List.append_assoc]
        exact List.Perm.append_right Fh List.perm_append_comm
      · unfold kin
        rw [if_neg c]
        exact s.kd
      · unfold see
        rw [if_neg c]
        exact (s.sl B1 a b).cons fun d e => nomatch e
      · unfold frz
        rw [if_neg c]
        exact ⟨v, r, F1, Fh, rfl, rfl, Own.mono a _ v F1 (fun p hp => k p (List.mem_append_left _ hp)) h1, s.fz B1 H1 a b fun p hp => k p (List.mem_append_right _ hp)⟩

/-! ## an expression in a statement -/
inductive Ox (β : Type) where
  | ok (b : β) (δ : SlM) (a : Sto)
  | exc (c : Nat) (ns : List Str) (ds : List D) (δ : SlM) (a : Sto)
  | stuck
def lift (I : List Nat) (f : EM) (δ : SlM) (a : Sto) : Ox M := match f (see I 0 δ) a with
  | .ok m a' => .ok m (if (clM (kin I 0 δ) m && clA (kin I 0 δ) a') = true then δ else frz I 0 δ) a'
  | .exc c ns ds a' => .exc c ns ds (if (cls (kin I 0 δ) ds && clA (kin I 0 δ) a') = true then δ else frz I 0 δ) a'
  | .stuck => .stuck
def liftT (I : List Nat) (f : ET) (δ : SlM) (a : Sto) : Ox Bool := match f (see I 0 δ) a with
  | .ok b a' => .ok b (if clA (kin I 0 δ) a' = true then δ else frz I 0 δ) a'
  | .exc c ns ds a' => .exc c ns ds (if (cls (kin I 0 δ) ds && clA (kin I 0 δ) a') = true then δ else frz I 0 δ) a'
  | .stuck => .stuck
def FinX (G : Gx) (W : WX) (ρ R : List Addr) (B H : Hp) (σ : St) (o : Ox M) (k : M → SlM → Sto → Hp → Hp → V → List Addr → List Addr → Prop) : Prop := match o with
  | .ok m δ a => ∀ B' H' v F F', Wd G B' H' ρ a (F' ++ (F ++ R)) → Same B B' → Kp R H H' → Own G B' H' ρ m v F' → OwnS G B' H' ρ δ σ F → k m δ a B' H' v F' F
  | .exc c ns ds δ a => ∀ B' H' dd F, Wd G B' H' ρ a (F ++ R) → Same B B' → Kp R H H' → XdO G B' ρ ns ds dd → OwnS G B' H' ρ δ σ F → W (.ref (G.T c)) dd σ H'
  | .stuck => False
def FinXT (G : Gx) (W : WX) (ρ R : List Addr) (B H : Hp) (σ : St) (o : Ox Bool) (k : Bool → SlM → Sto → Hp → Hp → List Addr → Prop) : Prop := match o with
  | .ok b δ a => ∀ B' H' F, Wd G B' H' ρ a (F ++ R) → Same B B' → Kp R H H' → OwnS G B' H' ρ δ σ F → k b δ a B' H' F
  | .exc c ns ds δ a => ∀ B' H' dd F, Wd G B' H' ρ a (F ++ R) → Same B B' → Kp R H H' → XdO G B' ρ ns ds dd → OwnS G B' H' ρ δ σ F → W (.ref (G.T c)) dd σ H'
  | .stuck => False
section
variable {G : Gx} {W : WX} {ρ R F Fv Fh : List Addr} {B H : Hp} {σ : St} {δ : SlM} {a : Sto} {I : List Nat}
theorem perm3 {A Bl C : List Addr} (h : F.Perm (A ++ Bl)) : (F ++ C).Perm (A ++ (Bl ++ C)) := by
  rw [← List.append_assoc]
  exact List.Perm.append_right C h
/-- the world while the expression runs -/
theorem Seen.start (s : Seen G B H ρ I 0 δ σ F Fv Fh) (w : Wd G B H ρ a (F ++ R)) : Wd G (ov B H Fv) H ρ a (Fh ++ R) := (w.perm (perm3 s.perm)).absorb
theorem Seen.sameOv (s : Seen G B H ρ I 0 δ σ F Fv Fh) (w : Wd G B H ρ a (F ++ R)) : Same B (ov B H Fv) := (w.perm (perm3 s.perm)).sameOv
section
variable {B1 H1 : Hp} {a1 : Sto} {F1 : List Addr}
/-- what is seen stays while it is seen -/
theorem Seen.stays (s : Seen G B H ρ I 0 δ σ F Fv Fh) (os : OwnS G B H ρ δ σ F) (w1 : Wd G B1 H1 ρ a1 (F1 ++ (Fh ++ R))) (sm : Same (ov B H Fv) B1) : ∀ p ∈ Fv, B1 p = H p ∧ H1 p = H p := fun p hp => by
  have h1 := OwnS.there os p (s.perm.mem_iff.mpr (List.mem_append_left _ hp))
  obtain ⟨o, ho⟩ := Option.isSome_iff_exists.mp h1
  have h2 : B1 p = some o := sm p o (by rw [ov_in hp]; exact ho)
  rw [h2, ho]
  exact ⟨rfl, w1.ex p o h2⟩
/-- behind it, where the result leans on nothing that was seen: the ground without it -/
theorem Seen.back (s : Seen G B H ρ I 0 δ σ F Fv Fh) (os : OwnS G B H ρ δ σ F) (w : Wd G B H ρ a (F ++ R)) (w1 : Wd G B1 H1 ρ a1 (F1 ++ (Fh ++ R))) (sm : Same (ov B H Fv) B1) (kp : Kp (Fh ++ R) H H1) (ca : clA (kin I 0 δ) a1 = true) :
    Wd G (wo B1 Fv) H1 ρ a1 (F1 ++ (F ++ R)) ∧ Same B (wo B1 Fv) ∧ OwnS G (wo B1 Fv) H1 ρ δ σ F ∧ KdAt B1 (kin I 0 δ) Fv := by
  have st := s.stays os w1 sm
  have w' := w.perm (perm3 s.perm)
  have hB : Same B (wo B1 Fv) := fun p o e => by
    have hp : p ∉ Fv := fun hp => by
      rw [w'.nofr p hp] at e
      cases e
    rw [wo_out hp]
    exact sm p o (by rw [ov_out hp]; exact e)
  have hF : ∀ p ∈ F, H1 p = H p := fun p hp => by
    rcases List.mem_append.mp (s.perm.mem_iff.mp hp) with h | h
    · exact (st p h).2
    · exact kp p (List.mem_append_left _ h)
  have vis : ∀ p ∈ Fv, (B1 p).isSome = true := fun p hp => by
    rw [(st p hp).1]
    exact OwnS.there os p (s.perm.mem_iff.mpr (List.mem_append_left _ hp))
  have kd : KdAt B1 (kin I 0 δ) Fv := fun p hp => by
    have e := (st p hp).1
    rcases s.kd p hp with ⟨xs, e', q⟩ | ⟨xs, e', q⟩ | ⟨C, dx, fs, e', q⟩ | ⟨z, e', q⟩
    · exact .inl ⟨xs, e.trans e', q⟩
    · exact .inr (.inl ⟨xs, e.trans e', q⟩)
    · exact .inr (.inr (.inl ⟨C, dx, fs, e.trans e', q⟩))
    · exact .inr (.inr (.inr ⟨z, e.trans e', q⟩))
  have cells : ∀ (n : Nat) (p : Addr) (c : Cell), ρ[n]? = some p → a1[n]? = some c → CellAt G (wo B1 Fv) H1 ρ (F1 ++ (Fv ++ (Fh ++ R))) p c := fun n p c e1 e2 => by
    have z := w1.sto n p c e1 e2
    cases c with
    | nums l => exact z
    | obj c ns ds =>
      obtain ⟨dx, xs, z1, z2, z3, z4, z5, z6⟩ := z
      have hv : dx ∉ Fv := fun y => by
        have y' := vis dx y
        rw [z6] at y'
        cases y'
      refine ⟨dx, xs, z1, z2, z3, Reps.wo kd ds xs (clA_at ca e2) z4, fun y => ?_, by rw [wo_out hv]; exact z6⟩
      rcases List.mem_append.mp y with y | y
      · exact z5 (List.mem_append_left _ y)
      · rcases List.mem_append.mp y with y | y
        · exact z5 (List.mem_append_right _ (List.mem_append_left _ y))
        · rcases List.mem_append.mp y with y | y
          · exact hv y
          · exact z5 (List.mem_append_right _ (List.mem_append_right _ y))
  refine ⟨?_, hB, OwnS.mono hB δ σ F hF os, kd⟩
  · have pe : (F1 ++ (F ++ R)).Perm (F1 ++ (Fv ++ (Fh ++ R))) := List.Perm.append_left F1 (perm3 s.perm)
    refine Wd.perm ?_ pe.symm
    refine ⟨fun p o e => ?_, w1.len, cells, ?_, fun p hp => ?_, fun p hp => ?_⟩
    · by_cases hp : p ∈ Fv
      · rw [wo_in hp] at e
        cases e
      · rw [wo_out hp] at e
        exact w1.ex p o e
    · have n1 := w1.nd
      have n2 := w'.nd
      have q : (ρ ++ (F1 ++ (Fv ++ (Fh ++ R)))).Perm (Fv ++ (ρ ++ (F1 ++ (Fh ++ R)))) := by
        have z : ((ρ ++ F1) ++ Fv).Perm (Fv ++ (ρ ++ F1)) := List.perm_append_comm
        have y := List.Perm.append_right (Fh ++ R) z
        simpa only [List.append_assoc] using y
      refine q.nodup_iff.mpr (List.nodup_append.mpr ⟨?_, n1, fun p hp z hz e => ?_⟩)
      · exact (List.nodup_append.mp (List.nodup_append.mp n2).2.1).1
      · subst e
        have h1 := w1.bn p hz
        have h2 := vis p hp
        rw [h1] at h2
        cases h2
    · by_cases hv : p ∈ Fv
      · exact wo_in hv
      · rw [wo_out hv]
        refine w1.bn p ?_
        rcases List.mem_append.mp hp with h | h
        · exact List.mem_append_left _ h
        · refine List.mem_append_right _ ?_
          rcases List.mem_append.mp h with h | h
          · exact List.mem_append_left _ h
          · rcases List.mem_append.mp h with h | h
            · exact absurd h hv
            · exact List.mem_append_right _ h
    · by_cases hv : p ∈ Fv
      · rw [(st p hv).2]
        exact OwnS.there os p (s.perm.mem_iff.mpr (List.mem_append_left _ hv))
      · refine w1.has p ?_
        rcases List.mem_append.mp hp with h | h
        · exact List.mem_append_left _ h
        · refine List.mem_append_right _ ?_
          rcases List.mem_append.mp h with h | h
          · exact List.mem_append_left _ h
          · rcases List.mem_append.mp h with h | h
            · exact absurd h hv
            · exact List.mem_append_right _ h
/-- behind it, what was seen given away for ever -/
theorem Seen.gave (s : Seen G B H ρ I 0 δ σ F Fv Fh) (os : OwnS G B H ρ δ σ F) (w : Wd G B H ρ a (F ++ R)) (w1 : Wd G B1 H1 ρ a1 (F1 ++ (Fh ++ R))) (sm : Same (ov B H Fv) B1) (kp : Kp (Fh ++ R) H H1) :
    Same B B1 ∧ OwnS G B1 H1 ρ (frz I 0 δ) σ Fh :=
  ⟨(s.sameOv w).trans sm, s.fz B1 H1 ((s.sameOv w).trans sm) (fun p hp => (s.stays os w1 sm p hp).1) fun p hp => kp p (List.mem_append_left _ hp)⟩
end
theorem XdO.wo {B1 : Hp} {k : Kd} {ns : List Str} {ds : List D} {dd : Option Addr} (h : KdAt B1 k Fv) (c : cls k ds = true) (x : XdO G B1 ρ ns ds dd) : XdO G (wo B1 Fv) ρ ns ds dd := by
  rcases x with x | ⟨d, xs, h1, h2, h3, h4⟩
  · exact .inl x
  · exact .inr ⟨d, xs, h1, wo_at h h2 (fun _ z => nomatch z) (fun _ z => nomatch z) (fun _ _ _ z => nomatch z) (fun _ z => nomatch z), h3, Reps.wo h ds xs c h4⟩
theorem lift_ok {t : TE} {f : EM} (hf : MOk G W t f) (w : Wd G B H ρ a (F ++ R)) (os : OwnS G B H ρ δ σ F) {Q : VK} (q : FinX G W ρ R B H σ (lift I f δ a) (fun _ _ _ _ H' v _ _ => Q v H')) : t σ H Q := by
  obtain ⟨Fv, Fh, s⟩ := seen I δ 0 σ F os
  refine hf ρ (Fh ++ R) (ov B H Fv) H σ (see I 0 δ) a Q (s.start w) (s.sl _ (s.sameOv w) fun p hp => ov_in hp) ?_
  unfold lift at q
  cases c : f (see I 0 δ) a with
  | stuck =>
    rw [c] at q
    exact q
  | exc cc ns ds a1 =>
    rw [c] at q
    intro B1 H1 dd w1 sm kp x
    by_cases hc : (cls (kin I 0 δ) ds && clA (kin I 0 δ) a1) = true
    · dsimp only at q
      rw [if_pos hc] at q
      obtain ⟨c1, c2⟩ := Bool.and_eq_true_iff.mp hc
      obtain ⟨h1, h2, h3, h4⟩ := s.back (F1 := []) os w w1 sm kp c2
      exact q (wo B1 Fv) H1 dd F h1 h2 kp.right (XdO.wo h4 c1 x) h3
    · dsimp only at q
      rw [if_neg hc] at q
      obtain ⟨h1, h2⟩ := s.gave (F1 := []) os w w1 sm kp
      exact q B1 H1 dd Fh w1 h1 kp.right x h2
  | ok m a1 =>
    rw [c] at q
    intro B1 H1 v F1 w1 sm kp o1
    by_cases hc : (clM (kin I 0 δ) m && clA (kin I 0 δ) a1) = true
    · dsimp only at q
      rw [if_pos hc] at q
      obtain ⟨c1, c2⟩ := Bool.and_eq_true_iff.mp hc
      obtain ⟨h1, h2, h3, h4⟩ := s.back os w w1 sm kp c2
      exact q (wo B1 Fv) H1 v F F1 h1 h2 kp.right (Own.wo h4 m v F1 c1 o1) h3
    · dsimp only at q
      rw [if_neg hc] at q
      obtain ⟨h1, h2⟩ := s.gave os w w1 sm kp
      exact q B1 H1 v Fh F1 w1 h1 kp.right o1 h2
theorem liftT_ok {t : TT} {f : ET} (hf : TOk G W t f) (w : Wd G B H ρ a (F ++ R)) (os : OwnS G B H ρ δ σ F) {Q : Bool → Hp → Prop} (q : FinXT G W ρ R B H σ (liftT I f δ a) (fun b _ _ _ H' _ => Q b H')) : t σ H Q := by
  obtain ⟨Fv, Fh, s⟩ := seen I δ 0 σ F os
  refine hf ρ (Fh ++ R) (ov B H Fv) H σ (see I 0 δ) a Q (s.start w) (s.sl _ (s.sameOv w) fun p hp => ov_in hp) ?_
  unfold liftT at q
  cases c : f (see I 0 δ) a with
  | stuck =>
    rw [c] at q
    exact q
  | exc cc ns ds a1 =>
    rw [c] at q
    intro B1 H1 dd w1 sm kp x
    by_cases hc : (cls (kin I 0 δ) ds && clA (kin I 0 δ) a1) = true
    · dsimp only at q
      rw [if_pos hc] at q
      obtain ⟨c1, c2⟩ := Bool.and_eq_true_iff.mp hc
      obtain ⟨h1, h2, h3, h4⟩ := s.back (F1 := []) os w w1 sm kp c2
      exact q (wo B1 Fv) H1 dd F h1 h2 kp.right (XdO.wo h4 c1 x) h3
    · dsimp only at q
      rw [if_neg hc] at q
      obtain ⟨h1, h2⟩ := s.gave (F1 := []) os w w1 sm kp
      exact q B1 H1 dd Fh w1 h1 kp.right x h2
  | ok b a1 =>
    rw [c] at q
    intro B1 H1 w1 sm kp
    by_cases hc : clA (kin I 0 δ) a1 = true
    · dsimp only at q
      rw [if_pos hc] at q
      obtain ⟨h1, h2, h3, h4⟩ := s.back (F1 := []) os w w1 sm kp hc
      exact q (wo B1 Fv) H1 F h1 h2 kp.right h3
    · dsimp only at q
      rw [if_neg hc] at q
      obtain ⟨h1, h2⟩ := s.gave (F1 := []) os w w1 sm kp
      exact q B1 H1 Fh w1 h1 kp.right h2
end
end DL

namespace DL
open PySem L2

/-! ## statements -/
inductive OutS where
  | nx (δ : SlM) (a : Sto)
  | rt (m : M) (a : Sto)
  | bk (δ : SlM) (a : Sto)
  | ct (δ : SlM) (a : Sto)
  | exc (c : Nat) (ns : List Str) (ds : List D) (δ : SlM) (a : Sto)
  | stuck
def OutS.seq (o : OutS) (f : SlM → Sto → OutS) : OutS := match o with
  | .nx δ a => f δ a
  | .rt m a => .rt m a
  | .bk δ a => .bk δ a
  | .ct δ a => .ct δ a
  | .exc c ns ds δ a => .exc c ns ds δ a
  | .stuck => .stuck
@[simp] theorem seq_nx (δ : SlM) (a : Sto) (f : SlM → Sto → OutS) : (OutS.nx δ a).seq f = f δ a := rfl
@[simp] theorem seq_rt (m : M) (a : Sto) (f : SlM → Sto → OutS) : (OutS.rt m a).seq f = .rt m a := rfl
@[simp] theorem seq_bk (δ : SlM) (a : Sto) (f : SlM → Sto → OutS) : (OutS.bk δ a).seq f = .bk δ a := rfl
@[simp] theorem seq_ct (δ : SlM) (a : Sto) (f : SlM → Sto → OutS) : (OutS.ct δ a).seq f = .ct δ a := rfl
@[simp] theorem seq_exc (c : Nat) (ns : List Str) (ds : List D) (δ : SlM) (a : Sto) (f : SlM → Sto → OutS) : (OutS.exc c ns ds δ a).seq f = .exc c ns ds δ a := rfl
@[simp] theorem seq_stuck (f : SlM → Sto → OutS) : OutS.stuck.seq f = .stuck := rfl
def Ox.seq {β : Type} (o : Ox β) (f : β → SlM → Sto → OutS) : OutS := match o with
  | .ok b δ a => f b δ a
  | .exc c ns ds δ a => .exc c ns ds δ a
  | .stuck => .stuck
@[simp] theorem oseq_ok {β : Type} (b : β) (δ : SlM) (a : Sto) (f : β → SlM → Sto → OutS) : (Ox.ok b δ a).seq f = f b δ a := rfl
@[simp] theorem oseq_exc {β : Type} (c : Nat) (ns : List Str) (ds : List D) (δ : SlM) (a : Sto) (f : β → SlM → Sto → OutS) : (Ox.exc c ns ds δ a : Ox β).seq f = .exc c ns ds δ a := rfl
@[simp] theorem oseq_stuck {β : Type} (f : β → SlM → Sto → OutS) : (Ox.stuck : Ox β).seq f = .stuck := rfl

/-- what an outcome means for the ends -/
def FinS (G : Gx) (W : WX) (ρ R : List Addr) (B H : Hp) (o : OutS) (D : Ends) : Prop := match o with
  | .nx δ a => ∀ B' H' σ' F', Wd G B' H' ρ a (F' ++ R) → Same B B' → Kp R H H' → OwnS G B' H' ρ δ σ' F' → D.nx σ' H'
  | .rt m a => ∀ B' H' v F', Wd G B' H' ρ a (F' ++ R) → Same B B' → Kp R H H' → Own G B' H' ρ m v F' → D.rt v H'
  | .bk δ a => ∀ B' H' σ' F', Wd G B' H' ρ a (F' ++ R) → Same B B' → Kp R H H' → OwnS G B' H' ρ δ σ' F' → D.bk σ' H'
  | .ct δ a => ∀ B' H' σ' F', Wd G B' H' ρ a (F' ++ R) → Same B B' → Kp R H H' → OwnS G B' H' ρ δ σ' F' → D.ct σ' H'
  | .exc c ns ds δ a => ∀ B' H' σ' dd F', Wd G B' H' ρ a (F' ++ R) → Same B B' → Kp R H H' → XdO G B' ρ ns ds dd → OwnS G B' H' ρ δ σ' F' → W (.ref (G.T c)) dd σ' H'
  | .stuck => False
abbrev SM := SlM → Sto → OutS
def SOk (G : Gx) (W : WX) (t : TS) (f : SM) : Prop := ∀ (ρ R : List Addr) (B H : Hp) (σ : St) (δ : SlM) (a : Sto) (F : List Addr) (D : Ends), Wd G B H ρ a (F ++ R) → OwnS G B H ρ δ σ F → FinS G W ρ R B H (f δ a) D → t D σ H
structure DS (X : Cx) (G : Gx) (W : WX) (st : Stmt) (f : SM) : Prop where
  ex : ∃ t, PS X st t ∧ SOk G W t f
structure DSs (X : Cx) (G : Gx) (W : WX) (st : List Stmt) (f : SM) : Prop where
  ex : ∃ t, PSs X st t ∧ SOk G W t f
section
variable {G : Gx} {W : WX} {ρ R : List Addr} {B B1 H H1 : Hp}
theorem FinS.base {o : OutS} {D : Ends} (h : FinS G W ρ R B H o D) (s : Same B B1) (kp : Kp R H H1) : FinS G W ρ R B1 H1 o D := by
  cases o with
  | nx δ a => exact fun B' H' σ' F' w s' k' x => h B' H' σ' F' w (s.trans s') (kp.trans k') x
  | rt m a => exact fun B' H' σ' F' w s' k' x => h B' H' σ' F' w (s.trans s') (kp.trans k') x
  | bk δ a => exact fun B' H' σ' F' w s' k' x => h B' H' σ' F' w (s.trans s') (kp.trans k') x
  | ct δ a => exact fun B' H' σ' F' w s' k' x => h B' H' σ' F' w (s.trans s') (kp.trans k') x
  | exc c ns ds δ a => exact fun B' H' σ' dd F' w s' k' x y => h B' H' σ' dd F' w (s.trans s') (kp.trans k') x y
  | stuck => exact h
/-- one, then another -/
theorem FinS.seq {o : OutS} {f : SM} {D : Ends} {t : TS} (hf : SOk G W t f) (h : FinS G W ρ R B H (o.seq f) D) : FinS G W ρ R B H o { D with nx := t D } := by
  cases o with
  | nx δ a => exact fun B' H' σ' F' w s' k' x => hf ρ R B' H' σ' δ a F' D w x (FinS.base h s' k')
  | rt m a => exact h
  | bk δ a => exact h
  | ct δ a => exact h
  | exc c ns ds δ a => exact h
  | stuck => exact h
/-- an expression, then what is done with it -/
theorem Ox.fin {o : Ox M} {f : M → SM} {D : Ends} {σ : St} {Q : VK} (h : FinS G W ρ R B H (o.seq f) D)
    (hk : ∀ m δ a B' H' v F' F, Wd G B' H' ρ a (F' ++ (F ++ R)) → Own G B' H' ρ m v F' → OwnS G B' H' ρ δ σ F → FinS G W ρ R B' H' (f m δ a) D → Q v H') :
    FinX G W ρ R B H σ o (fun _ _ _ _ H' v _ _ => Q v H') := by
  cases o with
  | ok m δ a => exact fun B' H' v F F' w s k o1 o2 => hk m δ a B' H' v F' F w o1 o2 (FinS.base h s k)
  | exc c ns ds δ a => exact fun B' H' dd F w s k x o2 => h B' H' σ dd F w s k x o2
  | stuck => exact h
theorem Ox.finT {o : Ox Bool} {f : Bool → SM} {D : Ends} {σ : St} {Q : Bool → Hp → Prop} (h : FinS G W ρ R B H (o.seq f) D)
    (hk : ∀ b δ a B' H' F, Wd G B' H' ρ a (F ++ R) → OwnS G B' H' ρ δ σ F → FinS G W ρ R B' H' (f b δ a) D → Q b H') :
    FinXT G W ρ R B H σ o (fun b _ _ _ H' _ => Q b H') := by
  cases o with
  | ok b δ a => exact fun B' H' F w s k o2 => hk b δ a B' H' F w o2 (FinS.base h s k)
  | exc c ns ds δ a => exact fun B' H' dd F w s k x o2 => h B' H' σ dd F w s k x o2
  | stuck => exact h
end

section
variable {X : Cx} {G : Gx} {W : WX}
/-! ### one after another -/
def sNil : SM := fun δ a => .nx δ a
theorem SOk.next : SOk G W tNext sNil := fun ρ R B H σ δ a F D w os q => q B H σ F w (Same.refl _) Kp.refl os
theorem dss_nil : DSs X G W [] sNil := ⟨tNext, pss_nil, SOk.next⟩
def sSeq (f g : SM) : SM := fun δ a => (f δ a).seq g
theorem dss_cons {st : Stmt} {rest : List Stmt} {f g : SM} (h : DS X G W st f) (k : DSs X G W rest g) : DSs X G W (st :: rest) (sSeq f g) := by
  obtain ⟨t, p, s⟩ := h.ex
  obtain ⟨u, p2, s2⟩ := k.ex
  exact ⟨_, pss_cons p p2, fun ρ R B H σ δ a F D w os q => s ρ R B H σ δ a F _ w os (FinS.seq s2 q)⟩
theorem dss_one {st : Stmt} {f : SM} (h : DS X G W st f) : DSs X G W [st] f := by
  obtain ⟨t, p, s⟩ := h.ex
  exact ⟨t, pss_one p, s⟩
theorem ds_pass {pos : Pos} : DS X G W (.Pass pos) sNil := ⟨tNext, ps_pass, SOk.next⟩
theorem ds_doc {x j pos pos'} : DS X G W (.Expr (.Constant (.str x) j pos) pos') sNil := ⟨tNext, ps_doc, SOk.next⟩
def sBrk : SM := fun δ a => .bk δ a
def sCnt : SM := fun δ a => .ct δ a
theorem ds_break {pos : Pos} : DS X G W (.Break pos) sBrk := ⟨tBreak, ps_break, fun ρ R B H σ δ a F D w os q => q B H σ F w (Same.refl _) Kp.refl os⟩
theorem ds_continue {pos : Pos} : DS X G W (.Continue pos) sCnt := ⟨tCont, ps_continue, fun ρ R B H σ δ a F D w os q => q B H σ F w (Same.refl _) Kp.refl os⟩
/-! ### x = e -/
/-- what stands in a slot, from now on -/
def put (i : Nat) (m : M) (δ : SlM) (a : Sto) : OutS := if i < δ.length then .nx (δ.set i (some m)) a else .stuck
theorem put_ok {ρ R : List Addr} {B H : Hp} {i : Nat} {m : M} {v : V} {F' F : List Addr} {δ : SlM} {σ : St} {a : Sto} {D : Ends} (w : Wd G B H ρ a (F' ++ (F ++ R))) (om : Own G B H ρ m v F') (os : OwnS G B H ρ δ σ F) (q : FinS G W ρ R B H (put i m δ a) D) : D.nx (σ.set i (some v)) H := by
  unfold put at q
  by_cases hi : i < δ.length
  · rw [if_pos hi] at q
    obtain ⟨Fi, Fr, F2, p1, p2, h⟩ := OwnS.set om os hi
    have w1 : Wd G B H ρ a (Fi ++ (F2 ++ R)) := by
      refine w.perm ?_
      have e1 : (F ++ R).Perm (Fi ++ (Fr ++ R)) := by
        rw [← List.append_assoc]
        exact List.Perm.append_right R p1
      have e2 : (F2 ++ R).Perm (F' ++ (Fr ++ R)) := by
        rw [← List.append_assoc]
        exact List.Perm.append_right R p2
      refine (List.Perm.append_left F' e1).trans ?_
      refine List.Perm.trans ?_ (List.Perm.append_left Fi e2.symm)
      have y := List.Perm.append_right (Fr ++ R) (List.perm_append_comm (l₁ := F') (l₂ := Fi))
      simpa only [List.append_assoc] using y
    exact q B H _ F2 w1.drop (Same.refl _) Kp.refl h
  · rw [if_neg hi] at q
    exact q.elim
def sSet (i : Nat) (I : List Nat) (f : EM) : SM := fun δ a => (lift I f δ a).seq (put i)
theorem SOk.set {t : TE} {f : EM} {i : Nat} {I : List Nat} (h : MOk G W t f) : SOk G W (tAsg t (gName i)) (sSet i I f) := fun ρ R B H σ δ a F D w os q =>
  lift_ok h w os (Ox.fin q fun m δ' a' B' H' v F' F1 w' om os' q' => put_ok w' om os' q')
theorem ds_set {i : Nat} {x : Str} {e : Expr} {f : EM} {pos pos' : Pos} (I : List Nat) (hN : X.N.Nodup) (hi : X.N[i]? = some x) (hx : Loc X.env.scope x) (h : DM X G W e f) (hs : swapsWith e (some (.Name x pos')) pos.line X.env = pure false := by rfl) (hf : X.fn x = true ∨ X.env.scope.names.lookup x = some .local := by first | exact .inl rfl | exact .inr rfl | assumption) :
    DS X G W (.Assign [.Name x pos'] e pos) (sSet i I f) := by
  obtain ⟨t, p, s⟩ := h.ex
  exact ⟨_, ps_set hN hi hx p hs hf, SOk.set s⟩
/-! ### e -/
def sDrop (I : List Nat) (f : EM) : SM := fun δ a => (lift I f δ a).seq fun _ δ' a' => .nx δ' a'
theorem ds_expr {e : Expr} {f : EM} {pos : Pos} (I : List Nat) (h : DM X G W e f) (hs : swapsWith e none pos.line X.env = pure false := by rfl) : DS X G W (.Expr e pos) (sDrop I f) := by
  obtain ⟨t, p, s⟩ := h.ex
  exact ⟨_, ps_expr p hs, fun ρ R B H σ δ a F D w os q => lift_ok s w os (Ox.fin q fun m δ' a' B' H' v F' F1 w' om os' q' => q' B' H' σ F1 w'.drop (Same.refl _) Kp.refl os')⟩
/-! ### return -/
def sRet (I : List Nat) (f : EM) : SM := fun δ a => (lift I f δ a).seq fun m _ a' => .rt m a'
theorem ds_ret {e : Expr} {f : EM} {pos : Pos} (I : List Nat) (h : DM X G W e f) : DS X G W (.Return (some e) pos) (sRet I f) := by
  obtain ⟨t, p, s⟩ := h.ex
  refine ⟨_, ps_ret p, fun ρ R B H σ δ a F D w os q => lift_ok s w os (Ox.fin q fun m δ' a' B' H' v F' F1 w' om os' q' => q' B' H' v F' ?_ (Same.refl _) Kp.refl om)⟩
  have z : (F' ++ (F1 ++ R)).Perm (F1 ++ (F' ++ R)) := by
    rw [← List.append_assoc, ← List.append_assoc]
    exact List.Perm.append_right R List.perm_append_comm
  exact (w'.perm z).drop
/-- a slot's own thing moves out -/
def sRetO (i : Nat) : SM := fun δ a => match δ[i]? with
  | some (some m) => .rt m a
  | _ => .stuck
theorem ds_retO {i : Nat} {x : Str} {p pos : Pos} (hN : X.N[i]? = some x) (hv : Vis X.env.scope x) (hd : (x == ("__debug__" : Str)) = false := by decide) (hcd : (x == ("__classdict__" : Str)) = false := by decide) : DS X G W (.Return (some (.Name x p)) pos) (sRetO i) := by
  refine ⟨_, ps_ret (pe_var hN hv hd hcd), fun ρ R B H σ δ a F D w os q => ?_⟩
  unfold sRetO at q
  cases e : δ[i]? with
  | none =>
    rw [e] at q
    exact q.elim
  | some o =>
    cases o with
    | none =>
      rw [e] at q
      exact q.elim
    | some m =>
      rw [e] at q
      obtain ⟨v, Fi, Fr, p1, h1, h2, h3⟩ := OwnS.take os e
      refine ⟨v, h1, q B H v Fi ?_ (Same.refl _) Kp.refl h2⟩
      have z : (F ++ R).Perm (Fr ++ (Fi ++ R)) := by
        rw [← List.append_assoc]
        exact List.Perm.append_right R (p1.trans List.perm_append_comm)
      exact (w.perm z).drop
def sRetN : SM := fun _ a => .rt (.val .non) a
theorem ds_retN {pos : Pos} : DS X G W (.Return none pos) sRetN := ⟨_, ps_retN, fun ρ R B H σ δ a F D w os q => q B H .non [] w.drop (Same.refl _) Kp.refl ⟨rfl, rfl⟩⟩
/-! ### if -/
def sIf (I : List Nat) (c : ET) (f g : SM) : SM := fun δ a => (liftT I c δ a).seq fun b δ' a' => if b = true then f δ' a' else g δ' a'
theorem ds_if {e : Expr} {p1 p2 : List Stmt} {c : ET} {f g : SM} {pos : Pos} (I : List Nat) (hc : DT X G W e c) (hf : DSs X G W p1 f) (hg : DSs X G W p2 g) : DS X G W (.If e p1 p2 pos) (sIf I c f g) := by
  obtain ⟨t, p, s⟩ := hc.ex
  obtain ⟨t1, p1, s1⟩ := hf.ex
  obtain ⟨t2, p2, s2⟩ := hg.ex
  refine ⟨_, ps_if p p1 p2, fun ρ R B H σ δ a F D w os q => liftT_ok s w os (Ox.finT q fun b δ' a' B' H' F1 w' os' q' => ?_)⟩
  cases b with
  | true => exact s1 ρ R B' H' σ δ' a' F1 D w' os' q'
  | false => exact s2 ρ R B' H' σ δ' a' F1 D w' os' q'
/-! ### while -/
def sWhile (I : List Nat) (c : ET) (f : SM) : Nat → SM
  | 0 => fun _ _ => .stuck
  | n + 1 => fun δ a => (liftT I c δ a).seq fun b δ' a' => if b = true then (match f δ' a' with
      | .nx δ'' a'' => sWhile I c f n δ'' a''
      | .ct δ'' a'' => sWhile I c f n δ'' a''
      | .bk δ'' a'' => .nx δ'' a''
      | .rt m a'' => .rt m a''
      | .exc k ns ds δ'' a'' => .exc k ns ds δ'' a''
      | .stuck => .stuck) else .nx δ' a'
theorem ds_while {e : Expr} {body : List Stmt} {c : ET} {f : SM} {pos : Pos} (I : List Nat) (n : Nat) (hp : PassesOwn (model X.prog X.w) X.A X.env X.xe) (hc : DT X G W e c) (hf : DSs X G W body f) : DS X G W (.While e body [] pos) (sWhile I c f n) := by
  obtain ⟨t, p, s⟩ := hc.ex
  obtain ⟨t1, p1, s1⟩ := hf.ex
  refine ⟨_, ps_while hp p p1, fun ρ R B H σ δ a F D w os q => ?_⟩
  refine ⟨fun m σ H => ∃ δ a B F, Wd G B H ρ a (F ++ R) ∧ OwnS G B H ρ δ σ F ∧ FinS G W ρ R B H (sWhile I c f m δ a) D, ⟨n, δ, a, B, F, w, os, q⟩, ?_⟩
  rintro m σ H ⟨δ, a, B, F, w, os, q⟩
  cases m with
  | zero => exact q.elim
  | succ m =>
    refine liftT_ok s w os (Ox.finT (D := D) q fun b δ' a' B' H' F1 w' os' q' => ?_)
    cases b with
    | false =>
      show D.nx σ H'
      exact q' B' H' σ F1 w' (Same.refl _) Kp.refl os'
    | true =>
      refine ⟨fun σ1 H1 => ∃ δ a B F, Wd G B H1 ρ a (F ++ R) ∧ OwnS G B H1 ρ δ σ1 F ∧ FinS G W ρ R B H1 (sWhile I c f m δ a) D, fun σ' H' z => ⟨m, Nat.lt_succ_self _, z⟩, ?_⟩
      refine s1 ρ R B' H' σ δ' a' F1 _ w' os' ?_
      rw [if_pos rfl] at q'
      cases ef : f δ' a' with
      | nx δ2 a2 =>
        rw [ef] at q'
        exact fun B2 H2 σ2 F2 w2 sm k2 os2 => ⟨δ2, a2, B2, F2, w2, os2, FinS.base q' sm k2⟩
      | ct δ2 a2 =>
        rw [ef] at q'
        exact fun B2 H2 σ2 F2 w2 sm k2 os2 => ⟨δ2, a2, B2, F2, w2, os2, FinS.base q' sm k2⟩
      | bk δ2 a2 =>
        rw [ef] at q'
        exact q'
      | rt m2 a2 =>
        rw [ef] at q'
        exact q'
      | exc k ns ds δ2 a2 =>
        rw [ef] at q'
        exact q'
      | stuck =>
        rw [ef] at q'
        exact q'
/-! ### targets -/
def gOne (i : Nat) (d : D) (δ : SlM) : Option SlM := if i < δ.length then some (δ.set i (some (.val d))) else none
structure DG (X : Cx) (G : Gx) (tg : Expr) (g : D → SlM → Option SlM) : Prop where
  ex : ∃ t, PG X tg t ∧ ∀ (ρ R : List Addr) (B H : Hp) (σ : St) (δ δ' : SlM) (a : Sto) (F : List Addr) (d : D) (v : V) (Q : St → Hp → Prop), Wd G B H ρ a (F ++ R) → OwnS G B H ρ δ σ F → Rep G B ρ d v → g d δ = some δ' →
    (∀ B' σ' F', Same B B' → Wd G B' H ρ a (F' ++ R) → OwnS G B' H ρ δ' σ' F' → Q σ' H) → t v σ H Q
structure DGs (X : Cx) (G : Gx) (ts : List Expr) (g : List D → SlM → Option SlM) : Prop where
  ex : ∃ t, PGs X ts t ∧ ∀ (ρ R : List Addr) (B H : Hp) (σ : St) (δ δ' : SlM) (a : Sto) (F : List Addr) (ds : List D) (vs : List V) (Q : St → Hp → Prop), Wd G B H ρ a (F ++ R) → OwnS G B H ρ δ σ F → Reps G B ρ ds vs → g ds δ = some δ' →
    (∀ B' σ' F', Same B B' → Wd G B' H ρ a (F' ++ R) → OwnS G B' H ρ δ' σ' F' → Q σ' H) → t vs σ H Q
theorem dg_name {i : Nat} {x : Str} {pos : Pos} (hN : X.N.Nodup) (hi : X.N[i]? = some x) (hx : Loc X.env.scope x) (hf : X.fn x = true ∨ X.env.scope.names.lookup x = some .local := by first | exact .inl rfl | exact .inr rfl | assumption) : DG X G (.Name x pos) (gOne i) := by
  refine ⟨gName i, pg_name hN hi hx hf, fun ρ R B H σ δ δ' a F d v Q w os r e q => ?_⟩
  unfold gOne at e
  by_cases h : i < δ.length
  · rw [if_pos h] at e
    cases e
    obtain ⟨Fi, Fr, F2, p1, p2, h1⟩ := OwnS.set (m := .val d) ⟨rfl, r⟩ os h
    have z : (F ++ R).Perm (Fi ++ (F2 ++ R)) := by
      have e1 : (F ++ R).Perm (Fi ++ (Fr ++ R)) := by
        rw [← List.append_assoc]
        exact List.Perm.append_right R p1
      exact e1.trans (List.Perm.append_left Fi (List.Perm.append_right R (by simpa using p2.symm)))
    exact q B _ F2 (Same.refl _) (w.perm z).drop h1
  · rw [if_neg h] at e
    cases e
def gsNil (ds : List D) (δ : SlM) : Option SlM := match ds with
  | [] => some δ
  | _ => none
def gsCons (g : D → SlM → Option SlM) (gs : List D → SlM → Option SlM) (ds : List D) (δ : SlM) : Option SlM := match ds with
  | [] => none
  | d :: ds => (g d δ).bind (gs ds)
theorem dgs_nil : DGs X G [] gsNil := ⟨gNil, pgs_nil, fun ρ R B H σ δ δ' a F ds vs Q w os r e q => by
  cases ds with
  | nil =>
    cases e
    cases vs with
    | nil => exact ⟨rfl, q B σ F (Same.refl _) w os⟩
    | cons v vs => obtain ⟨_, _, z, _⟩ | _ := r
  | cons d ds => cases e⟩
theorem dgs_cons {e : Expr} {es : List Expr} {g : D → SlM → Option SlM} {gs : List D → SlM → Option SlM} (h : DG X G e g) (k : DGs X G es gs)
    (hs : (assignEach (e :: es) X.env).map (·.2) = assign e X.env :: (assignEach es X.env).map (·.2) := by rfl) : DGs X G (e :: es) (gsCons g gs) := by
  obtain ⟨t, p, s⟩ := h.ex
  obtain ⟨u, p2, s2⟩ := k.ex
  refine ⟨gCons t u, pgs_cons p p2 hs, fun ρ R B H σ δ δ' a F ds vs Q w os r e q => ?_⟩
  cases ds with
  | nil => cases e
  | cons d ds =>
    obtain ⟨x, vs', rfl, r1, r2⟩ := r
    have e' : (g d δ).bind (gs ds) = some δ' := e
    cases e1 : g d δ with
    | none =>
      rw [e1] at e'
      cases e'
    | some δ1 =>
      rw [e1] at e'
      refine ⟨x, vs', rfl, s ρ R B H σ δ δ1 a F d x _ w os r1 e1 fun B1 σ1 F1 sm w1 os1 => ?_⟩
      exact s2 ρ R B1 H σ1 δ1 δ' a F1 ds vs' Q w1 os1 (Reps.mono sm ds vs' r2) e' fun B2 σ2 F2 sm2 w2 os2 => q B2 σ2 F2 (sm.trans sm2) w2 os2
def gTp (n : Nat) (gs : List D → SlM → Option SlM) (d : D) (δ : SlM) : Option SlM := match d with
  | .tup l => if l.length = n then gs l δ else none
  | _ => none
theorem dg_tup {es : List Expr} {k : Nat} {gs : List D → SlM → Option SlM} {pos : Pos} (n : Nat) (hc : X.calm = true) (hK : G.K = X.K) (h : DGs X G es gs)
    (hn : (assignEach es X.env).length = n := by rfl) (hst : (assignEach es X.env).findIdx? (·.1) = none := by rfl) : DG X G (.Tuple es k pos) (gTp n gs) := by
  obtain ⟨t, p, s⟩ := h.ex
  refine ⟨gTup X.K n t, pg_tup hc p hn hst, fun ρ R B H σ δ δ' a F d v Q w os r e q => ?_⟩
  cases d with
  | tup l =>
    obtain ⟨p, xs, rfl, h1, h2⟩ := r
    have e' : (if l.length = n then gs l δ else none) = some δ' := e
    by_cases hl : l.length = n
    · rw [if_pos hl] at e'
      exact ⟨p, xs, rfl, hK ▸ sqt_same w.ex h1, by rw [← h2.len]; exact hl, s ρ R B H σ δ δ' a F l xs Q w os h2 e' q⟩
    · rw [if_neg hl] at e'
      cases e'
  | _ => cases e
end
end DL

namespace DL
open PySem L2

/-! ## what a loop walks -/
def noB : Hp := fun _ => none
theorem same_noB {B : Hp} : Same noB B := fun p o e => by cases e
/-- the walk serves ds -/
def Srv (G : Gx) (B : Hp) (ρ : List Addr) (J : It) (ds : List D) : Prop := ∀ (B' H' : Hp) (a' : Sto) (R' : List Addr), Same B B' → Wd G B' H' ρ a' R' →
  (∀ i, i < ds.length → J.go i H') ∧ J.stop ds.length H' ∧ ∀ i d, ds[i]? = some d → ∀ x H'', J.yld i H' x H'' → ∃ B'', Wd G B'' H'' ρ a' R' ∧ Same B' B'' ∧ Kp R' H' H'' ∧ Rep G B'' ρ d x
theorem Srv.any {G : Gx} {B : Hp} {ρ : List Addr} {J : It} {ds : List D} (h : Srv G noB ρ J ds) : Srv G B ρ J ds := fun B' H' a' R' _ w => h B' H' a' R' same_noB w
theorem Srv.mono {G : Gx} {B B1 : Hp} {ρ : List Addr} {J : It} {ds : List D} (h : Srv G B ρ J ds) (s : Same B B1) : Srv G B1 ρ J ds := fun B' H' a' R' s' w => h B' H' a' R' (s.trans s') w
def bs (fr : Bool) (B : Hp) : Hp := if fr = true then noB else B
abbrev EI := Sw → Sto → Out (List D)
def IOk (G : Gx) (W : WX) (fr : Bool) (wi : TI) (f : EI) : Prop := ∀ (ρ R : List Addr) (B H : Hp) (σ : St) (δ : Sw) (a : Sto) (K : It → Hp → Prop), Wd G B H ρ a R → Sls G B ρ δ σ →
  Fin G W ρ R B H σ (f δ a) (fun ds _ B' H' => ∀ J, Srv G (bs fr B') ρ J ds → K J H') → wi σ H K
structure DI (X : Cx) (G : Gx) (W : WX) (tg e : Expr) (fr : Bool) (f : EI) : Prop where
  ex : ∃ wi, PI X tg e wi ∧ IOk G W fr wi f
/-- an iterator in a statement -/
def liftI (fr : Bool) (I : List Nat) (f : EI) (δ : SlM) (a : Sto) : Ox (List D) := match f (see I 0 δ) a with
  | .ok b a' => .ok b (if (fr && clA (kin I 0 δ) a') = true then δ else frz I 0 δ) a'
  | .exc c ns ds a' => .exc c ns ds (if (cls (kin I 0 δ) ds && clA (kin I 0 δ) a') = true then δ else frz I 0 δ) a'
  | .stuck => .stuck
section
variable {G : Gx} {W : WX} {ρ R F : List Addr} {B H : Hp} {σ : St} {δ : SlM} {a : Sto} {I : List Nat}
theorem liftI_ok {fr : Bool} {wi : TI} {f : EI} (hf : IOk G W fr wi f) (w : Wd G B H ρ a (F ++ R)) (os : OwnS G B H ρ δ σ F) {K : It → Hp → Prop} {g : List D → SM} {D : Ends} (q : FinS G W ρ R B H ((liftI fr I f δ a).seq g) D)
    (hk : ∀ ds δ' a' B' H' F' J, Wd G B' H' ρ a' (F' ++ R) → OwnS G B' H' ρ δ' σ F' → Srv G B' ρ J ds → FinS G W ρ R B' H' (g ds δ' a') D → K J H') : wi σ H K := by
  obtain ⟨Fv, Fh, s⟩ := seen I δ 0 σ F os
  refine hf ρ (Fh ++ R) (ov B H Fv) H σ (see I 0 δ) a K (s.start w) (s.sl _ (s.sameOv w) fun p hp => ov_in hp) ?_
  unfold liftI at q
  cases c : f (see I 0 δ) a with
  | stuck =>
    rw [c] at q
    exact q
  | exc cc ns ds a1 =>
    rw [c] at q
    intro B1 H1 dd w1 sm kp x
    by_cases hc : (cls (kin I 0 δ) ds && clA (kin I 0 δ) a1) = true
    · dsimp only at q
      rw [if_pos hc] at q
      obtain ⟨c1, c2⟩ := Bool.and_eq_true_iff.mp hc
      obtain ⟨h1, h2, h3, h4⟩ := s.back (F1 := []) os w w1 sm kp c2
      exact q (wo B1 Fv) H1 σ dd F h1 h2 kp.right (XdO.wo h4 c1 x) h3
    · dsimp only at q
      rw [if_neg hc] at q
      obtain ⟨h1, h2⟩ := s.gave (F1 := []) os w w1 sm kp
      exact q B1 H1 σ dd Fh w1 h1 kp.right x h2
  | ok ds a1 =>
    rw [c] at q
    intro B1 H1 w1 sm kp J sv
    dsimp only at q
    by_cases hc : (fr && clA (kin I 0 δ) a1) = true
    · rw [if_pos hc] at q
      obtain ⟨rfl, c2⟩ := Bool.and_eq_true_iff.mp hc
      obtain ⟨h1, h2, h3, h4⟩ := s.back (F1 := []) os w w1 sm kp c2
      exact hk ds δ a1 (wo B1 Fv) H1 F J h1 h3 (Srv.any sv) (FinS.base q h2 kp.right)
    · rw [if_neg hc] at q
      obtain ⟨h1, h2⟩ := s.gave (F1 := []) os w w1 sm kp
      have sv' : Srv G B1 ρ J ds := by
        cases fr with
        | true => exact Srv.any sv
        | false => exact sv
      exact hk ds _ a1 B1 H1 Fh J w1 h2 sv' (FinS.base q h1 kp.right)
/-! ## for -/
def sLoop (g : D → SlM → Option SlM) (f : SM) : List D → SM
  | [] => fun δ a => .nx δ a
  | d :: ds => fun δ a => match g d δ with
    | none => .stuck
    | some δ1 => match f δ1 a with
      | .nx δ2 a2 => sLoop g f ds δ2 a2
      | .ct δ2 a2 => sLoop g f ds δ2 a2
      | .bk δ2 a2 => .nx δ2 a2
      | .rt m a2 => .rt m a2
      | .exc k ns es δ2 a2 => .exc k ns es δ2 a2
      | .stuck => .stuck
def sFor (fr : Bool) (I : List Nat) (it : EI) (g : D → SlM → Option SlM) (f : SM) : SM := fun δ a => (liftI fr I it δ a).seq fun ds => sLoop g f ds
theorem drop_get {ds : List D} {i : Nat} (hi : i < ds.length) : ∃ d, ds[i]? = some d ∧ ds.drop i = d :: ds.drop (i + 1) := ⟨ds[i], List.getElem?_eq_getElem hi, List.drop_eq_getElem_cons hi⟩
theorem ds_for {X : Cx} {tg e : Expr} {body : List Stmt} {fr : Bool} {it : EI} {g : D → SlM → Option SlM} {f : SM} {pos : Pos} (I : List Nat) (hp : PassesOwn (model X.prog X.w) X.A X.env X.xe) (hc : X.calm = true) (hi : DI X G W tg e fr it) (hg : DG X G tg g) (hb : DSs X G W body f)
    (hs : ∀ x, foldedSetIterable e X.env x = pure x := by intro _; rfl) : DS X G W (.For tg e body [] pos) (sFor fr I it g f) := by
  obtain ⟨wi, p, s⟩ := hi.ex
  obtain ⟨tg', p1, s1⟩ := hg.ex
  obtain ⟨tb, p2, s2⟩ := hb.ex
  refine ⟨_, ps_for hp hc p p1 p2 hs, fun ρ R B H σ δ a F D w os q => liftI_ok s w os q fun ds δ' a' B' H' F' J w' os' sv q' => ?_⟩
  refine ⟨fun i m σ H => ∃ δ a B F, m = ds.length - i ∧ i ≤ ds.length ∧ Same B' B ∧ Wd G B H ρ a (F ++ R) ∧ OwnS G B H ρ δ σ F ∧ FinS G W ρ R B H (sLoop g f (ds.drop i) δ a) D, ⟨ds.length, δ', a', B', F', by simp, Nat.zero_le _, Same.refl _, w', os', q'⟩, ?_⟩
  rintro i m σ1 H1 ⟨δ1, a1, B1, F1, rfl, hi, sm1, w1, os1, q1⟩
  have v := sv B1 H1 a1 (F1 ++ R) sm1 w1
  by_cases hlt : i < ds.length
  · obtain ⟨d, hd, hdr⟩ := drop_get hlt
    rw [hdr] at q1
    refine .inr ⟨v.1 i hlt, fun σ2 H2 => ∃ δ a B F, Same B' B ∧ Wd G B H2 ρ a (F ++ R) ∧ OwnS G B H2 ρ δ σ2 F ∧ FinS G W ρ R B H2 (sLoop g f (ds.drop (i + 1)) δ a) D, fun σ2 H2 ⟨δ, a, B, F, z⟩ => ⟨ds.length - (i + 1), by omega, δ, a, B, F, rfl, hlt, z⟩, fun x H2 y => ?_⟩
    obtain ⟨B2, w2, sm2, kp2, r2⟩ := v.2.2 i d hd x H2 y
    have os2 : OwnS G B2 H2 ρ δ1 σ1 F1 := OwnS.mono sm2 _ _ _ (fun p hp => kp2 p (List.mem_append_left _ hp)) os1
    have q2 := FinS.base q1 sm2 kp2.right
    unfold sLoop at q2
    cases eg : g d δ1 with
    | none =>
      rw [eg] at q2
      exact q2.elim
    | some δ3 =>
      rw [eg] at q2
      refine s1 ρ R B2 H2 σ1 δ1 δ3 a1 F1 d x _ w2 os2 r2 eg fun B3 σ3 F3 sm3 w3 os3 => s2 ρ R B3 H2 σ3 δ3 a1 F3 _ w3 os3 ?_
      dsimp only at q2
      have q3 := FinS.base q2 sm3 Kp.refl
      cases ef : f δ3 a1 with
      | nx δ4 a4 =>
        rw [ef] at q3
        exact fun B4 H4 σ4 F4 w4 sm4 k4 os4 => ⟨δ4, a4, B4, F4, ((sm1.trans sm2).trans sm3).trans sm4, w4, os4, FinS.base q3 sm4 k4⟩
      | ct δ4 a4 =>
        rw [ef] at q3
        exact fun B4 H4 σ4 F4 w4 sm4 k4 os4 => ⟨δ4, a4, B4, F4, ((sm1.trans sm2).trans sm3).trans sm4, w4, os4, FinS.base q3 sm4 k4⟩
      | bk δ4 a4 =>
        rw [ef] at q3
        exact q3
      | rt m4 a4 =>
        rw [ef] at q3
        exact q3
      | exc k ns es δ4 a4 =>
        rw [ef] at q3
        exact q3
      | stuck =>
        rw [ef] at q3
        exact q3
  · have e : i = ds.length := by omega
    rw [e, List.drop_length] at q1
    rw [e]
    exact .inl ⟨v.2.1, q1 B1 H1 σ1 F1 w1 (Same.refl _) Kp.refl os1⟩
end
/-! ## walks -/
theorem pi_either {X : Cx} {tg e : Expr} {w1 w2 : TI} (h1 : PI X tg e w1) (h2 : PI X tg e w2) : PI X tg e (fun σ H R => w1 σ H R ∨ w2 σ H R) := ⟨fun pins s σ H R I h => h.elim (h1.run pins s σ H R I) (h2.run pins s σ H R I)⟩
section
variable {X : Cx} {G : Gx} {W : WX} {tg e : Expr}
def items : D → Option (List D)
  | .lst l => some l
  | .tup l => some l
  | .scr l => some (l.map D.int)
  | .str s => some (s.cps.toList.map fun c => D.str ⟨#[c]⟩)
  | _ => none
def iSeq (f : EV) : EI := fun δ a => (f δ a).opt items
theorem srv_lst {B : Hp} {ρ : List Addr} {p : Addr} {xs : List V} {l : List D} (h : SqL G.K B p xs) (r : Reps G B ρ l xs) : Srv G B ρ (Itl G.K p) l := fun B' H' a' R' sm w => by
  have h' : SqL G.K H' p xs := (sm.trans w.ex).seq h
  have len := r.len
  refine ⟨fun i hi => ?_, ⟨xs, h', by omega⟩, fun i d hd x H'' y => ?_⟩
  · exact ⟨xs, xs[i]'(by omega), h', List.getElem?_eq_getElem (by omega)⟩
  · obtain ⟨rfl, y⟩ := y
    obtain ⟨x', hx, rx⟩ := r.get hd
    have e := y xs h'
    rw [hx] at e
    cases e
    exact ⟨B', w, Same.refl _, Kp.refl, Rep.mono sm d _ rx⟩
theorem srv_tup {B : Hp} {ρ : List Addr} {p : Addr} {xs : List V} {l : List D} (h : SqT G.K B p xs) (r : Reps G B ρ l xs) : Srv G B ρ (Itt G.K p) l := fun B' H' a' R' sm w => by
  have h' : SqT G.K H' p xs := sqt_same (sm.trans w.ex) h
  have len := r.len
  refine ⟨fun i hi => ?_, ⟨xs, h', by omega⟩, fun i d hd x H'' y => ?_⟩
  · exact ⟨xs, xs[i]'(by omega), h', List.getElem?_eq_getElem (by omega)⟩
  · obtain ⟨rfl, y⟩ := y
    obtain ⟨x', hx, rx⟩ := r.get hd
    have e := y xs h'
    rw [hx] at e
    cases e
    exact ⟨B', w, Same.refl _, Kp.refl, Rep.mono sm d _ rx⟩
theorem srv_str {B : Hp} {ρ : List Addr} {s : Str} : Srv G B ρ (Its s) (s.cps.toList.map fun c => D.str ⟨#[c]⟩) := fun B' H' a' R' sm w => by
  refine ⟨fun i hi => by simpa [Its] using hi, by simp [Its], fun i d hd x H'' y => ?_⟩
  obtain ⟨rfl, c, hc, rfl⟩ := y
  refine ⟨B', w, Same.refl _, Kp.refl, ?_⟩
  have e : some d = some (D.str ⟨#[c]⟩) := by
    rw [← hd, List.getElem?_map, Array.getElem?_toList, hc] <;> rfl
  cases e
  exact rfl
theorem di_seq {f : EV} (hK : G.K = X.K) (h : DV X G W e f) : DI X G W tg e false (iSeq f) := by
  obtain ⟨t, p, s⟩ := h.ex
  refine ⟨_, pi_either (pi_list p) (pi_either (pi_tup p) (pi_str p)), fun ρ R B H σ δ a K w sl q => ?_⟩
  rw [← hK]
  unfold iSeq at q
  cases c : f δ a with
  | stuck =>
    rw [c] at q
    exact q.elim
  | exc k ns ds a1 =>
    refine .inl (s ρ R B H σ δ a _ w sl ?_)
    rw [c] at q ⊢
    exact q
  | ok d a1 =>
    rw [c] at q
    cases d with
    | lst l =>
      have q' : Fin G W ρ R B H σ (Out.ok l a1) (fun ds _ B' H' => ∀ J, Srv G (bs false B') ρ J ds → K J H') := q
      refine .inl (s ρ R B H σ δ a _ w sl ?_)
      rw [c]
      intro B' H' w' sm kp v r
      obtain ⟨p, xs, rfl, h1, h2⟩ := r
      exact ⟨p, rfl, ⟨xs, .of (w'.ex _ _ h1)⟩, q' B' H' w' sm kp _ (srv_lst (.of h1) h2)⟩
    | scr l =>
      have q' : Fin G W ρ R B H σ (Out.ok (l.map D.int) a1) (fun ds _ B' H' => ∀ J, Srv G (bs false B') ρ J ds → K J H') := q
      refine .inl (s ρ R B H σ δ a _ w sl ?_)
      rw [c]
      intro B' H' w' sm kp v r
      obtain ⟨p, rfl, h1⟩ := r
      exact ⟨p, rfl, ⟨_, w'.ex.seq h1⟩, q' B' H' w' sm kp _ (srv_lst h1 (Reps.ints.mpr rfl))⟩
    | tup l =>
      have q' : Fin G W ρ R B H σ (Out.ok l a1) (fun ds _ B' H' => ∀ J, Srv G (bs false B') ρ J ds → K J H') := q
      refine .inr (.inl (s ρ R B H σ δ a _ w sl ?_))
      rw [c]
      intro B' H' w' sm kp v r
      obtain ⟨p, xs, rfl, h1, h2⟩ := r
      exact ⟨p, rfl, ⟨xs, sqt_same w'.ex h1⟩, q' B' H' w' sm kp _ (srv_tup h1 h2)⟩
    | str t =>
      have q' : Fin G W ρ R B H σ (Out.ok (t.cps.toList.map fun c => D.str ⟨#[c]⟩) a1) (fun ds _ B' H' => ∀ J, Srv G (bs false B') ρ J ds → K J H') := q
      refine .inr (.inr (s ρ R B H σ δ a _ w sl ?_))
      rw [c]
      intro B' H' w' sm kp v r
      exact ⟨t, r, q' B' H' w' sm kp _ srv_str⟩
    | _ => exact q.elim
/-! ranges -/
def rngL (lo : Int) (n : Nat) : List D := (List.range n).map fun (k : Nat) => D.int (lo + ((k : Nat) : Int))
def big (i : Int) : Bool := decide (-(2 ^ 62) ≤ i ∧ i < 2 ^ 62)
def gRng1 : List D → Option (List D)
  | [.int j] => if big j = true then some (rngL 0 j.toNat) else none
  | _ => none
def gRng2 : List D → Option (List D)
  | [.int i, .int j] => if big i = true ∧ big j = true then some (rngL i (j - i).toNat) else none
  | _ => none
def iRng1 (f : EA) : EI := fun δ a => (f δ a).opt gRng1
def iRng2 (f : EA) : EI := fun δ a => (f δ a).opt gRng2
theorem srv_rng {B : Hp} {ρ : List Addr} {lo : Int} {n : Nat} : Srv G B ρ (Itr lo n) (rngL lo n) := fun B' H' a' R' sm w => by
  refine ⟨fun i hi => by simpa [Itr, rngL] using hi, by simp [Itr, rngL], fun i d hd x H'' y => ?_⟩
  obtain ⟨rfl, rfl⟩ := y
  refine ⟨B', w, Same.refl _, Kp.refl, ?_⟩
  unfold rngL at hd
  rw [List.getElem?_map] at hd
  by_cases hi : i < n
  · rw [List.getElem?_range hi] at hd
    cases hd
    exact rfl
  · rw [List.getElem?_eq_none (by simpa using hi)] at hd
    cases hd
theorem di_range1 {a1 : Expr} {f : EA} {p pos : Pos} (hg : Gl X "range") (hm : X.mg "range" = none) (h : DA X G W [a1] f) (hs : starEach [a1] X.env = [(false, eval a1 X.env)] := by rfl) : DI X G W tg (.Call (.Name "range" p) [a1] [] pos) true (DL.iRng1 f) := by
  obtain ⟨t, pa, s⟩ := h.ex
  refine ⟨_, pi_range1 hg hm pa hs, fun ρ R B H σ δ a K w sl q => s ρ R B H σ δ a _ w sl (Fin.imp (Fin.seqo q) fun ds a' B' H' w' sm kp q1 vs r => ?_)⟩
  obtain ⟨l, e, q2⟩ := q1
  match ds, e, r with
  | [.int j], e, r =>
    obtain ⟨x, r', rfl, hx, r2⟩ := r
    have hx' : x = .int j := hx
    have r2' : r' = [] := r2
    subst hx' r2'
    have e' : (if big j = true then some (rngL 0 j.toNat) else none) = some l := e
    by_cases hb : big j = true
    · rw [if_pos hb] at e'
      cases e'
      have z := of_decide_eq_true hb
      exact ⟨j, rfl, z.1, z.2, q2 _ srv_rng⟩
    · rw [if_neg hb] at e'
      cases e'
theorem di_range2 {a1 a2 : Expr} {f : EA} {p pos : Pos} (hg : Gl X "range") (hm : X.mg "range" = none) (h : DA X G W [a1, a2] f) (hs : starEach [a1, a2] X.env = [(false, eval a1 X.env), (false, eval a2 X.env)] := by rfl) (hs2 : starEach [a2] X.env = [(false, eval a2 X.env)] := by rfl) : DI X G W tg (.Call (.Name "range" p) [a1, a2] [] pos) true (DL.iRng2 f) := by
  obtain ⟨t, pa, s⟩ := h.ex
  refine ⟨_, pi_range2 hg hm pa hs hs2, fun ρ R B H σ δ a K w sl q => s ρ R B H σ δ a _ w sl (Fin.imp (Fin.seqo q) fun ds a' B' H' w' sm kp q1 vs r => ?_)⟩
  obtain ⟨l, e, q2⟩ := q1
  match ds, e, r with
  | [.int i, .int j], e, r =>
    obtain ⟨x, r', rfl, hx, y, r'', rfl, hy, r2⟩ := r
    have hx' : x = .int i := hx
    have hy' : y = .int j := hy
    have r2' : r'' = [] := r2
    subst hx' hy' r2'
    have e' : (if big i = true ∧ big j = true then some (rngL i (j - i).toNat) else none) = some l := e
    by_cases hb : big i = true ∧ big j = true
    · rw [if_pos hb] at e'
      cases e'
      have z := of_decide_eq_true hb.1
      have z2 := of_decide_eq_true hb.2
      exact ⟨i, j, rfl, ⟨z.1, z.2, z2.1, z2.2⟩, q2 _ srv_rng⟩
    · rw [if_neg hb] at e'
      cases e'
end
end DL

namespace DL
open PySem PySem.Spec PyProof.Rows L2

/-! ## what a def promises -/
abbrev FM := List D → Sto → Out M
def spD (G : Gx) (g : FM) (n : Nat) : Sp := fun vs H Q E => vs.length = n ∧ ∃ (ρ R : List Addr) (B : Hp) (ds : List D) (a : Sto), Wd G B H ρ a R ∧ Reps G B ρ ds vs ∧ FinM G (fun cls d _ H => E cls d H) ρ R B H [] (g ds a) (fun _ _ _ H' v _ => Q v H')
/-- the slots at the entry -/
def ent (n : Nat) (ds : List D) : SlM := ds.map (fun d => some (.val d)) ++ List.replicate (n - ds.length) none
def bodyM (m n : Nat) (f : SM) : FM := fun ds a => if ds.length = m then (match f (ent n ds) a with
  | .nx _ a' => .ok (.val .non) a'
  | .rt r a' => .ok r a'
  | .exc c ns es _ a' => .exc c ns es a'
  | _ => .stuck) else .stuck
section
variable {G : Gx} {B H : Hp} {ρ : List Addr}
theorem OwnS.nones : ∀ k : Nat, OwnS G B H ρ (List.replicate k none) (List.replicate k none) []
  | 0 => ⟨rfl, rfl⟩
  | k + 1 => ⟨none, List.replicate k none, rfl, OwnS.nones k⟩
theorem OwnS.ent : ∀ {ds : List D} {vs : List V} {k : Nat}, Reps G B ρ ds vs → OwnS G B H ρ (ds.map (fun d => some (.val d)) ++ List.replicate k none) (vs.map some ++ List.replicate k none) []
  | [], vs, k, r => by
    have e : vs = [] := r
    rw [e]
    exact OwnS.nones k
  | d :: ds, vs, k, r => by
    obtain ⟨x, t, rfl, h1, h2⟩ := r
    exact ⟨x, t.map some ++ List.replicate k none, [], [], rfl, rfl, ⟨rfl, h1⟩, OwnS.ent h2⟩
end
/-- the body's context -/
theorem fn_ok {P : Program} {w : World} {K : PySem.W.Frag} {mg : Str → Option Value} {base : Heap} {G : Gx} {x qual : Str} {st : Stmt} {f : Addr} {fd : FuncData} {N ps : List Str} {k : Nat} {g : SM} (F : Fun K x qual st f fd) (S : FnScope N ps (defScope st))
    (hb : ∀ (cdv : Value) (A : Around) (outer : List Env) (s : Shared) (H : Hp) (E : XK), Room k (A.deeper (envOfC qual (defScope st) s.heap.objs.size f cdv)) →
      DSs (cxOf (L2.CX P w) P w K mg base N qual (defScope st) f cdv A outer s H E) G (fun cls d _ H => E cls d H) (defBody st) g) :
    FnOk P w K mg base (L2.CX P w) (k + 1) f fd ps (spD G (bodyM ps.length N.length g) ps.length) := by
  refine F.okX S (fun vs H Q E h => h.1) (fun cdv A outer s H vs Q E hr h => ?_)
  obtain ⟨t, p, so⟩ := (hb cdv A outer s H E hr).ex
  refine ⟨t, p, ?_⟩
  obtain ⟨hl, ρ, R, B, ds, a, w, r, q⟩ := h
  have len := r.len
  unfold bodyM at q
  rw [if_pos (by rw [len]; exact hl)] at q
  have os : OwnS G B H ρ (ent N.length ds) (L2.start N vs) [] := by
    unfold ent L2.start
    rw [len]
    exact OwnS.ent r
  refine so ρ R B H (L2.start N vs) (ent N.length ds) a [] _ w os ?_
  cases c : g (ent N.length ds) a with
  | nx δ a' =>
    rw [c] at q
    exact fun B' H' σ' F' w' sm kp os' => q B' H' .non [] w'.drop sm kp ⟨rfl, rfl⟩
  | rt m a' =>
    rw [c] at q
    exact fun B' H' v F' w' sm kp om => q B' H' v F' w' sm kp om
  | exc cc ns es δ a' =>
    rw [c] at q
    exact fun B' H' σ' dd F' w' sm kp x os' => q B' H' dd w'.drop sm kp x
  | bk δ a' =>
    rw [c] at q
    exact q.elim
  | ct δ a' =>
    rw [c] at q
    exact q.elim
  | stuck =>
    rw [c] at q
    exact q.elim
/-- the shapes of a written call that its rules ask for: no starred argument, a method looked up in the plain way -/
abbrev HeadP (X : Cx) (e : Expr) (es : List Expr) : Prop := starEach (e :: es) X.env = (false, eval e X.env) :: starEach es X.env
abbrev RestP (X : Cx) (pos : Pos) (es : List Expr) : Prop := (backTo pos (starEach es X.env)).any (·.1) = false
abbrev NotDbg (x : Str) : Prop := (x == ("__debug__" : Str)) = false
abbrev MethF (X : Cx) (o : Expr) (m : Str) (apos pos : Pos) (es : List Expr) (pl : Sem Bool) : Prop :=
  eval (.Call (.Attribute o m apos) es [] pos) X.env = (do let ov ← eval o X.env; standAt apos.atName; let (f, first) ← holding [ov] (getMethod ov m pl); callWith pos f first (backTo pos (starEach es X.env)) (backToKw pos (keywordEach [] X.env)))
/-- a def of the module -/
structure DefD (P : Program) (w : World) (K : PySem.W.Frag) (mg : Str → Option Value) (base : Heap) (G : Gx) (x : Str) (k n : Nat) (g : FM) : Prop where
  ex : ∃ (f : Addr) (fd : FuncData) (ps : List Str), ps.length = n ∧ FnOk P w K mg base (L2.CX P w) k f fd ps (spD G g n) ∧ mg x = some (.ref f) ∧ PySem.W.keepIn K (.ref f) = true ∧ Binds K fd ps []
section
variable {X : Cx} {G : Gx} {W : WX} {x : Str} {k n : Nat} {g : FM} {e : Expr} {es : List Expr} {p pos : Pos}
def callM (n : Nat) (g : FM) (fa : EA) : EM := fun δ a => (fa δ a).bind fun ds a1 => if ds.length = n then g ds a1 else .stuck
theorem FinM.wx {W W' : WX} {ρ R : List Addr} {B H : Hp} {σ σ' : L2.St} {o : Out M} {k : M → Sto → Hp → Hp → V → List Addr → Prop} (h : FinM G W ρ R B H σ o k) (i : ∀ c d H, W c d σ H → W' c d σ' H) : FinM G W' ρ R B H σ' o k := by
  cases o with
  | ok m a => exact h
  | exc c ns ds a => exact fun B' H' dd w s kp x => i _ _ _ (h B' H' dd w s kp x)
  | stuck => exact h
theorem MOk.call {t : TA} {fa : EA} (s : AOk G W t fa) : MOk G W (tCallSD (spD G g n) [] (WE W) t) (callM n g fa) := fun ρ R B H σ δ a Q w sl q =>
  s ρ R B H σ δ a _ w sl (Fin.imp (Fin.seqM q) fun ds a1 B1 H1 w1 s1 k1 q1 vs r => by
    by_cases hl : ds.length = n
    · rw [if_pos hl] at q1
      rw [List.append_nil]
      exact ⟨by rw [← r.len]; exact hl, ρ, R, B1, ds, a1, w1, r, FinM.wx q1 fun c d H z => z⟩
    · rw [if_neg hl] at q1
      exact q1.elim)
theorem dm_call {fa : EA} (F : DefD X.prog X.w X.K X.mg X.base G x k n g) (hr : Room k X.A) (tk : Takes X W) (ha : DA X G W (e :: es) fa) (hg : Gl X x := by rfl)
    (hdb : NotDbg x := by decide) (he : HeadP X e es := by rfl) (hpl : RestP X pos es := by rfl) :
    DM X G W (.Call (.Name x p) (e :: es) [] pos) (callM n g fa) := by
  obtain ⟨t, pa, s⟩ := ha.ex
  obtain ⟨f, fd, ps, hn, FF, hm, hk, hb⟩ := F.ex
  exact ⟨_, pe_callSD FF hr hg hm hk hb .nil (fun σ => passAt tk σ) pa hdb he hpl, MOk.call s⟩
/-! ## o.m(..) of a known thing -/
structure MethD (P : Program) (w : World) (K : PySem.W.Frag) (mg : Str → Option Value) (base : Heap) (G : Gx) (c : Nat) (m : Str) (k n : Nat) (g : FM) : Prop where
  ex : ∃ (f : Addr) (fd : FuncData) (ps : List Str), ps.length = n ∧ FnOk P w K mg base (L2.CX P w) k f fd ps (spD G g n) ∧ Cls K (G.T c) ∧ Meth K (G.T c) m f ∧ Binds K fd ps []
/-- the data of an instance of the class c without an attribute m -/
def isC (c : Nat) (m : Str) : D → Bool
  | .obj c' ns ds => decide (c' = c ∧ ns.length = ds.length) && ((ns.zip ds).lookup m).isNone
  | _ => false
def methM (c : Nat) (m : Str) (n : Nat) (g : FM) (fo : EV) (fa : EA) : EM := fun δ a => (fo δ a).bind fun o a1 => if isC c m o = true then (fa δ a1).bind fun ds a2 => if ds.length + 1 = n then g (o :: ds) a2 else .stuck else .stuck
def tMethSD (C : Addr) (m : Str) (sp : Sp) (E : L2.St → XK) (ta : TE) (t : TA) : TE := fun σ H Q => ta σ H fun x H1 => ∃ a dx fs, x = .ref a ∧ H1 a = some (.ins C dx fs) ∧ fs.lookup m = none ∧ t σ H1 fun vs H2 => sp (x :: vs) H2 Q (E σ)
theorem zip_none {m : Str} : ∀ {ns : List Str} {ds : List D} {xs : List V}, ns.length = ds.length → ns.length = xs.length → ((ns.zip ds).lookup m).isNone = true → (ns.zip xs).lookup m = none
  | [], _, _, _, _, _ => rfl
  | y :: ns, [], xs, h, _, _ => by simp at h
  | y :: ns, d :: ds, [], _, h, _ => by simp at h
  | y :: ns, d :: ds, x :: xs, h1, h2, h => by
    rw [List.zip_cons_cons, List.lookup_cons] at h ⊢
    cases e : m == y with
    | true =>
      rw [e] at h
      cases h
    | false =>
      rw [e] at h
      exact zip_none (by simpa using h1) (by simpa using h2) h
theorem isC_at {c : Nat} {m : Str} {o : D} {B : Hp} {ρ : List Addr} {v : V} (h : isC c m o = true) (r : Rep G B ρ o v) : ∃ p dx fs, v = .ref p ∧ B p = some (.ins (G.T c) dx fs) ∧ fs.lookup m = none := by
  cases o with
  | obj c' ns ds =>
    have h' : (decide (c' = c ∧ ns.length = ds.length) && ((ns.zip ds).lookup m).isNone) = true := h
    obtain ⟨h1, hn⟩ := Bool.and_eq_true_iff.mp h'
    obtain ⟨rfl, hl⟩ := of_decide_eq_true h1
    obtain ⟨p, dx, xs, rfl, h1, h2, h3⟩ := r
    exact ⟨p, dx, _, rfl, h1, zip_none hl h2 hn⟩
  | _ => cases h
theorem MOk.meth {C : Nat} {m : Str} {to : TE} {t : TA} {fo : EV} {fa : EA} (so : VOk G W to fo) (s : AOk G W t fa) : MOk G W (tMethSD (G.T C) m (spD G g n) (WE W) to t) (methM C m n g fo fa) := fun ρ R B H σ δ a Q w sl q =>
  so ρ R B H σ δ a _ w sl (Fin.imp (Fin.seqM q) fun o a1 B1 H1 w1 s1 k1 q1 v r => by
    by_cases hc : isC C m o = true
    · rw [if_pos hc] at q1
      obtain ⟨p, dx, fs, rfl, h1, h2⟩ := isC_at hc r
      refine ⟨p, dx, fs, rfl, w1.ex _ _ h1, h2, s ρ R B1 H1 σ δ a1 _ w1 (sl.mono s1) (Fin.imp (Fin.seqM q1) fun ds a2 B2 H2 w2 s2 k2 q2 vs r2 => ?_)⟩
      by_cases hl : ds.length + 1 = n
      · rw [if_pos hl] at q2
        exact ⟨by rw [List.length_cons, ← r2.len]; exact hl, ρ, R, B2, o :: ds, a2, w2, Reps.cons (Rep.mono s2 o _ r) r2, FinM.wx q2 fun c d H z => z⟩
      · rw [if_neg hl] at q2
        exact q2.elim
    · rw [if_neg hc] at q1
      exact q1.elim)
theorem pe_methSD {C f : Addr} {fd : FuncData} {ps : List Str} {sp : Sp} {o : Expr} {m : Str} {apos : Pos} {ta : TE} {t : TA} {pl : Sem Bool} (he : PE X o ta) (c : Cls X.K C) (hm : Meth X.K C m f) (F : FnOk X.prog X.w X.K X.mg X.base (L2.CX X.prog X.w) k f fd ps sp) (hr : Room k X.A) (hb : Binds X.K fd ps []) (tk : Takes X W) (ha : PA X (e :: es) t)
    (hst : HeadP X e es := by rfl) (hpl : RestP X pos es := by rfl)
    (ht : MethF X o m apos pos (e :: es) pl := by rfl) :
    PE X (.Call (.Attribute o m apos) (e :: es) [] pos) (tMethSD C m sp (WE W) ta t) := by
  refine ⟨fun pins s σ H Q I h => ?_⟩
  refine PySem.W.methodCall_KW (pl := pl) (thn (he.run pins s σ H _ I h) fun u s1 ⟨x, H1, I1, rx, a, dx, fs, ex, ea, l, q⟩ => ?_) ht
  subst ex
  obtain rfl : u = Value.ref a := rx
  refine getmeth_ok I1 ea c hm l ?_
  refine PySem.W.callWith_K (first := [.ref a]) (h₀ := X.base) I.ok.mod.kin hm.kp (thn (ha.run pos pins s1 σ H1 _ I1 q) fun us s2 ⟨vs, H2, I2, r, q2⟩ => ⟨I2.kIn, ?_⟩) hst hpl
  exact run_fnSD (E := WE W) (us := .ref a :: us) (vs := .ref a :: vs) (dvs := []) F hr hb .nil (passAt tk σ) I2 (.cons rfl r) (by rw [List.append_nil]; exact q2)
theorem pe_methSD0 {C f : Addr} {fd : FuncData} {ps : List Str} {sp : Sp} {o : Expr} {m : Str} {apos : Pos} {ta : TE} {pl : Sem Bool} (he : PE X o ta) (c : Cls X.K C) (hm : Meth X.K C m f) (F : FnOk X.prog X.w X.K X.mg X.base (L2.CX X.prog X.w) k f fd ps sp) (hr : Room k X.A) (hb : Binds X.K fd ps []) (tk : Takes X W)
    (ht : MethF X o m apos pos [] pl := by rfl) :
    PE X (.Call (.Attribute o m apos) [] [] pos) (tMethSD C m sp (WE W) ta tNil) := by
  refine ⟨fun pins s σ H Q I h => ?_⟩
  refine PySem.W.methodCall_KW (pl := pl) (thn (he.run pins s σ H _ I h) fun u s1 ⟨x, H1, I1, rx, a, dx, fs, ex, ea, l, q⟩ => ?_) ht
  subst ex
  obtain rfl : u = Value.ref a := rx
  refine getmeth_ok I1 ea c hm l ?_
  exact PySem.W.callWith_K0 (first := [.ref a]) I1.kIn hm.kp (run_fnSD (E := WE W) (us := [.ref a]) (vs := [.ref a]) (dvs := []) F hr hb .nil (passAt tk σ) I1 (.cons rfl .nil) q)
theorem AOk.nil : AOk G W tNil aNil := fun ρ R B H σ δ a Q w sl q => q.here w _ Reps.nil
theorem dm_meth {c : Nat} {m : Str} {o : Expr} {apos : Pos} {fo : EV} {fa : EA} {pl : Sem Bool} (F : MethD X.prog X.w X.K X.mg X.base G c m k n g) (hr : Room k X.A) (tk : Takes X W) (ho : DV X G W o fo) (ha : DA X G W (e :: es) fa)
    (hst : HeadP X e es := by rfl) (hpl : RestP X pos es := by rfl)
    (ht : MethF X o m apos pos (e :: es) pl := by rfl) : DM X G W (.Call (.Attribute o m apos) (e :: es) [] pos) (methM c m n g fo fa) := by
  obtain ⟨t, pa, s⟩ := ha.ex
  obtain ⟨to, po, so⟩ := ho.ex
  obtain ⟨f, fd, ps, hn, FF, hc, hm, hb⟩ := F.ex
  exact ⟨_, pe_methSD po hc hm FF hr hb tk pa hst hpl ht, MOk.meth so s⟩
theorem dm_meth0 {c : Nat} {m : Str} {o : Expr} {apos : Pos} {fo : EV} {pl : Sem Bool} (F : MethD X.prog X.w X.K X.mg X.base G c m k n g) (hr : Room k X.A) (tk : Takes X W) (ho : DV X G W o fo)
    (ht : MethF X o m apos pos [] pl := by rfl) : DM X G W (.Call (.Attribute o m apos) [] [] pos) (methM c m n g fo aNil) := by
  obtain ⟨to, po, so⟩ := ho.ex
  obtain ⟨f, fd, ps, hn, FF, hc, hm, hb⟩ := F.ex
  exact ⟨_, pe_methSD0 po hc hm FF hr hb tk ht, MOk.meth so AOk.nil⟩
end
end DL

/-! an own error class whose __init__ says super().__init__("..") and stores one or two fields -/
namespace DX
open PySem PySem.W PySem.Calls PyProof.Rows PySem.HandSPX
/-- what the written part says of the class at C and its __init__ at fI -/
structure Txt (prog : Program) (K : Frag) (mg : Str → Option Value) (C fI : Addr) (cn qual msg : Str) (fs : List Str) (st : Stmt) : Prop where
  gC : mg cn = some (.ref C)
  cls : ∃ nm q N bs bm sn sub ab col dd k0 k1 k2 k3 k5, K.lookup C = some (excClassObj nm q C N bs bm true sn sub ab col dd k0 k1 k2 k3 k5 "ValueError.__new__") ∧ refsVE bm = true
  sa : findIn K (.ref C) "__setattr__" = some (some (.builtin "object.__setattr__"))
  noN : ∀ f ∈ fs, findIn K (.ref C) f = some none
  iC : findIn K (.ref C) "__init__" = some (some (.ref fI))
  tC : typeIn K (.ref fI) = some (.type "function")
  kC : keepIn K (.ref C) = true
  exC : subIn K (.ref C) (.type "BaseException") = some true
  veC : subIn K (.ref C) (.type "ValueError") = some true
  meC : mroIn K C (.ref C) = some true
  tyC : typeIn K (.ref C) = some (.type "type")
  su : ks_superIn K C C "__init__" = some (some (.builtin "ValueError.__init__"))
  op : nsIn K cStatics "thirdparty.any" = some none
  ms : mg "super" = none
  top : (prog.main.scope.names.lookup ("super" : Str)).isSome = false
  fn : ∃ (oc : Value) (od : Option Addr) (kV doc pm : Value) (an : Option Addr) (cda cc : Addr) (ct : Value) (osl : Array (Option Value)),
    K.lookup fI = some ⟨oc, od, .func (fnX "__init__" qual (L2.defArgs st) (L2.defBody st) (L2.defScope st) [("__class__", cc)] .none kV doc pm an (.ref cda) ct), osl⟩ ∧ codeIn K (.ref cda) qual = true ∧
    (∃ ccl cdd vs ccs file tf, K.lookup cda = some ⟨ccl, cdd, .fields vs, ccs⟩ ∧ vs[2]? = some (.str file tf) ∧ ((prog.main.file : Str) == file) = true) ∧
    (∃ cl cld csl, K.lookup cc = some ⟨cl, cld, .cell (some (.ref C)), csl⟩)
  sc : (L2.defScope st).kind = .function ∧ (L2.defScope st).isCoroutine = false ∧ (L2.defScope st).isGenerator = false ∧ (∀ x ∈ (L2.defScope st).names, x.2 ≠ .cell) ∧ (L2.defScope st).names.lookup ("super" : Str) = some .globalImplicit ∧ (L2.defScope st).names.lookup ("__class__" : Str) = some .free ∧
    (L2.defScope st).names.lookup ("self" : Str) = some .local ∧ ∀ f ∈ fs, (L2.defScope st).names.lookup f = some .local
  bnd : ∀ (cc : Addr) (kV doc pm : Value) (an : Option Addr) (cdv ct : Value) (us : List Value), us.length = fs.length + 1 → bindArgs (fnX "__init__" qual (L2.defArgs st) (L2.defBody st) (L2.defScope st) [("__class__", cc)] .none kV doc pm an cdv ct) ⟨us, []⟩ = pure ((("self" : Str) :: fs).zip us)
  nd : fs.Nodup ∧ ("self" : Str) ∉ fs ∧ fs.length ≤ 9 ∧ fs ≠ [] ∧ ∀ f ∈ fs, (f == ("__debug__" : Str)) = false
  body : ∃ (q1 q2 q3 q4 q5 q6 : Pos) (j : Nat) (rs : List (Pos × Pos × Pos × Pos)), (q3.endLine == q5.line) = true ∧ rs.length = fs.length ∧
    L2.defBody st = .Expr (.Call (.Attribute (.Call (.Name "super" q1) [] [] q2) "__init__" q3) [.Constant (.str msg) j q4] [] q5) q6 ::
      (fs.zip rs).map fun p => .Assign [.Attribute (.Name "self" p.2.1) p.1 p.2.2.1] (.Name p.1 p.2.2.2.1) p.2.2.2.2
  hd : ((L2.defArgs st).posonlyargs ++ (L2.defArgs st).args).head?.map (·.arg) = some ("self" : Str)
/-- the module's facts at a heap -/
structure Top (mg : Str → Option Value) (h : Heap) : Prop where
  glob : h.Ns mainGlobals mg
  blt : ∃ mb, h.Ns builtinsNs mb ∧ ∀ x : Str, x ≠ "__name__" → mb x = bootBuiltins x
theorem Top.keeps {mg : Str → Option Value} {h h' : Heap} (T : Top mg h) (k : ∀ b o, h.get? b = some o → h'.get? b = some o) : Top mg h' := ⟨T.glob.keeps k, by
  obtain ⟨mb, h1, h2⟩ := T.blt
  exact ⟨mb, h1.keeps k, h2⟩⟩
section
variable {prog : Program} {w : World} {A : Around} {E : Value → Shared → Prop} {s : Shared} {K : Frag} {mg : Str → Option Value} {C fI : Addr} {cn qual msg : Str} {fs : List Str} {st : Stmt}
theorem boot_super : bootBuiltins "super" = some (.type "super") := by first | boot_by_name | rfl | kernel_rfl
/-- ValueError.__init__ bound to a fresh error, called: the error's arguments are laid anew, all else stays -/
theorem init_bound {h : Heap} {g : Array GenState} {d : Drawn} {t : Nat} {os : OsState} {u x C t0 N : Addr} {nm q : Str} {bs bm : List Value} {sn : List Str} {sub : List Value} {ab : Bool} {col : Option Bool} {dd : Option Addr} {k0 k1 k2 k3 k5 : Option Value} {args : List Value} {Q : Value → Shared → Prop}
    (hC : h.get? C = some (excClassObj nm q C N bs bm true sn sub ab col dd k0 k1 k2 k3 k5 "ValueError.__new__")) (he : h.get? x = some (excO C t0)) (hu : h.get? u = some (kxs_mw "ValueError.__init__" x)) (hz : args.length ≤ sizeLine)
    (fin : ∀ h', (∀ b o, b ≠ x → h.get? b = some o → h'.get? b = some o) → h'.get? x = some (excO C h.objs.size) → Q .none ⟨h', g, d, t, os⟩) : wpAny (model prog w) A (call (.ref u) args) Q E ⟨h, g, d, t, os⟩ := by
  apply wpAny_call
  apply codeAny_of_tree
  change wpAny _ A.in1 (callAny (.ref u) ⟨args, []⟩) _ _ _
  unfold callAny
  apply wpAny_bind
  apply wpAny_load hu
  have isW : (Value.type "method-wrapper" == Value.type "method-wrapper") = true := by decide
  dsimp only [kxs_mw]
  rw [isW, Bool.or_true, if_pos rfl]
  change wpAny (model prog w) A.in1 (if (Value.type "method-wrapper" != Value.type "method") = true then (checkBoundCall "ValueError.__init__" ⟨.ref x :: args, []⟩ >>= fun _ => again (.builtin "ValueError.__init__" ⟨.ref x :: args, []⟩)) else _) _ _ _
  rw [if_pos (by decide)]
  refine wpAny_bind (check_bound_init F.excBase_ValueError.toExcCallFacts hC he rfl (wpAny_pure ?left))
  refine And.intro (plainId_quiet F.excBase_ValueError.init.plain _) (codeAny_builtin F.excBase_ValueError.initEntry ?run)
  case run => exact exc_init_tree (cls := .ref C) (t0 := t0) (dv := none) (c2 := .none) (c3 := .none) (b4 := .bool false) he hz fun h' keep obj _ => fin h' keep obj
/-- super().__init__("..") -/
theorem sup_stmt (T : Txt prog K mg C fI cn qual msg fs st) (P : Top mg s.heap) (X : K.In s.heap) {cda cc : Addr} {body : List Stmt} {L x t0 : Addr} {m : Str → Option Value} {q1 q2 q3 q4 q5 q6 : Pos} {j : Nat} {Q : Flow → Shared → Prop}
    {oc : Value} {od : Option Addr} {kV doc pm : Value} {an : Option Addr} {ct : Value} {osl : Array (Option Value)}
    (ho : K.lookup fI = some ⟨oc, od, .func (fnX "__init__" qual (L2.defArgs st) (L2.defBody st) (L2.defScope st) [("__class__", cc)] .none kV doc pm an (.ref cda) ct), osl⟩)
    (hcode : ∃ ccl cdd vs ccs file tf, K.lookup cda = some ⟨ccl, cdd, .fields vs, ccs⟩ ∧ vs[2]? = some (.str file tf) ∧ ((prog.main.file : Str) == file) = true)
    (hcell : ∃ cl cld csl, K.lookup cc = some ⟨cl, cld, .cell (some (.ref C)), csl⟩)
    (hl : (q3.endLine == q5.line) = true) (hn : s.heap.Ns L m) (hself : m "self" = some (.ref x)) (hx : s.heap.get? x = some (excO C t0)) (hxC : x ≠ C)
    (hq : ∀ h' tk t1, (∀ b o, b ≠ x → s.heap.get? b = some o → h'.get? b = some o) → h'.get? x = some (excO C t1) → Q .next { s with heap := h', toks := tk }) :
    _root_.PySem.wpAt (model prog w) A (.func body (envX qual (L2.defScope st) L fI (.ref cda) [("__class__", cc)]))
      (exec (.Expr (.Call (.Attribute (.Call (.Name "super" q1) [] [] q2) "__init__" q3) [.Constant (.str msg) j q4] [] q5) q6) (envX qual (L2.defScope st) L fI (.ref cda) [("__class__", cc)])) Q E s := by
  obtain ⟨ccl, cdd, vs, ccs, file, tf, hc1, hvs, hfile⟩ := hcode
  obtain ⟨cl, cld, csl, hcl⟩ := hcell
  obtain ⟨nm, q, N, bs, bm, sn, sub, ab, col, dd, k0, k1, k2, k3, k5, hC, hbm⟩ := T.cls
  obtain ⟨sk, _, _, _, ss, sf, sl, _⟩ := T.sc
  obtain ⟨mb, hb1, hb2⟩ := P.blt
  have hcd : clsIn K C = some { name := nm, bases := bs, mro := .ref C :: bm, ns := N, qualname := q, hasDict := true, slotNames := sn, subclasses := sub, abstract := ab, collection := col, hasDel := false } := by unfold clsIn; rw [hC] <;> rfl
  obtain ⟨ar, har, earg⟩ : ∃ ar, ((L2.defArgs st).posonlyargs ++ (L2.defArgs st).args).head? = some ar ∧ ar.arg = ("self" : Str) := by
    have z := T.hd
    cases e : ((L2.defArgs st).posonlyargs ++ (L2.defArgs st).args).head? with
    | none =>
      rw [e] at z
      cases z
    | some ar =>
      rw [e] at z
      exact ⟨ar, rfl, Option.some.inj z⟩
  have hD := X _ _ hC
  refine ks_wpAt_Expr_any ?_ (by unfold interactive; rw [show (envX qual (L2.defScope st) L fI (.ref cda) [("__class__", cc)]).scope.kind = .function from sk] <;> rfl) rfl
  refine ks_wpAt_MethodCall (pl := do return (← importBound (.Call (.Name "super" q1) [] [] q2) (envX qual (L2.defScope st) L fI (.ref cda) [("__class__", cc)])).getD true) ?_ (by
    rw [arm_eval_Call]
    unfold methodCall methodCallPos calleeOf
    have few : methodCallForm ([Expr.Constant (.str msg) j q4].length + ([] : List Keyword).length) (backTo q5 (starEach [Expr.Constant (.str msg) j q4] (envX qual (L2.defScope st) L fI (.ref cda) [("__class__", cc)]))) (backToKw q5 (keywordEach [] (envX qual (L2.defScope st) L fI (.ref cda) [("__class__", cc)]))) = true := rfl
    rw [few, hl]
    rfl)
  refine ks_wpAt_super_base ss sf (by decide) rfl (X _ _ ho) rfl har rfl (X _ _ hc1) rfl hvs hfile T.top ?_
  refine ks_loadName_global sk ss (loadGlobal_builtin P.glob T.ms hb1 ((hb2 _ (by decide)).trans boot_super) ⟨rfl, ?_⟩)
  refine wpAny_loadName_free sk sf rfl ⟨_, X _ _ hcl, rfl⟩ ?_
  rw [earg]
  refine wpAny_loadName_local sk sl hn hself ?_
  refine ks_wpAny_isType_cls hD rfl ⟨rfl, ?_⟩
  obtain ⟨hh, g, d, t, os⟩ := s
  refine ks_wpAny_call_super hD rfl hx rfl (fun c e => by cases e) (looks_mroIn X T.meC) (fun h1 e1 k1 => ?_)
  have X1 : K.In h1 := X.keeps k1
  have J1 : InstAt h1 x (excO C t0) C none := ⟨k1 _ _ hx, rfl, rfl, trivial⟩
  have hI : Looks (model prog w) h1 (isInstance (.ref x) (.type "ValueError")) true := J1.type.andThen (looks_subIn X1 T.veC)
  have hm := T.su
  unfold ks_superIn at hm
  rw [hcd] at hm
  refine kxs_getMethod kxs_ValueError e1 (looks_opaque X1 T.op) (l₀ := .ref C :: bm) ?_ rfl X1 hm hI hxC (by decide) ?_
  · exact fun A Q E s k q => wpAny_bind ((looks_clsIn X1 hcd) A _ E s k (wpAny_pure q))
  have hu : (h1.push (kxs_mw "ValueError.__init__" x)).get? h1.objs.size = some (kxs_mw "ValueError.__init__" x) := Heap.get?_push_at rfl rfl
  have k2 : ∀ b o, h1.get? b = some o → (h1.push (kxs_mw "ValueError.__init__" x)).get? b = some o := fun b o e => Heap.get?_push_of_some _ e
  refine kxs_callWith (i := "ValueError.__init__") (x := x) rfl (evalArgs_plain ?_)
  show wpAny _ _ (spliced ((false, eval (.Constant (.str msg) j q4) (envX qual (L2.defScope st) L fI (.ref cda) [("__class__", cc)])) :: backTo q5 [])) _ _ _
  refine spliced_cons (Constant_str (spliced_nil ⟨hu, ?_⟩))
  show wpAny _ _ (call (.ref h1.objs.size) [.str msg (t + 1)]) _ _ _
  refine init_bound (C := C) (hC := k2 _ _ (k1 _ _ hD)) (he := k2 _ _ (k1 _ _ hx)) (hu := hu) (by show 1 ≤ sizeLine; rw [sizeLine_eq]; omega) fun h' k3 e3 => ?_
  exact hq h' _ _ (fun b o hb e => k3 b o hb (k2 b o (k1 b o e))) e3
/-- the fields stored one after another -/
def putAll (m0 : Str → Option Value) : List (Str × Value) → Str → Option Value
  | [] => m0
  | (f, v) :: r => putAll (fun y => if y = f then some v else m0 y) r
/-- what __init__ leaves of a fresh exception at x -/
structure InitEnd (h h' : Heap) (x C dx t1 : Addr) (M : Str → Option Value) : Prop where
  keep : ∀ b o, b ≠ x → h.get? b = some o → h'.get? b = some o
  obj : h'.get? x = some { cls := .ref C, dict := some dx, data := .fields #[.ref t1, .none, .none, .none, .bool false, .none] }
  dbig : h.objs.size ≤ dx
  dne : dx ≠ x
  ns : h'.Ns1 dx M
theorem kept_but {K : Frag} {h h' : Heap} {x : Addr} (X : K.In h) (hx : K.lookup x = none) (k : ∀ b o, b ≠ x → h.get? b = some o → h'.get? b = some o) : K.In h' := fun a o e =>
  k a o (fun z => by rw [z, hx] at e; cases e) (X a o e)
theorem ns_at {h h' : Heap} {L : Addr} {m : Str → Option Value} (hn : h.Ns L m) (k : ∀ o, h.get? L = some o → h'.get? L = some o) : h'.Ns L m := by
  obtain ⟨oL, es, ep, hL, r⟩ := hn
  exact ⟨oL, es, ep, k _ hL, r⟩
/-- the further fields -/
theorem stores (T : Txt prog K mg C fI cn qual msg fs st) {cda cc : Addr} {L x t1 dx : Addr} {m : Str → Option Value} :
    ∀ (fr : List Str) (vs : List Value) (rs : List (Pos × Pos × Pos × Pos)) (s : Shared) (M : Str → Option Value) (nl : List Str) (Q : Flow → Shared → Prop), rs.length = fr.length → vs.length = fr.length → (∀ f ∈ fr, f ∈ fs) → K.In s.heap → K.lookup x = none → K.lookup dx = none → s.heap.Ns L m → L ≠ x → L ≠ dx →
      m "self" = some (.ref x) → (∀ p ∈ fr.zip vs, m p.1 = some p.2) → s.heap.get? x = some { cls := .ref C, dict := some dx, data := .fields #[.ref t1, .none, .none, .none, .bool false, .none] } → dx ≠ x → s.heap.Ns1 dx M → Within M nl → nl.length + fr.length ≤ 1000 →
      (∀ h' tk, (∀ b o, b ≠ dx → s.heap.get? b = some o → h'.get? b = some o) → h'.Ns1 dx (putAll M (fr.zip vs)) → Q .next { s with heap := h', toks := tk }) →
      wpAny (model prog w) A (execs ((fr.zip rs).map fun p => Stmt.Assign [.Attribute (.Name "self" p.2.1) p.1 p.2.2.1] (.Name p.1 p.2.2.2.1) p.2.2.2.2) (envX qual (L2.defScope st) L fI (.ref cda) [("__class__", cc)])) Q E s
  | [], vs, rs, s, M, nl, Q, h1, h2, h3, X, nx, nd, hn, lx, ld, hs, hv, hx, dne, hM, hW, hz, hq => by
    have e1 : rs = [] := List.length_eq_zero_iff.mp h1
    have e2 : vs = [] := List.length_eq_zero_iff.mp h2
    subst e1 e2
    exact wpAny_execs_nil (hq s.heap s.toks (fun _ _ _ e => e) hM)
  | f :: fr, [], rs, s, M, nl, Q, h1, h2, h3, X, nx, nd, hn, lx, ld, hs, hv, hx, dne, hM, hW, hz, hq => by simp at h2
  | f :: fr, v :: vs, [], s, M, nl, Q, h1, h2, h3, X, nx, nd, hn, lx, ld, hs, hv, hx, dne, hM, hW, hz, hq => by simp at h1
  | f :: fr, v :: vs, (r1, r2, r3, r4) :: rs, s, M, nl, Q, h1, h2, h3, X, nx, nd, hn, lx, ld, hs, hv, hx, dne, hM, hW, hz, hq => by
    obtain ⟨nm, q, N, bs, bm, sn, sub, ab, col, dd, k0, k1, k2, k3, k5, hC, hbm⟩ := T.cls
    obtain ⟨sk, _, _, _, _, _, sl, sfs⟩ := T.sc
    have hcd : clsIn K C = some { name := nm, bases := bs, mro := .ref C :: bm, ns := N, qualname := q, hasDict := true, slotNames := sn, subclasses := sub, abstract := ab, collection := col, hasDel := false } := by unfold clsIn; rw [hC] <;> rfl
    have hf : f ∈ fs := h3 f List.mem_cons_self
    have hmf : m f = some v := hv (f, v) List.mem_cons_self
    show wpAny (model prog w) A (execs (Stmt.Assign [.Attribute (.Name "self" r1) f r2] (.Name f r3) r4 :: (fr.zip rs).map fun p => Stmt.Assign [.Attribute (.Name "self" p.2.1) p.1 p.2.2.1] (.Name p.1 p.2.2.2.1) p.2.2.2.2) _) Q E s
    refine wpAny_execs_cons (plainObj_wpAny_Assign_Attribute ?_)
    refine wpAny_Name (wpAny_loadName_local sk (sfs f hf) hn hmf ?_) (T.nd.2.2.2.2 f hf)
    refine wpAny_Name (wpAny_loadName_local sk sl hn hs ?_) (by decide)
    obtain ⟨oD, esD, epD, hoD, hdD, _⟩ := hM.count hW
    obtain ⟨hp, g, d, t, os⟩ := s
    refine set_plain X (ox := { cls := .ref C, dict := some dx, data := .fields #[.ref t1, .none, .none, .none, .bool false, .none] }) (od := some oD) ⟨hx, rfl, rfl, hoD⟩ T.sa ?_
    refine PySem.OEX.osa_old X hx hM hW (by rw [List.length_cons] at hz; omega) hcd (show refsVE (.ref C :: bm) = true from hbm) rfl (T.noN f hf) (fun h' tk' k hn' => ?_)
    have kx := k _ _ (Ne.symm dne) hx
    refine stores T fr vs rs ⟨h', g, d, tk', os⟩ _ (f :: nl) Q (by simpa using h1) (by simpa using h2) (fun y hy => h3 y (List.mem_cons_of_mem _ hy)) (kept_but X nd k) nx nd (ns_at hn fun o e => k L o ld e) lx ld hs (fun p hp => hv p (List.mem_cons_of_mem _ hp)) kx dne hn' (Within.cons f v hW) (by rw [List.length_cons] at hz ⊢; omega) fun h2 tk2 kk hn2 => ?_
    exact hq h2 tk2 (fun b o hb e => kk b o hb (k b o hb e)) hn2
theorem lk {β : Type} : ∀ {l : List (Str × β)} {p : Str × β}, (l.map (·.1)).Nodup → p ∈ l → l.lookup p.1 = some p.2
  | [], p, _, h => absurd h (by simp)
  | (y, v) :: l, p, nd, h => by
    rw [List.lookup_cons]
    rcases List.mem_cons.mp h with e | h
    · subst e
      rw [beq_self_eq_true]
    · have ne : (p.1 == y) = false := by
        rw [beq_eq_false_iff_ne]
        intro e
        have n := (List.nodup_cons.mp nd).1
        exact n (e ▸ List.mem_map_of_mem (f := (·.1)) h)
      rw [ne]
      exact lk (List.nodup_cons.mp nd).2 h
theorem lkr {β : Type} {l : List (Str × β)} {p : Str × β} (nd : (l.map (·.1)).Nodup) (h : p ∈ l) : l.reverse.lookup p.1 = some p.2 :=
  lk (by rw [List.map_reverse]; exact (List.reverse_perm _).nodup_iff.mpr nd) (List.mem_reverse.mpr h)
theorem zip_fst {β : Type} : ∀ {l : List Str} {vs : List β}, vs.length = l.length → (l.zip vs).map (·.1) = l
  | [], [], _ => rfl
  | x :: l, v :: vs, h => by
    rw [List.zip_cons_cons, List.map_cons, zip_fst (by simpa using h)]
  | [], v :: vs, h => by simp at h
  | x :: l, [], h => by simp at h
/-- the whole __init__ -/
theorem init_all (T : Txt prog K mg C fI cn qual msg fs st) {x t0 : Addr} {vs : List Value} (X : K.In s.heap) (P : Top mg s.heap) (hlim : s.heap.NoLimit) (hx : s.heap.get? x = some (excO C t0)) (hnx : K.lookup x = none) (hroom : A.depth < recursionLimit) (hl : vs.length = fs.length) {R : Result → Shared → Prop}
    (hq : ∀ h' tk dx t1, InitEnd s.heap h' x C dx t1 (putAll (fun _ => none) (fs.zip vs)) → R (.ok (.ret .none)) { s with heap := h', toks := tk }) :
    codeAny (model prog w) A (.call (.ref fI) ⟨.ref x :: vs, []⟩) R s := by
  obtain ⟨f, fr, rfl⟩ : ∃ f fr, fs = f :: fr := List.exists_cons_of_ne_nil T.nd.2.2.2.1
  obtain ⟨v, vs', rfl⟩ : ∃ v vs', vs = v :: vs' := List.exists_cons_of_ne_nil (fun z => by rw [z] at hl; simp at hl)
  obtain ⟨oc, od, kV, doc, pm, an, cda, cc, ct, osl, ho, hcr, hcode, hcell⟩ := T.fn
  obtain ⟨sk, sco, sge, scl, ss, sf, sl, sfs⟩ := T.sc
  obtain ⟨nd1, nd2, nd3, nd4, nd5⟩ := T.nd
  have ndk : ((((("self" : Str) :: f :: fr).zip (Value.ref x :: v :: vs'))).map (·.1)).Nodup := by
    rw [zip_fst (by simp [hl])]
    exact List.nodup_cons.mpr ⟨nd2, nd1⟩
  obtain ⟨q1, q2, q3, q4, q5, q6, j, rs, hline, hrs, hbody⟩ := T.body
  obtain ⟨⟨r1, r2, r3, r4⟩, rs', rfl⟩ : ∃ r rs', rs = r :: rs' := List.exists_cons_of_ne_nil (fun z => by rw [z] at hrs; simp at hrs)
  obtain ⟨nm, q, N, bs, bm, sn, sub, ab, col, dd, k0, k1, k2, k3, k5, hC, hbm⟩ := T.cls
  have hcd : clsIn K C = some { name := nm, bases := bs, mro := .ref C :: bm, ns := N, qualname := q, hasDict := true, slotNames := sn, subclasses := sub, abstract := ab, collection := col, hasDel := false } := by unfold clsIn; rw [hC] <;> rfl
  refine ks_codeAny_call_defAt (fd := fnX "__init__" qual (L2.defArgs st) (L2.defBody st) (L2.defScope st) [("__class__", cc)] .none kV doc pm an (.ref cda) ct) (body := _) (binds := ((("self" : Str) :: f :: fr).zip (Value.ref x :: v :: vs'))) hroom (X _ _ ho) rfl hlim (codeRec_of X hcr) (congrArg _ hbody)
    (BindsTo.of_eq (T.bnd cc kV doc pm an (.ref cda) ct (.ref x :: v :: vs') (by simp [hl]))) scl (fun y hy => ?_) (fun h1 hns kk => ?_) sco sge sk
  · rcases List.mem_cons.mp (show y ∈ (("self" : Str), Value.ref x) :: (f :: fr).zip (v :: vs') from hy) with e | h
    · rw [e]
      exact sl
    · exact sfs _ (List.of_mem_zip h).1
  · have hself : (((("self" : Str) :: f :: fr).zip (Value.ref x :: v :: vs'))).reverse.lookup ("self" : Str) = some (.ref x) := lkr (p := (("self" : Str), Value.ref x)) ndk List.mem_cons_self
    have hvs : ∀ p ∈ (f :: fr).zip (v :: vs'), (((("self" : Str) :: f :: fr).zip (Value.ref x :: v :: vs'))).reverse.lookup p.1 = some p.2 := fun p hp => lkr ndk (List.mem_cons_of_mem _ hp)
    have hxL : s.heap.objs.size ≠ x := Nat.ne_of_gt (Heap.lt_size hx)
    have hCx : x ≠ C := fun z => by
      rw [z, hC] at hnx
      cases hnx
    refine ks_wpAt_execs_cons (sup_stmt T (P.keeps kk) (X.keeps kk) ho hcode hcell hline hns hself (kk _ _ hx) hCx fun h2 tk2 t1 k2 hx2 => ?_)
    refine wpAt_of_wpAny ?_
    have X2 : K.In h2 := kept_but (X.keeps kk) hnx k2
    have hns2 := ns_at hns fun o e => k2 _ o hxL e
    show wpAny (model prog w) _ (execs (Stmt.Assign [.Attribute (.Name "self" r1) f r2] (.Name f r3) r4 :: (fr.zip rs').map fun p => Stmt.Assign [.Attribute (.Name "self" p.2.1) p.1 p.2.2.1] (.Name p.1 p.2.2.2.1) p.2.2.2.2) _) _ _ _
    refine wpAny_execs_cons (plainObj_wpAny_Assign_Attribute ?_)
    refine wpAny_Name (wpAny_loadName_local sk (sfs f List.mem_cons_self) hns2 (hvs (f, v) List.mem_cons_self) ?_) (nd5 f List.mem_cons_self)
    refine wpAny_Name (wpAny_loadName_local sk sl hns2 hself ?_) (by decide)
    obtain ⟨hp, g, d, t, os⟩ := s
    refine set_plain X2 (ox := excO C t1) (od := none) ⟨hx2, rfl, rfl, trivial⟩ T.sa ?_
    refine exc_osa X2 hx2 hcd (show refsVE (.ref C :: bm) = true from hbm) rfl (T.noN f List.mem_cons_self) (fun h3 tk3 dx k3 dn dne hx3 hn3 => ?_)
    have z0 : hp.objs.size < h2.objs.size := hns2.lt
    have hdx : K.lookup dx = none := by
      cases e : K.lookup dx with
      | none => rfl
      | some o => exact absurd (Heap.lt_size (X2 _ _ e)) (Nat.not_lt.mpr dn)
    have ldx : hp.objs.size ≠ dx := Nat.ne_of_lt (Nat.lt_of_lt_of_le z0 dn)
    have hns3 := ns_at hns2 fun o e => k3 _ o hxL e
    refine stores T fr vs' rs' ⟨h3, g, d, tk3, os⟩ _ [f] _ (by simpa using hrs) (by simpa using hl) (fun y hy => List.mem_cons_of_mem _ hy) (kept_but X2 hnx k3) hnx hdx hns3 hxL ldx hself (fun p hp => hvs p (List.mem_cons_of_mem _ hp)) hx3 dne hn3 ?_ (by simp only [List.length_cons, List.length_nil] at nd3 ⊢; omega) fun h4 tk4 k4 hn4 => ?_
    · intro y hy
      by_cases e : y = f
      · rw [e]
        exact List.mem_singleton.mpr rfl
      · exact absurd (if_neg e) hy
    · have kx := k4 _ _ (Ne.symm dne) hx3
      refine hq h4 tk4 dx t1 ⟨fun b o hb e => ?_, kx, Nat.le_of_lt (Nat.lt_of_lt_of_le z0 dn), dne, hn4⟩
      have bd : b ≠ dx := Nat.ne_of_lt (Nat.lt_of_lt_of_le (Nat.lt_trans (Heap.lt_size e) z0) dn)
      exact k4 b o bd (k3 b o hb (k2 b o hb (kk b o e)))
/-- a made one -/
structure OwnMade (h h' : Heap) (e C d : Addr) (M : Str → Option Value) : Prop where
  keep : ∀ b o, h.get? b = some o → h'.get? b = some o
  new : h.objs.size ≤ e
  obj : ∃ oe vs, h'.get? e = some oe ∧ oe.cls = .ref C ∧ oe.dict = some d ∧ oe.data = .fields vs ∧ vs[1]? = some .none
  dbig : h.objs.size ≤ d
  dne : d ≠ e
  ns : h'.Ns1 d M
theorem made (T : Txt prog K mg C fI cn qual msg fs st) {vs : List Value} (X : K.In s.heap) (P : Top mg s.heap) (hlim : s.heap.NoLimit) (hroom : A.depth + 1 < recursionLimit) (hl : vs.length = fs.length) {R : Result → Shared → Prop}
    (hq : ∀ h' tk e d, OwnMade s.heap h' e C d (putAll (fun _ => none) (fs.zip vs)) → R (.ok (.ret (.ref e))) { s with heap := h', toks := tk }) :
    codeAny (model prog w) A (.call (.ref C) ⟨vs, []⟩) R s := by
  obtain ⟨nm, q, N, bs, bm, sn, sub, ab, col, dd, k0, k1, k2, k3, k5, hC, hbm⟩ := T.cls
  have nd3 := T.nd.2.2.1
  obtain ⟨hp, g, dr, tk, os⟩ := s
  have k : ∀ b o, hp.get? b = some o → ((hp.push (kdv_tup vs)).push (excO C hp.objs.size)).get? b = some o := fun b o e => Heap.get?_push_of_some _ (Heap.get?_push_of_some _ e)
  have hget : ((hp.push (kdv_tup vs)).push (excO C hp.objs.size)).get? (hp.objs.size + 1) = some (excO C hp.objs.size) := by heap_get
  have hnx : K.lookup (hp.objs.size + 1) = none := by
    cases e : K.lookup (hp.objs.size + 1) with
    | none => rfl
    | some o =>
      have z : hp.get? (hp.objs.size + 1) = some o := X _ _ e
      exact absurd (Nat.lt_of_succ_lt (Heap.lt_size z)) (Nat.lt_irrefl _)
  refine call_own F.excBase_ValueError (fun X => refsVE_contains X bm hbm) (X _ _ hC) (looks_findIn X T.iC) (fun self => bind_fn X self T.tC) (by rw [sizeLine_eq, hl]; omega) ?_
  refine init_all (s := ⟨(hp.push (kdv_tup vs)).push (excO C hp.objs.size), g, dr, tk, os⟩) T (X.keeps k) (P.keeps k) (hlim.keeps k) hget hnx ?_ hl fun h' tk' dx t1 ⟨k', hx, dn, dne, hns⟩ => ?_
  · show A.depth + 1 < recursionLimit
    exact hroom
  · have old : ∀ b o, hp.get? b = some o → h'.get? b = some o := fun b o e => k' b o (Nat.ne_of_lt (Nat.lt_succ_of_lt (Heap.lt_size e))) (k b o e)
    have z : hp.objs.size + 1 + 1 ≤ dx := by
      have q := dn
      rw [Heap.size_push, Heap.size_push] at q
      exact q
    exact ⟨rfl, hq h' tk' (hp.objs.size + 1) dx ⟨old, Nat.le_succ _, ⟨_, _, hx, rfl, rfl, rfl, rfl⟩, Nat.le_trans (Nat.le_trans (Nat.le_succ _) (Nat.le_succ _)) z, dne, hns⟩⟩
end
end DX
namespace DX
open PySem PySem.Spec PyProof.Rows L2
theorem putAll_out {y : Str} : ∀ {l : List (Str × Value)} {m0 : Str → Option Value}, y ∉ l.map (·.1) → putAll m0 l y = m0 y
  | [], _, _ => rfl
  | (f, v) :: r, m0, h => by
    have h1 : y ≠ f := fun e => h (by rw [e]; exact List.mem_cons_self)
    show putAll (fun z => if z = f then some v else m0 z) r y = m0 y
    rw [putAll_out (fun z => h (List.mem_cons_of_mem _ z))]
    exact if_neg h1
theorem putAll_rel : ∀ {fs : List Str} {vs : List Value} {xs : List V} {m0 : Str → Option Value}, fs.Nodup → Vals xs vs → vs.length = fs.length → (∀ y, y ∉ fs → m0 y = none) → (∀ y, m0 y = none) → ∀ y, RelO ((fs.zip xs).lookup y) (putAll m0 (fs.zip vs) y)
  | [], vs, xs, m0, _, r, hl, _, h0, y => by
    show RelO none (m0 y)
    rw [h0]
    trivial
  | f :: fs, v :: vs, x :: xs, m0, nd, .cons rv r, hl, hn, h0, y => by
    show RelO (((f, x) :: fs.zip xs).lookup y) (putAll (fun z => if z = f then some v else m0 z) (fs.zip vs) y)
    rw [List.lookup_cons]
    have nf := (List.nodup_cons.mp nd).1
    have zf : ∀ {β : Type} {l : List β}, l.length = fs.length → (fs.zip l).map (·.1) = fs := fun h => zip_fst h
    have hl' : vs.length = fs.length := by simpa using hl
    by_cases e : y = f
    · subst e
      rw [beq_self_eq_true, putAll_out (by rw [zip_fst hl']; exact nf), if_pos rfl]
      exact rv
    · rw [beq_eq_false_iff_ne.mpr e]
      by_cases hy : y ∈ fs
      · have key : ∀ {l : List (Str × Value)} {m1 m2 : Str → Option Value}, y ∈ l.map (·.1) → putAll m1 l y = putAll m2 l y := by
          intro l
          induction l with
          | nil =>
            intro m1 m2 h
            simp at h
          | cons p l ih =>
            intro m1 m2 h
            obtain ⟨g, u⟩ := p
            show putAll (fun z => if z = g then some u else m1 z) l y = putAll (fun z => if z = g then some u else m2 z) l y
            by_cases hl : y ∈ l.map (·.1)
            · exact ih hl
            · rw [putAll_out hl, putAll_out hl]
              rcases List.mem_cons.mp h with h | h
              · have h' : y = g := h
                rw [if_pos h', if_pos h']
              · exact absurd h hl
        rw [key (m2 := fun _ => none) (by rw [zip_fst hl']; exact hy)]
        exact putAll_rel (List.nodup_cons.mp nd).2 r hl' (fun _ _ => rfl) (fun _ => rfl) y
      · rw [putAll_out (by rw [zip_fst hl']; exact hy), if_neg e, h0]
        have : (fs.zip xs).lookup y = none := by
          have hx : xs.length = fs.length := r.length.trans hl'
          have q : ∀ {l : List (Str × V)}, y ∉ l.map (·.1) → l.lookup y = none := by
            intro l
            induction l with
            | nil => intro _; rfl
            | cons p l ih =>
              intro h
              rw [List.lookup_cons]
              rw [beq_eq_false_iff_ne.mpr (fun z => h (by rw [z]; exact List.mem_cons_self))]
              exact ih fun z => h (List.mem_cons_of_mem _ z)
          exact q (by rw [zip_fst hx]; exact hy)
        rw [this]
        trivial
  | f :: fs, [], _, _, _, _, hl, _, _, _ => by simp at hl
section
variable {X : Cx} {C fI : Addr} {cn qual msg : Str} {fs : List Str} {st : Stmt}
/-- E(e, ..) -/
def tMkX (C : Addr) (fs : List Str) (ta : TA) : L2.St → Hp → XK → Prop := fun σ H Q => ta σ H fun vs H1 => vs.length = fs.length ∧ ∀ d, H1 d = none → Q (.ref C) (some d) (upd H1 d (.xd (fs.zip vs)))
theorem pmk_x {a : Expr} {es : List Expr} {ta : TA} {p pos : Pos} {k : Nat} (T : Txt X.prog X.K X.mg C fI cn qual msg fs st) (hr : Room k X.A) (ha : PA X (a :: es) ta) (hg : Gl X cn) (hdb : (cn == ("__debug__" : Str)) = false)
    (he : starEach (a :: es) X.env = (false, eval a X.env) :: starEach es X.env) (hpl : (backTo pos (starEach es X.env)).any (·.1) = false) :
    PMk X (.Call (.Name cn p) (a :: es) [] pos) (tMkX C fs ta) := by
  intro pins s σ H Q I h
  refine wpAny_Call_Name_kw (ld_glob I hg T.gC ?_ hdb)
  refine PySem.W.callWith_K (h₀ := X.base) I.ok.mod.kin T.kC (thn (ha.run pos pins s σ H _ I h) fun us s1 hh => ?_) he hpl
  obtain ⟨vs, H1, I1, r1, hlen, q1⟩ := hh
  refine ⟨I1.kIn, ?_⟩
  change wpAny (model X.prog X.w) X.A (call (.ref C) us) _ _ _
  have hlim := I1.nolimit
  have P : Top X.mg s1.heap := by
    obtain ⟨mb, h1, h2⟩ := I1.mod.blt
    exact ⟨I1.mod.glob.keeps I1.bk, mb, h1.keeps I1.bk, h2⟩
  have hul : us.length = fs.length := by rw [← r1.length]; exact hlen
  obtain ⟨hp, g, dr, tk, os⟩ := s1
  refine wpAny_call (made T I1.kIn P hlim (by have := hr.dp; omega) hul fun h' tk' e d M => ?_)
  show MkP X pins σ Q (.ref e) ⟨h', g, dr, tk', os⟩
  obtain ⟨oe, fv, hoe, hc, hd, hdat, h1⟩ := M.obj
  have hns := M.ns
  obtain ⟨G', g1, g2⟩ := restrict h' fun b => decide (b ≠ e)
  have gk : ∀ b, b ≠ e → G'.get? b = h'.get? b := fun b hb => g1 b (decide_eq_true hb)
  have ge : G'.get? e = none := g2 e (by simp)
  have old : ∀ b o, hp.get? b = some o → G'.get? b = some o := fun b o q => (gk b (Nat.ne_of_lt (Nat.lt_of_lt_of_le (Heap.lt_size q) M.new))).trans (M.keep b o q)
  have ob : ObjOk X.prog X.w (upd H1 d (.xd (fs.zip vs))) G' d (.xd (fs.zip vs)) :=
    ⟨_, hns.at (fun o q => (gk d M.dne).trans q), fun f => putAll_rel T.nd.1 r1 hul (fun _ _ => rfl) (fun _ => rfl) f⟩
  have J : Inv X pins σ (upd H1 d (.xd (fs.zip vs))) ⟨G', g, dr, tk', os⟩ := I1.laid (t' := tk') old M.dbig ob
  refine ⟨e, oe, fv, ⟨G', g, dr, tk', os⟩, _, .ref C, some d, rfl, J, fun b o q => ?_, ge, hoe, ⟨hc, hd⟩, hdat, h1, ?_, rfl, I1.bare, raises_own T.exC T.tyC, q1 d (I1.hok.fresh M.dbig)⟩
  · by_cases hb : b = e
    · have q' : G'.get? b = some o := q
      rw [hb, ge] at q'; cases q'
    · exact (gk b hb).symm.trans q
  · rw [upd_ne (Ne.symm M.dne)]
    exact I1.hok.fresh M.new
end
end DX

/-! try, with several clauses, each with a name or without; the error that a clause took stands tracked, so it may be kept -/
namespace DT
open PySem PySem.Spec PyProof.Rows L2 DL
/-- the context of a clause's suite -/
abbrev su (X : Cx) (a : Addr) (pn : List (Addr × Obj)) : Cx := { X with A := X.A.mark (some (.ref a)), calm := false, pn := pn, xe := fun _ _ => False }
section
variable {X : Cx} {pins : List (Addr × Obj)} {σ : L2.St} {H : Hp} {s : Shared} {a : Addr}
theorem su_ok (ok : X.Ok) (pn : List (Addr × Obj)) : (su X a pn).Ok :=
  { mod := ok.mod, kind := ok.kind, glob := ok.glob, blt := ok.blt, above := ok.above, inj := ok.inj, has := ok.has, cab := ok.cab, hd := fun z => Bool.noConfusion (show false = true from z), frames := ok.frames, stk := ok.stk, exf := ok.exf, bs := ok.bs, bsz := ok.bsz, noex := ok.noex, exfs := ok.exfs, funs := ok.funs, frf := ok.frf }
theorem exv_ne {cls : Value} {d : Option Addr} {a : Addr} {o : HO} (h : ∀ φ, o ≠ .ext φ) : ExV cls d a ≠ o := fun z => h _ z.symm
/-- the error is held: tracked from now on -/
theorem held (I : Inv X pins σ H s) {cls : Value} {d : Option Addr} {oe : Obj} {vs : Array Value} (ha : s.heap.get? a = some oe) (hz : Zc cls d oe) (hd : oe.data = .fields vs) (na : H a = none) (nL : a ≠ X.env.locals) (nF : a ∉ X.fs)
    (n0 : X.s_0.heap.get? a = none) (np : ∀ p ∈ X.pn ++ pins, p.1 ≠ a) : Inv (su X a (X.pn ++ pins)) [] σ (upd H a (ExV cls d a)) s := by
  have away : ∀ {b : Addr} {o : HO}, H b = some o → b ≠ a := fun q => ne_of_none q na
  refine { ok := su_ok I.ok _, os := I.os, bare := I.bare, base := ?b, loc := I.loc, cell := I.cell, free := ?f, freeC := ?c, pin := ?p, hok := ?h, len := I.len }
  case b =>
    refine { keep := I.base.keep, slot := I.base.slot, free := fun b o q n x => ?_, there := I.base.there, tups := fun b xs q => ?_, frzs := fun b o u q => ?_, tbls := fun b ps q => ?_ }
    · have hb : b ≠ a := by
        intro z
        have q' : X.s_0.heap.get? b = some o := q
        rw [z, n0] at q'
        cases q'
      rw [upd_ne hb]
      exact I.base.free b o q n x
    · have z := I.base.tups b xs q
      rw [upd_ne (away z)]
      exact z
    · have z := I.base.frzs b o u q
      rw [upd_ne (away z)]
      exact z
    · obtain ⟨more, z⟩ := I.base.tbls b ps q
      exact ⟨more, by rw [upd_ne (away z)]; exact z⟩
  case f =>
    show upd H a (ExV cls d a) X.env.locals = none
    rw [upd_ne (Ne.symm nL)]
    exact I.free
  case c =>
    intro x c e
    have hc : c ≠ a := fun z => by
      obtain ⟨v, o, h1, h2⟩ := I.cell x c e
      rw [z, ha] at h1
      cases h1
      rw [hd] at h2
      cases h2
    rw [upd_ne hc]
    exact I.freeC x c e
  case p =>
    intro p hp
    have hp' : p ∈ X.pn ++ pins := by
      rw [List.append_nil] at hp
      exact hp
    obtain ⟨h1, h2, h3, h4, h5⟩ := I.pin p hp'
    exact ⟨h1, by rw [upd_ne (np p hp')]; exact h2, h3, h4, h5⟩
  case h =>
    intro b o q
    by_cases hb : b = a
    · subst hb
      rw [upd_same] at q
      cases q
      exact ⟨⟨oe, vs, ha, hz, hd⟩, ⟨oe, ha⟩, fun h1 h2 y k => by
        obtain ⟨oe', vs', e1, e2, e3⟩ := y
        exact ⟨oe', vs', k _ e1, e2, e3⟩⟩
    · rw [upd_ne hb] at q
      exact (I.hok b o q).stay (fun _ _ _ y => y) (fun c y => by rw [upd_ne (away y)]; exact y) fun c xs y => by rw [upd_ne (away y)]; exact y
theorem unheld {pn' : List (Addr × Obj)} (I : Inv (su X a (X.pn ++ pins)) pn' σ H s) (ok : X.Ok) : Inv X pins σ H s :=
  { ok := ok, os := I.os, bare := I.bare, base := I.base, loc := I.loc, cell := I.cell, free := I.free, freeC := I.freeC, pin := fun p hp => I.pin p (List.mem_append_left _ hp), hok := I.hok, len := I.len }
end
/-- the class that a clause names is looked up, in whatever context -/
theorem clause_name {Y : Cx} {M : Model} {A : Around} {qs : List (Addr × Obj)} {τ : L2.St} {J : Hp} {s' : Shared} (K : Inv Y qs τ J s') {x : Str} {c : Value} {at' : Pos} {Q : Value → Shared → Prop} {E : Value → Shared → Prop} (n : Names Y x c) (q : Q c s')
    (go : wpAny (model Y.prog Y.w) Y.A (eval (.Name x at') Y.env) Q E s' → wpAny M A (eval (.Name x at') Y.env) Q E s') : wpAny M A (eval (.Name x at') Y.env) Q E s' :=
  go (n.2.2.elim (fun own => ld_glob K n.1 own q n.2.1) fun b => ld_blt K n.1 b.1 b.2.1 q b.2.2 n.2.1)
/-- a clause: what it names, the slot of its name, its suite's reading -/
structure Cl where
  c : Value
  i : Option Nat
  t : TS
def inS (i : Option Nat) (a : Addr) (σ : L2.St) : L2.St := match i with
  | some i => σ.set i (some (.ref a))
  | none => σ
def outS (i : Option Nat) (σ : L2.St) : L2.St := match i with
  | some i => σ.set i none
  | none => σ
def endS (i : Option Nat) (D : Ends) : Ends := { nx := fun σ H => D.nx (outS i σ) H, rt := D.rt, bk := fun σ H => D.bk (outS i σ) H, ct := fun σ H => D.ct (outS i σ) H }
/-- what the clauses wish -/
def wTry (K : PySem.W.Frag) (Wo : WX) (D : Ends) : List Cl → WX
  | [] => Wo
  | k :: r => fun cls d σ H => ∃ b, PySem.W.exmOne K cls k.c = some b ∧ (b = true → ∀ a, H a = none → k.t (endS k.i D) (inS k.i a σ) (upd H a (ExV cls d a))) ∧ (b = false → wTry K Wo D r cls d σ H)
inductive Cls (X : Cx) : List ExceptHandler → List Cl → Prop
  | nil : Cls X [] []
  | bare {x : Str} {c : Value} {t : TS} {b₀ : Stmt} {su' : List Stmt} {np p' : Pos} {hs : List ExceptHandler} {l : List Cl} (hc : Names X x c)
      (hsu : ∀ (a : Addr) (pn : List (Addr × Obj)), PSs (su X a pn) (b₀ :: su') t) (r : Cls X hs l) : Cls X (.ExceptHandler (some (.Name x np)) none (b₀ :: su') p' :: hs) (⟨c, none, t⟩ :: l)
  | named {x n : Str} {i : Nat} {c : Value} {t : TS} {b₀ : Stmt} {su' : List Stmt} {np p' : Pos} {hs : List ExceptHandler} {l : List Cl} (hc : Names X x c) (hN : X.N.Nodup) (hi : X.N[i]? = some n) (hl : X.env.kindOf n = some .local)
      (hsu : ∀ (a : Addr) (pn : List (Addr × Obj)), PSs (su X a pn) (b₀ :: su') t) (r : Cls X hs l) : Cls X (.ExceptHandler (some (.Name x np)) (some n) (b₀ :: su') p' :: hs) (⟨c, some i, t⟩ :: l)
section
variable {X : Cx} {body : List Stmt} {h₀ : ExceptHandler} {hds : List ExceptHandler} {l : List Cl} {pos : Pos} {tb : WX → TS} {Wo : WX}
theorem ps_tryD (hs : X.stack = X.env :: X.outer) (hf : X.env.frame = some X.env.locals) (hex : X.ex = []) (tk : Takes X Wo)
    (hb : ∀ (W : WX) (pn : List (Addr × Obj)) (xe : Value → Shared → Prop), Takes (X.tr pn xe) W → PassesOwn (model X.prog X.w) X.A X.env xe → PSs (X.tr pn xe) body (tb W))
    (hh : Cls X (h₀ :: hds) l) : PS X (.Try body (h₀ :: hds) [] [] pos) (fun D σ H => tb (wTry X.K Wo D l) D σ H) := by
  constructor
  intro pins s σ H D I hw
  have ok := I.ok
  have hfr : X.A.frames = some (X.env :: X.outer) := ok.frames.trans (congrArg some hs)
  apply wpAny_Try_except
  refine wpAny_mono ((hb (wTry X.K Wo D l) (X.pn ++ pins) (fun e s₁ => wpAny (model X.prog X.w) X.A (noteFrame e X.env) (fun _ s₂ => wpAny (model X.prog X.w) X.A (setFlight e none) (fun _ s₃ =>
      wpAny (model X.prog X.w) X.A (handleBy e X.env (h₀ :: hds)) (SP X pins D) X.xe s₃) X.xe s₂) X.xe s₁) ?grab PassesOwn.looking).run [] s σ H D (I.toTry _) hw) (fun fl s1 h1 => ?after) (fun e s1 he => he)
  case grab =>
    intro u s' xx
    obtain ⟨a, B, sI, pinsI, σ', H', cls, d, rfl, JJ, nb, up, sky, na, os, ag, w⟩ := xx
    have J : Inv X pins σ' H' sI := JJ.ofTry ok
    have sky' : Sky B (X.env :: X.outer) a (Zc cls d) X.env.locals s'.heap := hs ▸ sky
    refine Sky.land Zc.steady hfr hf sky' fun g3 f3 u3 => ?_
    have J3 : Inv X pins σ' H' { s' with heap := g3 } := J.landed nb f3.1 (up.trans u3) os ag
    obtain ⟨oe3, vs3, he3, hz3, hd3⟩ := f3.there
    have apart : a ∉ frs (X.env :: X.outer) := fun hm => by
      obtain ⟨_, o', e', no⟩ := f3.2.2.1.mem hm
      rw [he3] at e'
      cases e'
      exact no _ hd3
    have nL : a ≠ X.env.locals := fun z => apart (List.mem_filterMap.mpr ⟨X.env, List.mem_cons_self, by rw [hf, z]⟩)
    have nF : a ∉ X.fs := by
      intro hm
      obtain ⟨en, h1, h2⟩ := List.mem_filterMap.mp hm
      exact apart (List.mem_filterMap.mpr ⟨en, List.mem_cons_of_mem _ h1, h2⟩)
    have nI : sI.heap.get? a = none := by
      cases z : sI.heap.get? a with
      | none => rfl
      | some o =>
        have y := nb a o z (by rw [show frs (X.tr (X.pn ++ pins) _).stack = frs (X.env :: X.outer) from congrArg frs hs]; exact apart)
        rw [f3.2.1] at y
        cases y
    have early : X.s_0.heap.get? a = none := by
      cases z : X.s_0.heap.get? a with
      | none => rfl
      | some o =>
        obtain ⟨o', y⟩ := J.base.there a o z (by rw [hex]; exact List.not_mem_nil)
        rw [nI] at y
        cases y
    have np : ∀ p ∈ X.pn ++ pins, p.1 ≠ a := fun p hp z => by
      have y := (J.pin p hp).1
      rw [z, nI] at y
      cases y
    have pinned := J3.suite he3 hd3 na nL nF
    -- the clauses, one after another
    have walk : ∀ {hs' : List ExceptHandler} {l' : List Cl}, Cls X hs' l' → wTry X.K Wo D l' cls d σ' H' → wpAny (model X.prog X.w) X.A (handleBy (.ref a) X.env hs') (SP X pins D) X.xe { s' with heap := g3 } := by
      intro hs' l' hk
      have LT : PySem.W.Looks (model X.prog X.w) g3 (typeOf (.ref a)) cls := fun A Q E s k q => wpAny_typeOf_ref (k _ _ he3) (by rw [hz3.1]; exact q)
      have name : ∀ {x : Str} {c : Value} {np : Pos} {Q : Value → Shared → Prop} {E : Value → Shared → Prop}, Names X x c → Q c { s' with heap := g3 } → wpAny (model X.prog X.w) (X.A.mark (some (.ref a))) (eval (.Name x np) X.env) Q E { s' with heap := g3 } := by
        intro x c np Q E hc q
        exact clause_name (Y := X.suite a ((a, oe3) :: (X.pn ++ pins))) pinned hc q id
      -- into the suite
      have enter : ∀ {Q : Unit → Shared → Prop} {E : Value → Shared → Prop}, (∀ s4, Inv (su X a (X.pn ++ pins)) [] σ' (upd H' a (ExV cls d a)) s4 → Q () s4) → wpAny (model X.prog X.w) (X.A.mark (some (.ref a))) (setFlight (.ref a) none) Q E { s' with heap := g3 } := by
        intro Q E q
        refine HandSPX.lands_againZ f3 fun g4 f4 u4 => ?_
        have J4 : Inv X pins σ' H' { s' with heap := g4 } := J.landed nb f4.1 ((up.trans u3).trans u4) os ag
        obtain ⟨oe4, vs4, he4, hz4, hd4⟩ := f4.there
        exact q _ (held J4 he4 hz4 hd4 na nL nF early np)
      induction hk with
      | nil =>
        intro w
        apply wpAny_handleBy_nil
        obtain ⟨k1, k2, k3, oe, vs, T, oT, ts', he, hz, hd, h1, hr⟩ := id f3
        have last : wpAny (model X.prog X.w) X.A (setFlight (.ref a) X.env.frame) (fun _ s4 => wpAny (model X.prog X.w) X.A (throw (.ref a) : Sem Flow) (SP X pins D) X.xe s4) X.xe { s' with heap := g3 } := by
          rw [hf]
          refine HandSPX.setFlight_upZ f3 fun g4 hh4 u4 => wpAny_throw (tk _ _ ⟨a, B, sI, pins, σ', H', cls, d, rfl, J, nb, (up.trans u3).trans u4, .inr (.inr (by rw [hs]; exact hh4)), na, os, ag, w⟩)
        unfold PySem.passOn
        apply wpAny_bind
        apply wpAny_field he hd h1
        rw [if_neg (by simp)]
        first
          | exact wpAny_bind (wpAny_pure (wpAny_bind last))
          | exact wpAny_bind last
      | @bare x c t b₀ su' np' p' hs2 l2 hc hsu r ih =>
        intro w
        obtain ⟨b, hb1, yes, no⟩ := w
        refine wpAny_handleBy_cons (codeAny_handlers_test ?_) (fun q => nomatch q)
        have LM := PySem.W.exm_one (M := model X.prog X.w) J3.kIn LT hb1
        refine name hc (LM.here ?_)
        cases b with
        | false =>
          show wpAny _ X.A (handleBy (.ref a) X.env hs2) _ _ _
          exact ih (no rfl)
        | true =>
          refine codeAny_handlers_suite (enter fun s4 S4 => ?_)
          refine wpAny_mono ((hsu a (X.pn ++ pins)).run [] s4 σ' _ _ S4 (yes rfl a na)) (fun fl s5 h5 => ?_) (fun _ _ z => z.elim)
          cases fl with
          | next => obtain ⟨σ6, H6, S6, q6⟩ := h5; exact ⟨σ6, H6, unheld S6 ok, q6⟩
          | brk => obtain ⟨σ6, H6, S6, q6⟩ := h5; exact ⟨σ6, H6, unheld S6 ok, q6⟩
          | cont => obtain ⟨σ6, H6, S6, q6⟩ := h5; exact ⟨σ6, H6, unheld S6 ok, q6⟩
          | ret u => obtain ⟨v6, σ6, H6, S6, r6, q6⟩ := h5; exact ⟨v6, σ6, H6, unheld S6 ok, r6, q6⟩
      | @named x n i c t b₀ su' np' p' hs2 l2 hc hN hi hln hsu r ih =>
        intro w
        obtain ⟨b, hb1, yes, no⟩ := w
        refine wpAny_handleBy_cons (codeAny_handlers_test ?_) (fun q => nomatch q)
        have LM := PySem.W.exm_one (M := model X.prog X.w) J3.kIn LT hb1
        refine name hc (LM.here ?_)
        cases b with
        | false =>
          show wpAny _ X.A (handleBy (.ref a) X.env hs2) _ _ _
          exact ih (no rfl)
        | true =>
          refine codeAny_handlers_suite_as (enter fun s4 S4 => ?_)
          refine store_ok (X := su X a (X.pn ++ pins)) (v := .ref a) S4 hN hi (.inl hln) rfl (fun s5 S5 => ?_) (.inr hln)
          refine wpAny_mono ((hsu a (X.pn ++ pins)).run [] s5 _ _ _ S5 (yes rfl a na)) (fun fl s6 h6 => ?_) (fun _ _ z => z.elim)
          have gone : ∀ {σ6 : L2.St} {H6 : Hp} {Q : Shared → Prop}, Inv (su X a (X.pn ++ pins)) [] σ6 H6 s6 → (∀ s7, Inv X pins (σ6.set i none) H6 s7 → Q s7) →
              wpAny (model X.prog X.w) X.A (do bindName X.env n .none; unbindBehindTheSuite X.env n p') (fun _ s7 => Q s7) X.xe s6 := fun S6 hq => gone_ok (unheld S6 ok) hN hi hln hq
          cases fl with
          | next => obtain ⟨σ6, H6, S6, q6⟩ := h6; exact gone S6 fun s7 J7 => ⟨_, H6, J7, q6⟩
          | brk => obtain ⟨σ6, H6, S6, q6⟩ := h6; exact gone S6 fun s7 J7 => ⟨_, H6, J7, q6⟩
          | cont => obtain ⟨σ6, H6, S6, q6⟩ := h6; exact gone S6 fun s7 J7 => ⟨_, H6, J7, q6⟩
          | ret u => obtain ⟨v6, σ6, H6, S6, r6, q6⟩ := h6; exact gone S6 fun s7 J7 => ⟨v6, _, H6, J7, r6, q6⟩
    exact walk hh w
  case after =>
    cases fl with
    | next => obtain ⟨σ', H', J', q⟩ := h1; exact wpAny_execs_nil ⟨σ', H', J'.ofTry ok, q⟩
    | brk => obtain ⟨σ', H', J', q⟩ := h1; exact ⟨σ', H', J'.ofTry ok, q⟩
    | cont => obtain ⟨σ', H', J', q⟩ := h1; exact ⟨σ', H', J'.ofTry ok, q⟩
    | ret u => obtain ⟨v, σ', H', J', r, q⟩ := h1; exact ⟨v, σ', H', J'.ofTry ok, r, q⟩
end
end DT

namespace DL
open PySem PySem.Spec PyProof.Rows L2

/-! ## the canonical reading of a mirror -/
def cTS (G : Gx) (W : WX) (f : SM) : TS := fun D σ H => ∃ (ρ R : List Addr) (B : Hp) (δ : SlM) (a : Sto) (F : List Addr), Wd G B H ρ a (F ++ R) ∧ OwnS G B H ρ δ σ F ∧ FinS G W ρ R B H (f δ a) D
theorem DSs.can {X : Cx} {G : Gx} {W : WX} {st : List Stmt} {f : SM} (h : DSs X G W st f) : PSs X st (cTS G W f) := by
  obtain ⟨t, p, s⟩ := h.ex
  exact ⟨fun pins s' σ H D I ⟨ρ, R, B, δ, a, F, w, os, q⟩ => p.run pins s' σ H D I (s ρ R B H σ δ a F D w os q)⟩
/-! ## raise -/
structure DR (X : Cx) (G : Gx) (W : WX) (e : Expr) (f : EM) : Prop where
  ex : ∃ t, PMk X e t ∧ MOk G W (fun σ H _ => t σ H fun cls d H' => W cls d σ H') f
def excM (c : Nat) (fs : List Str) (fa : EA) : EM := fun δ a => (fa δ a).bind fun ds a1 => if ds.length = fs.length then .exc c fs ds a1 else .stuck
theorem dr_x {X : Cx} {G : Gx} {W : WX} {c : Nat} {fI : Addr} {cn qual msg : Str} {fs : List Str} {st : Stmt} {e : Expr} {es : List Expr} {fa : EA} {p pos : Pos} {k : Nat} (T : DX.Txt X.prog X.K X.mg (G.T c) fI cn qual msg fs st) (hr : Room k X.A) (ha : DA X G W (e :: es) fa) (hg : Gl X cn := by rfl) (hdb : (cn == ("__debug__" : Str)) = false := by decide)
    (he : starEach (e :: es) X.env = (false, eval e X.env) :: starEach es X.env := by rfl) (hpl : (backTo pos (starEach es X.env)).any (·.1) = false := by rfl) : DR X G W (.Call (.Name cn p) (e :: es) [] pos) (excM c fs fa) := by
  obtain ⟨t, pa, s⟩ := ha.ex
  refine ⟨_, DX.pmk_x T hr pa hg hdb he hpl, fun ρ R B H σ δ a Q w sl q => s ρ R B H σ δ a _ w sl (Fin.imp (Fin.seqM q) fun ds a1 B1 H1 w1 s1 k1 q1 vs r => ?_)⟩
  by_cases hl : ds.length = fs.length
  · rw [if_pos hl] at q1
    have hv : vs.length = fs.length := by rw [← r.len]; exact hl
    refine ⟨hv, fun d hd => q1 (upd B1 d (.xd (fs.zip vs))) (upd H1 d (.xd (fs.zip vs))) (some d) (w1.new hd) (same_new (w1.noneB hd)) (kp_new w1 hd) (.inr ⟨d, vs, rfl, upd_same, hv.symm, Reps.mono (same_new (w1.noneB hd)) ds vs r⟩)⟩
  · rw [if_neg hl] at q1
    exact q1.elim
def sRaise (I : List Nat) (f : EM) : SM := fun δ a => (lift I f δ a).seq fun _ _ _ => .stuck
theorem ds_raise {X : Cx} {G : Gx} {W : WX} {e : Expr} {f : EM} {pos : Pos} (I : List Nat) (hc : X.calm = true) (tk : Takes X W) (h : DR X G W e f) : DS X G W (.Raise (some e) none pos) (sRaise I f) := by
  obtain ⟨t, p, s⟩ := h.ex
  refine ⟨_, ps_raise hc tk p, fun ρ R B H σ δ a F D w os q => ?_⟩
  exact lift_ok (Q := fun _ _ => False) s w os (Ox.fin q fun m δ' a' B' H' v F' F1 w' om os' q' => q')
/-! ## try -/
/-- a clause: the classes that it may be asked of, those that it takes, its name's slot, its suite -/
structure Hc where
  cs : List Nat
  ms : List Nat
  i : Option Nat
  g : SM
def outM (i : Option Nat) (o : OutS) : OutS := match i with
  | none => o
  | some i => match o with
    | .nx δ a => .nx (δ.set i none) a
    | .bk δ a => .bk (δ.set i none) a
    | .ct δ a => .ct (δ.set i none) a
    | o => o
def tryH : List Hc → Nat → List Str → List D → SM
  | [], c, ns, ds => fun δ a => .exc c ns ds δ a
  | h :: r, c, ns, ds => fun δ a => if c ∈ h.cs then (if c ∈ h.ms then outM h.i (match h.i with
      | none => (match h.g δ a with | .exc .. => .stuck | o => o)
      | some i => if i < δ.length then (match h.g (δ.set i (some (.val (.exc c ns ds)))) a with | .exc .. => .stuck | o => o) else .stuck) else tryH r c ns ds δ a) else .stuck
def sTry (f : SM) (hs : List Hc) : SM := fun δ a => match f δ a with
  | .exc c ns ds δ' a' => tryH hs c ns ds δ' a'
  | o => o
section
variable {G : Gx} {ρ R : List Addr} {B H : Hp}
theorem OwnS.out {δ : SlM} {σ : L2.St} {F : List Addr} {a : Sto} (i : Nat) (w : Wd G B H ρ a (F ++ R)) (os : OwnS G B H ρ δ σ F) : ∃ F', Wd G B H ρ a (F' ++ R) ∧ OwnS G B H ρ (δ.set i none) (σ.set i none) F' := by
  obtain ⟨Fi, Fr, p, h⟩ := OwnS.forget (i := i) os
  have z : (F ++ R).Perm (Fi ++ (Fr ++ R)) := by
    rw [← List.append_assoc]
    exact List.Perm.append_right _ p
  exact ⟨Fr, (w.perm z).drop, h⟩
/-- behind a suite with a name -/
theorem FinS.out {W W0 : WX} {o : OutS} {D : Ends} {i : Option Nat} (h : FinS G W ρ R B H (outM i (match o with | .exc .. => .stuck | o => o)) D) : FinS G W0 ρ R B H o (DT.endS i D) := by
  cases i with
  | none =>
    cases o with
    | exc c ns ds δ a => exact h.elim
    | nx δ a => exact h
    | rt m a => exact h
    | bk δ a => exact h
    | ct δ a => exact h
    | stuck => exact h
  | some i =>
    cases o with
    | exc c ns ds δ a => exact h.elim
    | nx δ a =>
      intro B' H' σ' F' w s kp os
      obtain ⟨F2, w2, os2⟩ := OwnS.out i w os
      exact h B' H' _ F2 w2 s kp os2
    | bk δ a =>
      intro B' H' σ' F' w s kp os
      obtain ⟨F2, w2, os2⟩ := OwnS.out i w os
      exact h B' H' _ F2 w2 s kp os2
    | ct δ a =>
      intro B' H' σ' F' w s kp os
      obtain ⟨F2, w2, os2⟩ := OwnS.out i w os
      exact h B' H' _ F2 w2 s kp os2
    | rt m a => exact h
    | stuck => exact h
end
/-- the clauses of a try -/
inductive Hcs (X : Cx) (G : Gx) : List ExceptHandler → List Hc → Prop
  | nil : Hcs X G [] []
  | bare {x : Str} {C : Value} {cs ms : List Nat} {g : SM} {b₀ : Stmt} {su' : List Stmt} {np p' : Pos} {hs : List ExceptHandler} {l : List Hc} (hc : Names X x C) (he : ∀ c ∈ cs, PySem.W.exmOne X.K (.ref (G.T c)) C = some (decide (c ∈ ms)))
      (hsu : ∀ (a : Addr) (pn : List (Addr × Obj)), DSs (DT.su X a pn) G (fun _ _ _ _ => False) (b₀ :: su') g) (r : Hcs X G hs l) : Hcs X G (.ExceptHandler (some (.Name x np)) none (b₀ :: su') p' :: hs) (⟨cs, ms, none, g⟩ :: l)
  | named {x n : Str} {i : Nat} {C : Value} {cs ms : List Nat} {g : SM} {b₀ : Stmt} {su' : List Stmt} {np p' : Pos} {hs : List ExceptHandler} {l : List Hc} (hc : Names X x C) (he : ∀ c ∈ cs, PySem.W.exmOne X.K (.ref (G.T c)) C = some (decide (c ∈ ms))) (hN : X.N.Nodup) (hi : X.N[i]? = some n) (hl : X.env.kindOf n = some .local)
      (hsu : ∀ (a : Addr) (pn : List (Addr × Obj)), DSs (DT.su X a pn) G (fun _ _ _ _ => False) (b₀ :: su') g) (r : Hcs X G hs l) : Hcs X G (.ExceptHandler (some (.Name x np)) (some n) (b₀ :: su') p' :: hs) (⟨cs, ms, some i, g⟩ :: l)
/-- the clauses, and that their wish is what the mirror tells -/
theorem Hcs.cls {X : Cx} {G : Gx} {W : WX} : ∀ {hs : List ExceptHandler} {l : List Hc}, Hcs X G hs l → ∃ l', DT.Cls X hs l' ∧ ∀ (Z : Ends) (c : Nat) (ns : List Str) (ds : List D) (δ : SlM) (a : Sto) (ρ R : List Addr) (B H : Hp) (σ : L2.St) (dd : Option Addr) (F : List Addr),
    Wd G B H ρ a (F ++ R) → XdO G B ρ ns ds dd → OwnS G B H ρ δ σ F → FinS G W ρ R B H (tryH l c ns ds δ a) Z → DT.wTry X.K W Z l' (.ref (G.T c)) dd σ H
  | _, _, .nil => ⟨[], .nil, fun D c ns ds δ a ρ R B H σ dd F w x os q => q B H σ dd F w (Same.refl _) Kp.refl x os⟩
  | _, _, .bare (C := C) (cs := cs) (ms := ms) (g := g) hc he hsu r => by
    obtain ⟨l', h1, h2⟩ := Hcs.cls (W := W) r
    refine ⟨⟨C, none, cTS G (fun _ _ _ _ => False) g⟩ :: l', .bare hc (fun a pn => (hsu a pn).can) h1, fun D c ns ds δ a ρ R B H σ dd F w x os q => ?_⟩
    unfold tryH at q
    by_cases hcs : c ∈ cs
    · dsimp only at q
      rw [if_pos hcs] at q
      refine ⟨decide (c ∈ ms), he c hcs, fun hm ad na => ?_, fun hm => ?_⟩
      · rw [if_pos (of_decide_eq_true hm)] at q
        have kp := kp_new (o := ExV (.ref (G.T c)) dd ad) w na
        have sm := same_new (o := ExV (.ref (G.T c)) dd ad) (w.noneB na)
        exact ⟨ρ, R, _, δ, a, F, w.new na, OwnS.mono sm δ σ F (fun p hp => kp p (List.mem_append_left _ hp)) os, FinS.out (W := W) (i := none) (FinS.base q sm kp.right)⟩
      · rw [if_neg (of_decide_eq_false hm)] at q
        exact h2 D c ns ds δ a ρ R B H σ dd F w x os q
    · dsimp only at q
      rw [if_neg hcs] at q
      exact q.elim
  | _, _, .named (i := i) (C := C) (cs := cs) (ms := ms) (g := g) hc he hN hi hl hsu r => by
    obtain ⟨l', h1, h2⟩ := Hcs.cls (W := W) r
    refine ⟨⟨C, some i, cTS G (fun _ _ _ _ => False) g⟩ :: l', .named hc hN hi hl (fun a pn => (hsu a pn).can) h1, fun D c ns ds δ a ρ R B H σ dd F w x os q => ?_⟩
    unfold tryH at q
    by_cases hcs : c ∈ cs
    · dsimp only at q
      rw [if_pos hcs] at q
      refine ⟨decide (c ∈ ms), he c hcs, fun hm ad na => ?_, fun hm => ?_⟩
      · rw [if_pos (of_decide_eq_true hm)] at q
        by_cases hlt : i < δ.length
        · rw [if_pos hlt] at q
          have kp := kp_new (o := ExV (.ref (G.T c)) dd ad) w na
          have sm := same_new (o := ExV (.ref (G.T c)) dd ad) (w.noneB na)
          have w1 := w.new (o := ExV (.ref (G.T c)) dd ad) na
          have os1 := OwnS.mono sm δ σ F (fun p hp => kp p (List.mem_append_left _ hp)) os
          have rp : Rep G (upd B ad (ExV (.ref (G.T c)) dd ad)) ρ (.exc c ns ds) (.ref ad) := by
            refine ⟨ad, dd, rfl, upd_same, ?_⟩
            rcases x with e1 | ⟨d, xs, e1, e2, e3, e4⟩
            · exact .inl e1
            · exact .inr ⟨d, xs, e1, sm _ _ e2, e3, Reps.mono sm ds xs e4⟩
          obtain ⟨Fi, Fr, F2, p1, p2, os2⟩ := OwnS.set (m := .val (.exc c ns ds)) (Fm := []) ⟨rfl, rp⟩ os1 hlt
          have z : (F ++ R).Perm (Fi ++ (F2 ++ R)) := by
            have z1 : (F ++ R).Perm (Fi ++ (Fr ++ R)) := by
              rw [← List.append_assoc]
              exact List.Perm.append_right _ p1
            exact z1.trans (List.Perm.append_left Fi (List.Perm.append_right R (by simpa using p2.symm)))
          exact ⟨ρ, R, _, _, a, F2, (w1.perm z).drop, os2, FinS.out (W := W) (i := some i) (FinS.base q sm kp.right)⟩
        · rw [if_neg hlt] at q
          exact q.elim
      · rw [if_neg (of_decide_eq_false hm)] at q
        exact h2 D c ns ds δ a ρ R B H σ dd F w x os q
    · dsimp only at q
      rw [if_neg hcs] at q
      exact q.elim
theorem ds_try {X : Cx} {G : Gx} {W : WX} {body : List Stmt} {h₀ : ExceptHandler} {hds : List ExceptHandler} {f : SM} {l : List Hc} {pos : Pos} (hs : X.stack = X.env :: X.outer) (hf : X.env.frame = some X.env.locals) (hex : X.ex = []) (tk : Takes X W)
    (hb : ∀ (W' : WX) (pn : List (Addr × Obj)) (xe : Value → Shared → Prop), Takes (X.tr pn xe) W' → PassesOwn (model X.prog X.w) X.A X.env xe → DSs (X.tr pn xe) G W' body f) (hh : Hcs X G (h₀ :: hds) l) :
    DS X G W (.Try body (h₀ :: hds) [] [] pos) (sTry f l) := by
  obtain ⟨l', h1, h2⟩ := Hcs.cls (W := W) hh
  refine ⟨_, DT.ps_tryD (tb := fun W' => cTS G W' f) hs hf hex tk (fun W' pn xe t p => (hb W' pn xe t p).can) h1, fun ρ R B H σ δ a F D w os q => ⟨ρ, R, B, δ, a, F, w, os, ?_⟩⟩
  unfold sTry at q
  cases ef : f δ a with
  | exc c ns ds δ' a' =>
    rw [ef] at q
    intro B' H' σ' dd F' w' sm kp x os'
    exact h2 D c ns ds δ' a' ρ R B' H' σ' dd F' w' x os' (FinS.base q sm kp)
  | nx δ' a' =>
    rw [ef] at q
    exact q
  | rt m a' =>
    rw [ef] at q
    exact q
  | bk δ' a' =>
    rw [ef] at q
    exact q
  | ct δ' a' =>
    rw [ef] at q
    exact q
  | stuck =>
    rw [ef] at q
    exact q
end DL

namespace DL
open PySem PySem.Spec PyProof.Rows L2

/-! ## either of two readings -/
def orM (f g : EM) : EM := fun δ a => match f δ a with
  | .stuck => g δ a
  | o => o
theorem dm_or {X : Cx} {G : Gx} {W : WX} {e : Expr} {f g : EM} (h1 : DM X G W e f) (h2 : DM X G W e g) : DM X G W e (orM f g) := by
  obtain ⟨t1, p1, s1⟩ := h1.ex
  obtain ⟨t2, p2, s2⟩ := h2.ex
  refine ⟨fun σ H Q => t1 σ H Q ∨ t2 σ H Q, ⟨fun pins s σ H Q I h => h.elim (p1.run pins s σ H Q I) (p2.run pins s σ H Q I)⟩, fun ρ R B H σ δ a Q w sl q => ?_⟩
  unfold orM at q
  cases c : f δ a with
  | stuck =>
    rw [c] at q
    exact .inr (s2 ρ R B H σ δ a Q w sl q)
  | ok m a1 =>
    rw [c] at q
    exact .inl (s1 ρ R B H σ δ a Q w sl (by rw [c]; exact q))
  | exc k ns ds a1 =>
    rw [c] at q
    exact .inl (s1 ρ R B H σ δ a Q w sl (by rw [c]; exact q))
/-! ## in, not in -/
def flatD : D → Bool
  | .non => true
  | .bl _ => true
  | .int _ => true
  | .str _ => true
  | _ => false
def inRow (d : D) (deep : Bool) (l : List D) : Option Bool := if flatD d = true ∧ l.all flatD = true then some (l.any fun y => eqvD y d) else if deep = true ∧ dd 8 d = true ∧ l.all (dd 7) = true then some (l.any fun y => eqvD y d) else none
def inG (d e : D) : Option Bool := match e with
  | .lst l => inRow d true l
  | .tup l => inRow d false l
  | _ => none
def inT (i j : Str) : Bool := match i.cps.toList with
  | [c] => decide (c ∈ j.cps.toList)
  | _ => !(Builtin.Str.occurrences j i 0 j.length 1).isEmpty
def txt : D → Option Str
  | .str s => some s
  | _ => none
def inB (d e : D) : Option Bool := match txt d with
  | some i => (match txt e with
    | some j => some (inT i j)
    | none => inG d e)
  | none => inG d e
def dIn (d e : D) : Option D := (inB d e).map D.bl
def dNotIn (d e : D) : Option D := (inB d e).map fun b => D.bl (!b)
def rInA (K : PySem.W.Frag) : R2 := fun x y H Q => (∃ (c : Nat) (z : Str), x = .str ⟨#[c]⟩ ∧ y = .str z ∧ Q (.bl (decide (c ∈ z.cps.toList))) H) ∨ ((∃ i j, x = .str i ∧ y = .str j ∧ Q (.bl (!(Builtin.Str.occurrences j i 0 j.length 1).isEmpty)) H) ∨ (rIn K false x y H Q ∨ rInD K x y H Q))
def rNotInA (K : PySem.W.Frag) : R2 := fun x y H Q => (∃ (c : Nat) (z : Str), x = .str ⟨#[c]⟩ ∧ y = .str z ∧ Q (.bl (!decide (c ∈ z.cps.toList))) H) ∨ ((∃ i j, x = .str i ∧ y = .str j ∧ Q (.bl (!(!(Builtin.Str.occurrences j i 0 j.length 1).isEmpty))) H) ∨ (rIn K true x y H Q ∨ rNotInD K x y H Q))
theorem op_inA {X : Cx} (hu : X.A.units + 65 < cLine) : OpR X (compareOp .In) (rInA X.K) := op_in_sign.or (op_in_str.or (op_in_seq.or (op_inD hu)))
theorem op_notInA {X : Cx} (hu : X.A.units + 65 < cLine) : OpR X (compareOp .NotIn) (rNotInA X.K) := op_notIn_sign.or (op_notIn_str.or (op_notIn_seq.or (op_notInD hu)))
section
variable {G : Gx} {B : Hp} {ρ : List Addr}
theorem flat_rep {d : D} {x : V} (h : flatD d = true) (r : Rep G B ρ d x) : flatV x = true := by
  cases d with
  | non => cases (show x = _ from r); rfl
  | bl b => cases (show x = _ from r); rfl
  | int b => cases (show x = _ from r); rfl
  | str b => cases (show x = _ from r); rfl
  | _ => cases h
theorem flat_reps : ∀ {l : List D} {xs : List V}, l.all flatD = true → Reps G B ρ l xs → xs.all flatV = true
  | [], xs, _, r => by
    rw [show xs = [] from r]
    rfl
  | d :: l, xs, h, r => by
    obtain ⟨x, t, rfl, h1, h2⟩ := r
    rw [List.all_cons, Bool.and_eq_true] at h ⊢
    exact ⟨flat_rep h.1 h1, flat_reps h.2 h2⟩
theorem eqV_rep {d e : D} {x y : V} (h1 : flatD d = true) (h2 : flatD e = true) (r1 : Rep G B ρ d x) (r2 : Rep G B ρ e y) : eqV x y = eqvD d e := by
  cases d <;> first | (cases h1; done) | (cases e <;> first | (cases h2; done) | (cases (show x = _ from r1); cases (show y = _ from r2); unfold eqV eqvD; rfl))
theorem any_rep {d : D} {x : V} (h1 : flatD d = true) (r1 : Rep G B ρ d x) : ∀ {l : List D} {xs : List V}, l.all flatD = true → Reps G B ρ l xs → inV x xs = l.any fun y => eqvD y d
  | [], xs, _, r => by
    rw [show xs = [] from r]
    rfl
  | e :: l, xs, h, r => by
    obtain ⟨y, t, rfl, h3, h4⟩ := r
    rw [List.all_cons, Bool.and_eq_true] at h
    show (eqV y x || inV x t) = (eqvD e d || l.any fun y => eqvD y d)
    rw [eqV_rep h.1 h1 h3 r1, any_rep h1 r1 h.2 h4]
theorem any_pd {d : D} (h1 : dd 8 d = true) : ∀ {l : List D}, l.all (dd 7) = true → (pds l).any (fun z => PyData.eqv z (pd d)) = l.any fun y => eqvD y d
  | [], _ => rfl
  | e :: l, h => by
    rw [List.all_cons, Bool.and_eq_true] at h
    have up : ∀ (n : Nat) (e : D), dd n e = true → dd (n + 1) e = true := by
      intro n
      induction n with
      | zero =>
        intro e he
        cases e <;> first | (cases he; done) | exact he
      | succ n ih =>
        intro e he
        cases e with
        | tup l => exact List.all_eq_true.mpr fun z hz => ih z (List.all_eq_true.mp he z hz)
        | lst l => exact List.all_eq_true.mpr fun z hz => ih z (List.all_eq_true.mp he z hz)
        | non => rfl
        | bl b => rfl
        | int b => rfl
        | str b => exact he
        | _ => cases he
    show (PyData.eqv (pd e) (pd d) || (pds l).any fun z => PyData.eqv z (pd d)) = (eqvD e d || l.any fun y => eqvD y d)
    rw [eqv_pd 8 e d (up 7 e h.1) h1, any_pd h1 h.2]
theorem inG_ok {H : Hp} {d e : D} {b : Bool} {x y : V} (s : Same B H) (r1 : Rep G B ρ d x) (r2 : Rep G B ρ e y) (h : inG d e = some b) :
    (∃ p xs, y = .ref p ∧ (SqL G.K H p xs ∨ SqT G.K H p xs) ∧ flatV x = true ∧ xs.all flatV = true ∧ inV x xs = b) ∨ (∃ f fs, Dp G.K H x f ∧ Dp G.K H y (.list fs) ∧ SeqAt.shaped f = true ∧ SeqAt.shaped (.list fs) = true ∧ (fs.any fun z => PyData.eqv z f) = b) := by
  cases e with
  | lst l =>
    have h' : inRow d true l = some b := h
    unfold inRow at h'
    by_cases c : flatD d = true ∧ l.all flatD = true
    · rw [if_pos c] at h'
      obtain ⟨p, xs, rfl, h1, h2⟩ := r2
      exact .inl ⟨p, xs, rfl, .inl (.of (s _ _ h1)), flat_rep c.1 r1, flat_reps c.2 h2, by rw [any_rep c.1 r1 c.2 h2]; exact Option.some.inj h'⟩
    · rw [if_neg c] at h'
      by_cases c2 : true = true ∧ dd 8 d = true ∧ l.all (dd 7) = true
      · rw [if_pos c2] at h'
        have z : dd 8 (.lst l) = true := c2.2.2
        exact .inr ⟨pd d, pds l, dp_of H s 8 d x c2.2.1 r1, dp_of H s 8 (.lst l) y z r2, shaped_pd c2.2.1, shaped_pd z, by rw [any_pd c2.2.1 c2.2.2]; exact Option.some.inj h'⟩
      · rw [if_neg c2] at h'
        cases h'
  | tup l =>
    have h' : inRow d false l = some b := h
    unfold inRow at h'
    by_cases c : flatD d = true ∧ l.all flatD = true
    · rw [if_pos c] at h'
      obtain ⟨p, xs, rfl, h1, h2⟩ := r2
      exact .inl ⟨p, xs, rfl, .inr (sqt_same s h1), flat_rep c.1 r1, flat_reps c.2 h2, by rw [any_rep c.1 r1 c.2 h2]; exact Option.some.inj h'⟩
    · rw [if_neg c, if_neg (fun z => Bool.noConfusion z.1)] at h'
      cases h'
  | _ => cases h
theorem inT_ok (i j : Str) : (∃ c, i = ⟨#[c]⟩ ∧ decide (c ∈ j.cps.toList) = inT i j) ∨ (!(Builtin.Str.occurrences j i 0 j.length 1).isEmpty) = inT i j := by
  unfold inT
  split
  · rename_i c hc
    refine .inl ⟨c, ?_, rfl⟩
    obtain ⟨⟨l⟩⟩ := i
    have hc' : l = [c] := hc
    rw [hc']
  · exact .inr rfl
theorem txt_rep {d : D} {i : Str} {x : V} (h : txt d = some i) (r : Rep G B ρ d x) : x = .str i := by
  cases d with
  | str s =>
    cases h
    exact r
  | _ => cases h
theorem inB_ok {H : Hp} {d e : D} {b : Bool} {x y : V} (s : Same B H) (r1 : Rep G B ρ d x) (r2 : Rep G B ρ e y) (h : inB d e = some b) :
    (∃ (c : Nat) (z : Str), x = .str ⟨#[c]⟩ ∧ y = .str z ∧ decide (c ∈ z.cps.toList) = b) ∨ (∃ i j, x = .str i ∧ y = .str j ∧ (!(Builtin.Str.occurrences j i 0 j.length 1).isEmpty) = b) ∨
    (∃ p xs, y = .ref p ∧ (SqL G.K H p xs ∨ SqT G.K H p xs) ∧ flatV x = true ∧ xs.all flatV = true ∧ inV x xs = b) ∨
    (∃ f fs, Dp G.K H x f ∧ Dp G.K H y (.list fs) ∧ SeqAt.shaped f = true ∧ SeqAt.shaped (.list fs) = true ∧ (fs.any fun z => PyData.eqv z f) = b) := by
  unfold inB at h
  cases t1 : txt d with
  | none =>
    rw [t1] at h
    exact .inr (.inr (inG_ok s r1 r2 h))
  | some i =>
    rw [t1] at h
    cases t2 : txt e with
    | none =>
      rw [t2] at h
      exact .inr (.inr (inG_ok s r1 r2 h))
    | some j =>
      rw [t2] at h
      have e1 : x = .str i := txt_rep t1 r1
      have e2 : y = .str j := txt_rep t2 r2
      have e3 : inT i j = b := Option.some.inj h
      rcases inT_ok i j with ⟨c, hc, q⟩ | q
      · exact .inl ⟨c, j, by rw [e1, hc], e2, q.trans e3⟩
      · exact .inr (.inl ⟨i, j, e1, e2, q.trans e3⟩)
theorem o_in : Op2 G (rInA G.K) dIn := fun B H ρ d1 d2 d x y Q s r1 r2 e q => by
  unfold dIn at e
  cases c : inB d1 d2 with
  | none =>
    rw [c] at e
    cases e
  | some b =>
    rw [c] at e
    cases e
    have q' := q (.bl b) rfl
    rcases inB_ok s r1 r2 c with ⟨c', z, h1, h2, rfl⟩ | ⟨i, j, h1, h2, rfl⟩ | ⟨p, xs, h1, h2, h3, h4, rfl⟩ | ⟨f, fs, h1, h2, h3, h4, rfl⟩
    · exact .inl ⟨c', z, h1, h2, q'⟩
    · exact .inr (.inl ⟨i, j, h1, h2, q'⟩)
    · exact .inr (.inr (.inl ⟨p, xs, h1, h2, h3, h4, q'⟩))
    · exact .inr (.inr (.inr ⟨f, fs, h1, h2, h3, h4, q'⟩))
theorem o_notIn : Op2 G (rNotInA G.K) dNotIn := fun B H ρ d1 d2 d x y Q s r1 r2 e q => by
  unfold dNotIn at e
  cases c : inB d1 d2 with
  | none =>
    rw [c] at e
    cases e
  | some b =>
    rw [c] at e
    cases e
    have q' := q (.bl (!b)) rfl
    rcases inB_ok s r1 r2 c with ⟨c', z, h1, h2, rfl⟩ | ⟨i, j, h1, h2, rfl⟩ | ⟨p, xs, h1, h2, h3, h4, rfl⟩ | ⟨f, fs, h1, h2, h3, h4, rfl⟩
    · exact .inl ⟨c', z, h1, h2, q'⟩
    · exact .inr (.inl ⟨i, j, h1, h2, q'⟩)
    · exact .inr (.inr (.inl ⟨p, xs, h1, h2, h3, h4, q'⟩))
    · exact .inr (.inr (.inr ⟨f, fs, h1, h2, h3, h4, q'⟩))
end
/-! ## isinstance -/
inductive Tg where
  | non | bl | int | str | tup | lst | obj (c : Nat) | exc (c : Nat)
  deriving DecidableEq
def tgOf : D → Tg
  | .non => .non
  | .bl _ => .bl
  | .int _ => .int
  | .str _ => .str
  | .tup _ => .tup
  | .lst _ => .lst
  | .loc _ => .lst
  | .scr _ => .lst
  | .obj c _ _ => .obj c
  | .exc c _ _ => .exc c
def tgV (G : Gx) : Tg → Value
  | .non => .type "NoneType"
  | .bl => .type "bool"
  | .int => .type "int"
  | .str => .type "str"
  | .tup => .type "tuple"
  | .lst => .type "list"
  | .obj c => .ref (G.T c)
  | .exc c => .ref (G.T c)
/-- the own class at C answers isinstance in the plain way -/
abbrev clsGet : Value := .builtin "object.__class__"
structure IsC (K : PySem.W.Frag) (C : Addr) : Prop where
  ha : PySem.W.findIn K (.ref C) "__class__" = some (some clsGet)
  hn : PySem.W.specialIn K clsGet "__get__" = some (some (.builtin "getset_descriptor.__get__"))
  htk : PySem.W.takesIn K clsGet = some true
  hm : PySem.W.mroIn K C (.type ("object" : String)) = some true
/-- .. and of an error's class -/
structure IsE (K : PySem.W.Frag) (C : Addr) : Prop where
  c : IsC K C
  hcl : (PySem.W.clsIn K C).isSome = true
  hga : PySem.W.findIn K (.ref C) "__getattribute__" = some (some (.builtin "BaseException.__getattribute__"))
  hgt : PySem.W.findIn K (.ref C) "__getattr__" = some none
  hsub : PySem.W.subIn K (.ref C) (.type "BaseException") = some true
/-- a value's type, errors too -/
inductive TyE (K : PySem.W.Frag) (H : Hp) : V → Value → Prop where
  | x {v : V} {t : Value} (h : TyX K H v t) : TyE K H v t
  | e {a C : Addr} {dd : Option Addr} (h : H a = some (ExV (.ref C) dd a)) (hd : ∀ d, dd = some d → ∃ fs, H d = some (.xd fs)) (i : IsE K C) : TyE K H (.ref a) (.ref C)
def rIsE (K : PySem.W.Frag) : List V → Hp → VK → Prop := fun xs H Q => ∃ (x c : V) (t u : Value) (b : Bool), xs = [x, c] ∧ ClsV c u ∧ TyE K H x t ∧ PySem.W.kitOne K t u = some b ∧ Q (.bl b) H
theorem call_isE {X : Cx} : CallR X (.builtin "isinstance") (rIsE X.K) := by
  rintro pins s σ H xs us Q I r ⟨x, c, t, u, b, rfl, k, ty, e, q⟩
  cases ty with
  | x ty => exact call_isi pins s σ H [x, c] us Q I r ⟨x, c, t, u, b, rfl, k, ty, e, q⟩
  | @e a C dd ea hd i =>
    obtain ⟨_, _, rfl, r1, r2⟩ := vals2 r
    cases k.eq r2
    cases r1
    obtain ⟨⟨oe, vs, g1, g2, g3⟩, _, _⟩ := (show ObjOk X.prog X.w H s.heap a (ExV (.ref C) dd a) from I.hok a _ ea)
    have J : ∃ od, PySem.W.InstAt s.heap a oe C od := by
      cases dd with
      | none => exact ⟨none, g1, g2.1, by unfold PySem.W.notCls; rw [g3] <;> rfl, by rw [g2.2] <;> trivial⟩
      | some d =>
        obtain ⟨fs, hx⟩ := hd d rfl
        obtain ⟨mA, ⟨od, _, _, ho, _⟩, _⟩ := (show ObjOk X.prog X.w H s.heap d (.xd fs) from I.hok d _ hx)
        exact ⟨some od, g1, g2.1, by unfold PySem.W.notCls; rw [g3] <;> rfl, by rw [g2.2]; exact ho⟩
    obtain ⟨od, J⟩ := J
    exact PySem.W.kia_one (PySem.W.kitx_exc i.hcl i.hga i.hgt i.hsub i.c.ha i.c.hn i.c.htk i.c.hm) I.kIn J e (fun z => nomatch z) fun tk => ⟨.bl b, H, I.tok tk, rfl, q⟩
/-- the table of answers, by the kind of the value -/
structure IsTab (K : PySem.W.Frag) (G : Gx) (u : Value) (tab : Tg → Option Bool) : Prop where
  ans : ∀ t b, tab t = some b → PySem.W.kitOne K (tgV G t) u = some b
  obj : ∀ c b, tab (.obj c) = some b → L2.Cls K (G.T c) ∧ IsC K (G.T c)
  exc : ∀ c b, tab (.exc c) = some b → IsE K (G.T c)
end DL

namespace DL
open PySem PySem.Spec PyProof.Rows L2
section
variable {X : Cx} {G : Gx} {W : WX}
/-! ## isinstance(e, C) -/
def isLoc : D → Bool
  | .loc _ => true
  | _ => false
/-- the kind of what stands at a shared place is not asked -/
def dIsi (tab : Tg → Option Bool) (d : D) : Option D := if isLoc d = true then none else (tab (tgOf d)).map D.bl
theorem ty_rep {B H : Hp} {ρ R : List Addr} {a : Sto} {d : D} {x : V} {u : Value} {tab : Tg → Option Bool} {b : Bool} (it : IsTab G.K G u tab) (w : Wd G B H ρ a R) (r : Rep G B ρ d x) (nl : ¬ isLoc d = true) (h : tab (tgOf d) = some b) : TyE G.K H x (tgV G (tgOf d)) := by
  cases d with
  | non => cases (show x = _ from r); exact .x (.base .non)
  | bl b => cases (show x = _ from r); exact .x (.base (.bl b))
  | int b => cases (show x = _ from r); exact .x (.base (.int b))
  | str b => cases (show x = _ from r); exact .x (.base (.str b))
  | tup l =>
    obtain ⟨p, xs, rfl, h1, h2⟩ := r
    rcases sqt_same w.ex h1 with (h1 | ⟨o, h1⟩) | ⟨o, its, n, h3, h4, _⟩
    · exact .x (.base (.tup h1))
    · exact .x (.fTuple h1)
    · exact .x (.kTuple h3 h4)
  | lst l =>
    obtain ⟨p, xs, rfl, h1, h2⟩ := r
    exact .x (.base (.lst (w.ex _ _ h1)))
  | loc n => exact absurd rfl nl
  | scr l =>
    obtain ⟨p, rfl, h1⟩ := r
    rcases w.ex.seq h1 with (h1 | ⟨o, h1⟩) | ⟨o, its, n, h3, h4, _⟩
    · exact .x (.base (.lst h1))
    · exact .x (.base (.frz h1))
    · exact .x (.kList h3 h4)
  | obj c ns l =>
    obtain ⟨p, dx, xs, rfl, h1, _⟩ := r
    obtain ⟨g1, g2⟩ := it.obj c b h
    exact .x (.base (.ins (w.ex _ _ h1) g1 g2.ha g2.hn g2.htk g2.hm))
  | exc c ns l =>
    obtain ⟨p, dd, rfl, h1, h2⟩ := r
    refine .e (w.ex _ _ h1) (fun d e => ?_) (it.exc c b h)
    rcases h2 with ⟨_, _, e2⟩ | ⟨d', xs, e1, e2, _⟩
    · rw [e2] at e
      cases e
    · rw [e1] at e
      cases e
      exact ⟨_, w.ex _ _ e2⟩
theorem dv_is {T : Str} {v : V} {u : Value} {tab : Tg → Option Bool} {e : Expr} {fe : EV} {p p2 pos : Pos} (hK : G.K = X.K) (pc : PE X (.Name T p2) (tC v)) (cv : ClsV v u) (it : IsTab X.K G u tab) (hm : X.mg "isinstance" = none) (he : DV X G W e fe) (hg : Gl X "isinstance" := by rfl)
    (hs : starEach [e, .Name T p2] X.env = (false, eval e X.env) :: starEach [.Name T p2] X.env := by rfl) (hs2 : starEach [.Name T p2] X.env = (false, eval (.Name T p2) X.env) :: starEach [] X.env := by rfl) (hp : (backTo pos (starEach [.Name T p2] X.env)).any (·.1) = false := by rfl) :
    DV X G W (.Call (.Name "isinstance" p) [e, .Name T p2] [] pos) (ev1 (dIsi tab) fe) := by
  obtain ⟨t, pe, s⟩ := he.ex
  refine ⟨_, pe_callB call_isE hg hm boot_isinstance (pa_cons pe (pa_cons pc pa_nil hs2) hs) (by decide) (by decide) hs hp, fun ρ R B H σ δ a Q w sl q => ?_⟩
  refine s ρ R B H σ δ a _ w sl (Fin.imp (Fin.seqo q) fun d a1 B1 H1 w1 s1 k1 q1 x r => ?_)
  obtain ⟨d', e1, q2⟩ := q1
  unfold dIsi at e1
  by_cases nl : isLoc d = true
  · rw [if_pos nl] at e1
    cases e1
  rw [if_neg nl] at e1
  cases c : tab (tgOf d) with
  | none =>
    rw [c] at e1
    cases e1
  | some b =>
    rw [c] at e1
    cases e1
    refine ⟨x, v, tgV G (tgOf d), u, b, rfl, cv, ?_, it.ans _ b c, q2 _ rfl⟩
    rw [← hK] at it ⊢
    exact ty_rep it w1 r nl c
/-! ## methods of texts -/
/-- the shape of o.name(e, ..) with a built-in method -/
abbrev NoSup (X : Cx) (o : Expr) (name : Str) : Prop := attributeBase o name X.env (eval o X.env) = eval o X.env
abbrev FewA (X : Cx) (cpos : Pos) (as : List Expr) : Prop := ((backTo cpos (starEach as X.env)).all (fun x => !x.1) && (backToKw cpos (keywordEach [] X.env)).all (fun x => x.1.isSome) && decide (as.length + ([] : List Keyword).length + (if ([] : List Keyword).isEmpty then 0 else 1) < 30)) = true
abbrev OneRow (apos cpos : Pos) : Prop := (apos.endLine == cpos.line) = true
def bm1 (g : Str → List D → Option D) (fo : EV) (fa : EA) : EV := fun δ a => (fo δ a).bind fun o a1 => match o with
  | .str s => (fa δ a1).bind fun ds a2 => (match g s ds with | some d => .ok d a2 | none => .stuck)
  | _ => .stuck
/-- a rule of a text's method, by data -/
def BmN (G : Gx) (r : V → List V → Hp → VK → Prop) (g : Str → List D → Option D) : Prop := ∀ (B H : Hp) (ρ : List Addr) (s : Str) (ds : List D) (d : D) (vs : List V) (Q : VK), Same B H → Reps G B ρ ds vs → g s ds = some d → (∀ v, Rep G B ρ d v → Q v H) → r (.str s) vs H Q
theorem VOk.bm {r : V → List V → Hp → VK → Prop} {g : Str → List D → Option D} {to : TE} {ta : TA} {fo : EV} {fa : EA} (o : BmN G r g) (so : VOk G W to fo) (sa : AOk G W ta fa) : VOk G W (tBM X.K "str" r to ta) (bm1 g fo fa) := fun ρ R B H σ δ a Q w sl q =>
  so ρ R B H σ δ a _ w sl (Fin.imp (Fin.seq q) fun d a1 B1 H1 w1 s1 k1 q1 x r1 => by
    cases d with
    | str s =>
      have ex : x = .str s := r1
      subst ex
      refine ⟨rfl, sa ρ R B1 H1 σ δ a1 _ w1 (sl.mono s1) (Fin.imp (Fin.seq q1) fun ds a2 B2 H2 w2 s2 k2 q2 vs r2 => ?_)⟩
      cases c : g s ds with
      | none =>
        rw [c] at q2
        exact q2.elim
      | some d' =>
        rw [c] at q2
        exact o B2 H2 ρ s ds d' vs Q w2.ex r2 c (q2.here w2)
    | _ => exact q1.elim)
theorem dv_bm {name : Str} {id : String} {r : V → List V → Hp → VK → Prop} {g : Str → List D → Option D} {o e : Expr} {es : List Expr} {fo : EV} {fa : EA} {apos cpos : Pos} (slot : Slot "str" name id) (hty : typeOf (.builtin id) = pure (.type "method_descriptor")) (hm : MtR X id r) (og : BmN G r g) (ho : DV X G W o fo) (ha : DA X G W (e :: es) fa)
    (hbase : NoSup X o name := by rfl) (hfew : FewA X cpos (e :: es) := by rfl) (hline : OneRow apos cpos := by rfl) (hs : HeadP X e es := by rfl) (hplain : RestP X cpos es := by rfl) :
    DV X G W (.Call (.Attribute o name apos) (e :: es) [] cpos) (bm1 g fo fa) := by
  obtain ⟨to, po, so⟩ := ho.ex
  obtain ⟨ta, pa, sa⟩ := ha.ex
  exact ⟨_, pe_bm PySem.F.plainAttrs_str slot hty hm po pa hbase hfew hline hs hplain, VOk.bm og so sa⟩
def gFind (s : Str) : List D → Option D
  | [.str t] => some (.int (Txt.find s t))
  | _ => none
theorem b_find : BmN G (fun x xs H Q => ∃ a b, x = V.str a ∧ xs = [V.str b] ∧ Q (.int (Txt.find a b)) H) gFind := fun B H ρ s ds d vs Q sm r e q => by
  match ds, e, r with
  | [.str t], e, r =>
    cases e
    obtain ⟨x, r', rfl, hx, hr⟩ := r
    have hx' : x = .str t := hx
    have hr' : r' = [] := hr
    subst hx' hr'
    exact ⟨s, t, rfl, rfl, q _ rfl⟩
/-! ## s[k] = e, s the draws' state -/
section
variable {ρ R F : List Addr} {B H : Hp} {a : Sto}
/-- a shared place is written anew -/
theorem Wd.putC (w : Wd G B H ρ a R) {n : Nat} {p : Addr} {o : HO} {c : Cell} (hp : ρ[n]? = some p) (hc : CellAt G B (upd H p o) ρ R p c) : Wd G B (upd H p o) ρ (a.set n c) R := by
  have hm : p ∈ ρ := List.mem_of_getElem? hp
  have other : ∀ b, b ∉ ρ ++ R → b ≠ p := fun b hb z => hb (z ▸ List.mem_append_left _ hm)
  refine ⟨fun b x e => ?_, by rw [List.length_set]; exact w.len, fun m q k h1 h2 => ?_, w.nd, w.bn, fun q hq => ?_⟩
  · rw [upd_ne (other b fun z => by rw [w.bn b z] at e; cases e)]
    exact w.ex b x e
  · by_cases e : n = m
    · subst e
      rw [hp] at h1
      cases h1
      have hl : n < a.length := by
        have z := (List.getElem?_eq_some_iff.mp h2).1
        rw [List.length_set] at z
        exact z
      rw [List.getElem?_set_self hl] at h2
      cases h2
      exact hc
    · rw [List.getElem?_set_ne e] at h2
      have hq : q ≠ p := fun z => by
        subst z
        obtain ⟨i1, g1⟩ := List.getElem?_eq_some_iff.mp hp
        obtain ⟨i2, g2⟩ := List.getElem?_eq_some_iff.mp h1
        have pw := List.pairwise_iff_getElem.mp (List.nodup_append.mp w.nd).1
        rcases Nat.lt_or_gt_of_ne e with lt | lt
        · exact pw n m i1 i2 lt (g1.trans g2.symm)
        · exact pw m n i2 i1 lt (g2.trans g1.symm)
      exact (w.sto m q k h1 h2).move (Same.refl _) (upd_ne hq) fun dx g1 g2 g3 => ⟨upd_ne (other dx g3), g2, g3⟩
  · by_cases e : q = p
    · rw [e, upd_same] <;> rfl
    · rw [upd_ne e]
      exact w.has q hq
theorem Wd.put (w : Wd G B H ρ a (F ++ R)) {n : Nat} {p : Addr} {l : List Int} (hp : ρ[n]? = some p) : Wd G B (upd H p (.lst (l.map V.int))) ρ (a.set n (.nums l)) (F ++ R) := w.putC hp upd_same
theorem Wd.put_ne (w : Wd G B H ρ a R) {n : Nat} {p : Addr} (hp : ρ[n]? = some p) {q : Addr} (hq : q ∈ R) : q ≠ p := fun z => by
  subst z
  exact (List.nodup_append.mp w.nd).2.2 q (List.mem_of_getElem? hp) q hq rfl
end
def sSto (I : List Nat) (fe : EM) (ko : Nat) (k : Int) : SM := fun δ a => (lift I fe δ a).seq fun m δ1 a1 => match m, δ1[ko]? with
  | .val (.int v), some (some (.val (.loc n))) => (match a1[n]? with
    | some (.nums l) => (match ixN l.length k with
      | some j => .nx δ1 (a1.set n (.nums (l.set j v)))
      | none => .stuck)
    | _ => .stuck)
  | _, _ => .stuck
/-- how x[k] = v runs -/
abbrev SubF (X : Cx) (o i : Expr) (tpos : Pos) : Prop := ∀ v, assign (.Subscript o i tpos) X.env v = (do let ov ← holding [v] (eval o X.env); let iv ← holding [v, ov] (eval i X.env); standAt tpos; holding [v, ov, iv] (setItem ov iv v); release [v, ov, iv] [])
theorem map_set' (l : List Int) (j : Nat) (v : Int) : (l.map V.int).set j (.int v) = (l.set j v).map V.int := by rw [List.map_set]
theorem ds_sto {e : Expr} {x : Str} {ko : Nat} {k : Int} {jj : Nat} {fe : EM} {p1 p2 tpos pos : Pos} (I : List Nat) (he : DM X G W e fe) (hN : X.N[ko]? = some x) (hv : Vis X.env.scope x)
    (hd : NotDbg x := by decide) (hcd : (x == ("__classdict__" : Str)) = false := by decide)
    (hs : swapsWithSole [.Subscript (.Name x p1) (.Constant (.int k) jj p2) tpos] e pos.line X.env = pure false := by rfl) (hw : swappedStores [.Subscript (.Name x p1) (.Constant (.int k) jj p2) tpos] e X.env = pure none := by rfl)
    (h1 : (assignEach [.Subscript (.Name x p1) (.Constant (.int k) jj p2) tpos] X.env).map (·.2) = [assign (.Subscript (.Name x p1) (.Constant (.int k) jj p2) tpos) X.env] := by rfl)
    (ha : SubF X (.Name x p1) (.Constant (.int k) jj p2) tpos := by intro _; rfl) : DS X G W (.Assign [.Subscript (.Name x p1) (.Constant (.int k) jj p2) tpos] e pos) (sSto I fe ko k) := by
  obtain ⟨te, pe, se⟩ := he.ex
  refine ⟨_, ps_asg pe (pg_sub (pe_var hN hv hd hcd) pe_int set_list ha) hs hw h1, fun ρ R B H σ δ a F Z w os q => ?_⟩
  refine lift_ok se w os (Ox.fin q fun m δ1 a1 B1 H1 v F1 Fa w1 om os1 q1 => ?_)
  cases m with
  | val dm =>
    obtain ⟨rfl, rm⟩ := om
    cases dm with
    | int i =>
      have ev : v = .int i := rm
      subst ev
      cases c1 : δ1[ko]? with
      | none =>
        rw [c1] at q1
        exact q1.elim
      | some o1 =>
        rw [c1] at q1
        cases o1 with
        | none => exact q1.elim
        | some mo =>
          cases mo with
          | val dd =>
            cases dd with
            | loc n =>
              obtain ⟨vo, Fi, Fr, _, h2, ⟨_, p, h3, rfl⟩, _⟩ := OwnS.take os1 c1
              dsimp only at q1
              cases c2 : a1[n]? with
              | none =>
                rw [c2] at q1
                exact q1.elim
              | some cl =>
               rw [c2] at q1
               cases cl with
               | obj _ _ _ => exact q1.elim
               | nums l =>
                dsimp only at q1
                cases c3 : ixN l.length k with
                | none =>
                  rw [c3] at q1
                  exact q1.elim
                | some j =>
                  rw [c3] at q1
                  refine ⟨.ref p, h2, p, l.map V.int, k, j, rfl, rfl, w1.ints h3 c2, by rw [List.length_map]; exact c3, ?_⟩
                  rw [map_set']
                  have w1' : Wd G B1 H1 ρ a1 (Fa ++ R) := w1
                  exact q1 B1 _ σ Fa (w1'.put h3) (Same.refl _) (fun z hz => upd_ne (w1'.put_ne h3 (List.mem_append_right _ hz))) (OwnS.mono (Same.refl _) δ1 σ Fa (fun z hz => upd_ne (w1'.put_ne h3 (List.mem_append_left _ hz))) os1)
            | _ => exact q1.elim
          | _ => exact q1.elim
    | _ => exact q1.elim
  | _ => exact q1.elim
/-! ## a target and a value -/
def sAsg (I : List Nat) (f : EV) (g : D → SlM → Option SlM) : SM := fun δ a => (lift I (mV f) δ a).seq fun m δ1 a1 => match m with
  | .val d => (match g d δ1 with
    | some δ2 => .nx δ2 a1
    | none => .stuck)
  | _ => .stuck
theorem mok_v {t : TE} {f : EV} (s : VOk G W t f) : MOk G W t (mV f) := fun ρ R B H σ δ a Q w sl q => s ρ R B H σ δ a Q w sl (by
  unfold mV at q
  cases e : f δ a with
  | ok d a' =>
    rw [e] at q
    exact fun B' H' w' s' k' v r => q B' H' v [] w' s' k' ⟨rfl, r⟩
  | exc c ns ds a' =>
    rw [e] at q
    exact q
  | stuck =>
    rw [e] at q
    exact q)
theorem ds_asg {e tg : Expr} {f : EV} {g : D → SlM → Option SlM} {pos : Pos} (I : List Nat) (he : DV X G W e f) (hg : DG X G tg g) (hs : swapsWithSole [tg] e pos.line X.env = pure false := by rfl) (hw : swappedStores [tg] e X.env = pure none := by rfl)
    (h1 : (assignEach [tg] X.env).map (·.2) = [assign tg X.env] := by rfl) : DS X G W (.Assign [tg] e pos) (sAsg I f g) := by
  obtain ⟨te, pe, se⟩ := he.ex
  obtain ⟨t, pg, sg⟩ := hg.ex
  refine ⟨_, ps_asg pe pg hs hw h1, fun ρ R B H σ δ a F Z w os q => ?_⟩
  refine lift_ok (mok_v se) w os (Ox.fin q fun m δ1 a1 B1 H1 v F1 Fa w1 om os1 q1 => ?_)
  cases m with
  | val d =>
    obtain ⟨rfl, rm⟩ := om
    dsimp only at q1
    cases c : g d δ1 with
    | none =>
      rw [c] at q1
      exact q1.elim
    | some δ2 =>
      rw [c] at q1
      have w1' : Wd G B1 H1 ρ a1 (Fa ++ R) := w1
      exact sg ρ R B1 H1 σ δ1 δ2 a1 Fa d v _ w1' os1 rm c fun B2 σ2 F2 sm w2 os2 => q1 B2 H1 σ2 F2 w2 sm Kp.refl os2
  | _ => exact q1.elim
end
end DL

namespace DL
open PySem PySem.Spec PyProof.Rows L2

/-! ## more addresses of stores -/
section
variable {G : Gx} {B H : Hp} {ρ ρ' : List Addr}
mutual
theorem Rep.more (e : ∀ (n : Nat) (q : Addr), ρ[n]? = some q → ρ'[n]? = some q) : ∀ (d : D) (v : V), Rep G B ρ d v → Rep G B ρ' d v
  | .non, v, h => h
  | .bl _, v, h => h
  | .int _, v, h => h
  | .str _, v, h => h
  | .tup ds, v, h => by
    obtain ⟨p, xs, h1, h2, h3⟩ := h
    exact ⟨p, xs, h1, h2, Reps.more e ds xs h3⟩
  | .lst ds, v, h => by
    obtain ⟨p, xs, h1, h2, h3⟩ := h
    exact ⟨p, xs, h1, h2, Reps.more e ds xs h3⟩
  | .obj c ns ds, v, h => by
    obtain ⟨p, dx, xs, h1, h2, h4, h3⟩ := h
    exact ⟨p, dx, xs, h1, h2, h4, Reps.more e ds xs h3⟩
  | .exc c ns ds, v, h => by
    obtain ⟨p, dd, h1, h2, h3⟩ := h
    refine ⟨p, dd, h1, h2, ?_⟩
    rcases h3 with h3 | ⟨d, xs, h4, h5, h6, h7⟩
    · exact .inl h3
    · exact .inr ⟨d, xs, h4, h5, h6, Reps.more e ds xs h7⟩
  | .loc n, v, h => by
    obtain ⟨p, h1, h2⟩ := h
    exact ⟨p, e n p h1, h2⟩
  | .scr l, v, h => h
theorem Reps.more (e : ∀ (n : Nat) (q : Addr), ρ[n]? = some q → ρ'[n]? = some q) : ∀ (ds : List D) (xs : List V), Reps G B ρ ds xs → Reps G B ρ' ds xs
  | [], xs, h => h
  | d :: ds, xs, h => by
    obtain ⟨x, r, h1, h2, h3⟩ := h
    exact ⟨x, r, h1, Rep.more e d x h2, Reps.more e ds r h3⟩
end
mutual
theorem Own.more (e : ∀ (n : Nat) (q : Addr), ρ[n]? = some q → ρ'[n]? = some q) : ∀ (m : M) (v : V) (F : List Addr), Own G B H ρ m v F → Own G B H ρ' m v F
  | .val d, v, F, h => ⟨h.1, Rep.more e d v h.2⟩
  | .lst ms, v, F, h => by
    obtain ⟨p, xs, F1, h1, h2, h3, h4⟩ := h
    exact ⟨p, xs, F1, h1, h2, h3, Owns.more e ms xs F1 h4⟩
  | .tup ms, v, F, h => by
    obtain ⟨p, xs, F1, h1, h2, h3, h4⟩ := h
    exact ⟨p, xs, F1, h1, h2, h3, Owns.more e ms xs F1 h4⟩
  | .obj c ns ms, v, F, h => by
    obtain ⟨p, dx, xs, F1, h1, h2, h3, h5, h6, h4⟩ := h
    exact ⟨p, dx, xs, F1, h1, h2, h3, h5, h6, Owns.more e ms xs F1 h4⟩
theorem Owns.more (e : ∀ (n : Nat) (q : Addr), ρ[n]? = some q → ρ'[n]? = some q) : ∀ (ms : List M) (xs : List V) (F : List Addr), Owns G B H ρ ms xs F → Owns G B H ρ' ms xs F
  | [], xs, F, h => h
  | m :: ms, xs, F, h => by
    obtain ⟨x, r, F1, F2, h1, h2, h3, h4⟩ := h
    exact ⟨x, r, F1, F2, h1, h2, Own.more e m x F1 h3, Owns.more e ms r F2 h4⟩
end
theorem OwnS.more (e : ∀ (n : Nat) (q : Addr), ρ[n]? = some q → ρ'[n]? = some q) : ∀ (δ : SlM) (σ : L2.St) (F : List Addr), OwnS G B H ρ δ σ F → OwnS G B H ρ' δ σ F
  | [], σ, F, h => h
  | none :: δ, σ, F, h => by
    obtain ⟨o, r, h1, h2⟩ := h
    exact ⟨o, r, h1, OwnS.more e δ r F h2⟩
  | some m :: δ, σ, F, h => by
    obtain ⟨v, r, F1, F2, h1, h2, h3, h4⟩ := h
    exact ⟨v, r, F1, F2, h1, h2, Own.more e m v F1 h3, OwnS.more e δ r F2 h4⟩
end
/-! ## a law's body: its first statement makes the draws' state -/
def intsM : List M → Option (List Int)
  | [] => some []
  | .val (.int i) :: ms => (intsM ms).map fun l => i :: l
  | _ => none
theorem intsM_own {G : Gx} {B H : Hp} {ρ : List Addr} : ∀ {ms : List M} {l : List Int} {xs : List V} {F : List Addr}, intsM ms = some l → Owns G B H ρ ms xs F → xs = l.map V.int ∧ F = []
  | [], l, xs, F, e, h => by
    cases e
    exact h
  | .val (.int i) :: ms, l, xs, F, e, h => by
    obtain ⟨x, r, F1, F2, rfl, rfl, ⟨rfl, hx⟩, h4⟩ := h
    have e' : (intsM ms).map (fun l => i :: l) = some l := e
    cases c : intsM ms with
    | none =>
      rw [c] at e'
      cases e'
    | some l' =>
      rw [c] at e'
      cases e'
      obtain ⟨rfl, rfl⟩ := intsM_own c h4
      have ex : x = .int i := hx
      subst ex
      exact ⟨rfl, rfl⟩
def lawEnd : OutS → OutS
  | .rt (.val (.bl b)) _ => .rt (.val (.bl b)) []
  | _ => .stuck
def lawGo (i : Nat) (g : SM) : OutS → OutS
  | .nx δ [] => (match δ[i]? with
    | some (some (.lst ms)) => (match intsM ms with
      | some l => lawEnd (g (δ.set i (some (.val (.loc 0)))) [.nums l])
      | none => .stuck)
    | _ => .stuck)
  | _ => .stuck
def mLaw (i : Nat) (f1 g : SM) : SM := fun δ a => lawGo i g (f1 δ a)
theorem dss_law {X : Cx} {G : Gx} {W : WX} {st : Stmt} {rest : List Stmt} {f1 g : SM} (i : Nat) (h : DS X G W st f1) (k : DSs X G W rest g) : DSs X G W (st :: rest) (mLaw i f1 g) := by
  obtain ⟨t, p, s⟩ := h.ex
  obtain ⟨u, p2, s2⟩ := k.ex
  refine ⟨_, pss_cons p p2, fun ρ R B H σ δ a F Z w os q => s ρ R B H σ δ a F _ w os ?_⟩
  unfold mLaw at q
  cases c : f1 δ a with
  | nx δ1 a1 =>
    rw [c] at q
    cases a1 with
    | cons x y => exact q.elim
    | nil =>
      intro B1 H1 σ1 F1 w1 sm1 kp1 os1
      have q1 := FinS.base q sm1 kp1
      unfold lawGo at q1
      dsimp only at q1
      cases c1 : δ1[i]? with
      | none =>
        rw [c1] at q1
        exact q1.elim
      | some o =>
        rw [c1] at q1
        cases o with
        | none => exact q1.elim
        | some m =>
          cases m with
          | lst ms =>
            dsimp only at q1
            cases c2 : intsM ms with
            | none =>
              rw [c2] at q1
              exact q1.elim
            | some l =>
              rw [c2] at q1
              dsimp only at q1
              have hρ : ρ = [] := List.length_eq_zero_iff.mp w1.len
              subst hρ
              obtain ⟨v, Fi, Fr, pf, h1, h2, h3⟩ := OwnS.take os1 c1
              obtain ⟨ad, xs, F2, rfl, h4, rfl, h5⟩ := h2
              obtain ⟨rfl, rfl⟩ := intsM_own c2 h5
              have more : ∀ (n : Nat) (z : Addr), ([] : List Addr)[n]? = some z → [ad][n]? = some z := fun n z e => by simp at e
              have h3' := OwnS.more more _ _ _ h3
              have hi : i < (δ1.set i none).length := by
                rw [List.length_set]
                exact (List.getElem?_eq_some_iff.mp c1).1
              obtain ⟨Fa, Fb, F3, p1, p3, h6⟩ := OwnS.set (m := .val (.loc 0)) (v := .ref ad) (Fm := []) ⟨rfl, ad, rfl, rfl⟩ h3' hi
              have es : σ1.set i (some (.ref ad)) = σ1 := by
                obtain ⟨hlt, e⟩ := List.getElem?_eq_some_iff.mp h1
                rw [← e]
                exact List.set_getElem_self hlt
              rw [List.set_set, es] at h6
              have pw : (F1 ++ R).Perm (ad :: (Fr ++ R)) := (List.Perm.append_right R pf)
              have w2 := w1.perm pw
              have w3 : Wd G B1 H1 [ad] [.nums l] (Fr ++ R) := {
                ex := w2.ex
                len := rfl
                sto := fun n z ds e1 e2 => by
                  cases n with
                  | zero =>
                    cases e1
                    cases e2
                    exact h4
                  | succ n => simp at e1
                nd := w2.nd
                bn := w2.bn
                has := w2.has }
              have w4 : Wd G B1 H1 [ad] [.nums l] (F3 ++ R) := by
                have z : (Fr ++ R).Perm (Fa ++ (F3 ++ R)) := by
                  have z1 : (Fr ++ R).Perm (Fa ++ (Fb ++ R)) := by
                    rw [← List.append_assoc]
                    exact List.Perm.append_right _ p1
                  exact z1.trans (List.Perm.append_left Fa (List.Perm.append_right R (by simpa using p3.symm)))
                exact (w3.perm z).drop
              refine s2 [ad] R B1 H1 σ1 _ [.nums l] F3 Z w4 h6 ?_
              cases c3 : g (δ1.set i (some (.val (.loc 0)))) [.nums l] with
              | rt m a2 =>
                rw [c3] at q1
                cases m with
                | val d =>
                  cases d with
                  | bl b =>
                    intro B2 H2 v2 F4 w5 sm5 kp5 o5
                    obtain ⟨rfl, ev⟩ := o5
                    refine q1 B2 H2 v2 [] ?_ sm5 kp5 ⟨rfl, ev⟩
                    exact {
                      ex := w5.ex
                      len := rfl
                      sto := fun n z ds e1 e2 => by simp at e1
                      nd := (List.nodup_append.mp w5.nd).2.1
                      bn := fun z hz => w5.bn z (List.mem_append_right _ hz)
                      has := fun z hz => w5.has z (List.mem_append_right _ hz) }
                  | _ => exact q1.elim
                | _ => exact q1.elim
              | _ =>
                rw [c3] at q1
                exact q1.elim
          | _ => exact q1.elim
  | _ =>
    rw [c] at q
    exact q.elim
/-! ## the law's promise -/
def spLaw (K : PySem.W.Frag) : Sp := fun vs H Q _ => ∃ (a : Addr) (ns : List Int), vs = [.ref a] ∧ SqL K H a (ns.map V.int) ∧ ns.length ≤ 63 ∧ ∀ H', Q (.bl true) H'
theorem law_fn {P : Program} {w : World} {K : PySem.W.Frag} {mg : Str → Option Value} {base : Heap} {G : Gx} {k : Nat} {f : Addr} {fd : FuncData} {x : Str} {g : FM} (hK : G.K = K) (F : FnOk P w K mg base (L2.CX P w) k f fd [x] (spD G g 1)) (hg : ∀ ns : List Int, ns.length ≤ 63 → g [.scr ns] [] = .ok (.val (.bl true)) []) :
    FnOk P w K mg base (L2.CX P w) k f fd [x] (spLaw K) := F.imp fun vs H Q E h => by
  obtain ⟨a, ns, rfl, hS, hl, q⟩ := h
  refine ⟨rfl, [], [], H, [.scr ns], [], ⟨Same.refl _, rfl, fun n z ds e1 e2 => by simp at e1, List.nodup_nil, fun z hz => by simp at hz, fun z hz => by simp at hz⟩, ⟨.ref a, [], rfl, ⟨a, rfl, hK ▸ hS⟩, rfl⟩, ?_⟩
  rw [hg ns hl]
  intro B' H' v F _ _ _ o
  obtain ⟨_, e⟩ := o
  have e' : v = .bl true := e
  rw [e']
  exact q H'
/-- a def of the module, from its body -/
theorem defD {P : Program} {w : World} {K : PySem.W.Frag} {mg : Str → Option Value} {base : Heap} {G : Gx} {x : Str} {st : Stmt} {f : Addr} {fd : FuncData} {N ps : List Str} {k : Nat} {g : SM} (F : Fun K x x st f fd) (S : FnScope N ps (defScope st)) (b : Binds K fd ps []) (hm : mg x = some (.ref f))
    (hb : ∀ (cdv : Value) (A : Around) (outer : List Env) (s : Shared) (H : Hp) (E : XK), Room k (A.deeper (envOfC x (defScope st) s.heap.objs.size f cdv)) →
      DSs (cxOf (L2.CX P w) P w K mg base N x (defScope st) f cdv A outer s H E) G (fun cls d _ H => E cls d H) (defBody st) g) :
    DefD P w K mg base G x (k + 1) ps.length (bodyM ps.length N.length g) := ⟨f, fd, ps, rfl, fn_ok F S hb, hm, F.kp, b⟩
/-! ## answers about classes -/
theorem kit_own {K : PySem.W.Frag} {A C : Addr} {b : Bool} (h2 : PySem.W.isClsIn K C = true) (h3 : PySem.W.typeIn K (.ref C) = some (.type "type")) (hs : PySem.W.subIn K (.ref C) (.ref C) = some true) (h4 : PySem.W.subIn K (.ref A) (.ref C) = some b) : PySem.W.kitOne K (.ref A) (.ref C) = some b := by
  have hc : PySem.W.kitCls K (.ref A) (.ref C) = some b := by
    have h2' : (PySem.W.clsIn K C).isSome = true := h2
    show (if ((PySem.W.clsIn K C).isSome && PySem.W.typeIn K (.ref C) == some (.type "type")) = true then PySem.W.subIn K (.ref A) (.ref C) else none) = some b
    rw [h2', h3, if_pos (by rfl)]
    exact h4
  unfold PySem.W.kitOne
  by_cases e : (Value.ref A == Value.ref C) = true
  · rw [if_pos e]
    have e' : A = C := Value.ref.inj (beq_iff_eq.mp e)
    subst e'
    exact hs.symm.trans h4
  · rw [if_neg e]
    exact hc
theorem exm_own {K : PySem.W.Frag} {A C : Addr} {b : Bool} (h1 : PySem.W.subIn K (.ref C) (.type "BaseException") = some true) (h2 : PySem.W.isClsIn K C = true) (h3 : PySem.W.typeIn K (.ref C) = some (.type "type")) (h4 : PySem.W.subIn K (.ref A) (.ref C) = some b) : PySem.W.exmOne K (.ref A) (.ref C) = some b := by
  have h2' : (PySem.W.clsIn K C).isSome = true := h2
  unfold PySem.W.exmOne
  rw [h1, if_pos (by rfl)]
  show (if ((PySem.W.clsIn K C).isSome && PySem.W.typeIn K (.ref C) == some (.type "type")) = true then PySem.W.subIn K (.ref A) (.ref C) else none) = some b
  rw [h2', h3, if_pos (by rfl)]
  exact h4
/-- for a built-in type: own classes are asked of nothing -/
def tabT (l : List Tg) : Tg → Option Bool
  | .obj _ => none
  | .exc _ => none
  | t => some (decide (t ∈ l))
theorem tab_str {K : PySem.W.Frag} {G : Gx} : IsTab K G (.type "str") (tabT [.str]) := ⟨fun t b h => by cases t <;> first | (cases h; done) | (cases h; rfl), (fun c b h => nomatch h), (fun c b h => nomatch h)⟩
theorem tab_int {K : PySem.W.Frag} {G : Gx} : IsTab K G (.type "int") (tabT [.int, .bl]) := ⟨fun t b h => by cases t <;> first | (cases h; done) | (cases h; rfl), (fun c b h => nomatch h), (fun c b h => nomatch h)⟩
theorem tab_bool {K : PySem.W.Frag} {G : Gx} : IsTab K G (.type "bool") (tabT [.bl]) := ⟨fun t b h => by cases t <;> first | (cases h; done) | (cases h; rfl), (fun c b h => nomatch h), (fun c b h => nomatch h)⟩
/-- for an own class: what is told of own ones -/
def tabC (os xs : List (Nat × Bool)) : Tg → Option Bool
  | .obj c => os.lookup c
  | .exc c => xs.lookup c
  | _ => none
end DL

namespace DL
open PySem PySem.Spec PyProof.Rows L2
theorem hu65 {k : Nat} {A : Around} (r : Room k A) : A.units + 65 < cLine := by
  have := r.un
  omega
section
variable {X : Cx} {G : Gx} {W : WX} {e e1 e2 : Expr} {es : List Expr} {fa fb : EV} {ga : EA} {p pos : Pos} {k : Nat}

theorem dv_sub (ha : DV X G W e1 fa) (hb : DV X G W e2 fb) : DV X G W (.BinOp e1 .Sub e2 pos) (ev2 (dI DL.gSub) fa fb) := dv_bin op_sub o_sub ha hb
theorem dv_mod (ha : DV X G W e1 fa) (hb : DV X G W e2 fb) : DV X G W (.BinOp e1 .Mod e2 pos) (ev2 (dI gMod) fa fb) := dv_bin op_mod o_mod ha hb
theorem dv_div (ha : DV X G W e1 fa) (hb : DV X G W e2 fb) : DV X G W (.BinOp e1 .FloorDiv e2 pos) (ev2 (dI gDiv) fa fb) := dv_bin op_fdiv o_div ha hb
theorem dv_pow (ha : DV X G W e1 fa) (hb : DV X G W e2 fb) : DV X G W (.BinOp e1 .Pow e2 pos) (ev2 (dI gPow) fa fb) := dv_bin op_pow o_pow ha hb
theorem dv_add (hK : G.K = X.K) (ha : DV X G W e1 fa) (hb : DV X G W e2 fb) : DV X G W (.BinOp e1 .Add e2 pos) (vNw dAdd fa fb) := dv_binN op_addA (by have z := o_add (G := G); rw [hK] at z; exact z) ha hb
theorem dm_add (hK : G.K = X.K) (ha : DV X G W e1 fa) (hb : DV X G W e2 fb) : DM X G W (.BinOp e1 .Add e2 pos) (eN dAdd fa fb) := dm_bin op_addA (by have z := o_add (G := G); rw [hK] at z; exact z) ha hb
theorem dv_mul (ha : DV X G W e1 fa) (hb : DV X G W e2 fb) : DV X G W (.BinOp e1 .Mult e2 pos) (vNw dMul fa fb) := dv_binN op_mulA o_mul ha hb
theorem dm_mul (ha : DV X G W e1 fa) (hb : DV X G W e2 fb) : DM X G W (.BinOp e1 .Mult e2 pos) (eN dMul fa fb) := dm_bin op_mulA o_mul ha hb
theorem dv_lt (ha : DV X G W e1 fa) (hb : DV X G W e2 fb) : DV X G W (.Compare e1 [.Lt] [e2] pos) (ev2 (dI gLt) fa fb) := dv_cmp op_lt o_lt ha hb (nomark _)
theorem dt_lt (ha : DV X G W e1 fa) (hb : DV X G W e2 fb) : DT X G W (.Compare e1 [.Lt] [e2] pos) (tV (ev2 (dI gLt) fa fb)) := dt_cmp op_lt o_lt ha hb (nomark _)
theorem dv_le (ha : DV X G W e1 fa) (hb : DV X G W e2 fb) : DV X G W (.Compare e1 [.LtE] [e2] pos) (ev2 (dI gLe) fa fb) := dv_cmp op_le o_le ha hb (nomark _)
theorem dt_le (ha : DV X G W e1 fa) (hb : DV X G W e2 fb) : DT X G W (.Compare e1 [.LtE] [e2] pos) (tV (ev2 (dI gLe) fa fb)) := dt_cmp op_le o_le ha hb (nomark _)
theorem dv_gt (ha : DV X G W e1 fa) (hb : DV X G W e2 fb) : DV X G W (.Compare e1 [.Gt] [e2] pos) (ev2 (dI gGt) fa fb) := dv_cmp op_gt o_gt ha hb (nomark _)
theorem dt_gt (ha : DV X G W e1 fa) (hb : DV X G W e2 fb) : DT X G W (.Compare e1 [.Gt] [e2] pos) (tV (ev2 (dI gGt) fa fb)) := dt_cmp op_gt o_gt ha hb (nomark _)
theorem dv_ge (ha : DV X G W e1 fa) (hb : DV X G W e2 fb) : DV X G W (.Compare e1 [.GtE] [e2] pos) (ev2 (dI gGe) fa fb) := dv_cmp op_ge o_ge ha hb (nomark _)
theorem dt_ge (ha : DV X G W e1 fa) (hb : DV X G W e2 fb) : DT X G W (.Compare e1 [.GtE] [e2] pos) (tV (ev2 (dI gGe) fa fb)) := dt_cmp op_ge o_ge ha hb (nomark _)
theorem dv_isN (ha : DV X G W e1 fa) (hb : DV X G W e2 fb) : DV X G W (.Compare e1 [.Is] [e2] pos) (ev2 dIs fa fb) := dv_cmp op_isN o_is ha hb (nomark _)
theorem dt_isN (ha : DV X G W e1 fa) (hb : DV X G W e2 fb) : DT X G W (.Compare e1 [.Is] [e2] pos) (tV (ev2 dIs fa fb)) := dt_cmp op_isN o_is ha hb (nomark _)
theorem dv_notN (ha : DV X G W e1 fa) (hb : DV X G W e2 fb) : DV X G W (.Compare e1 [.IsNot] [e2] pos) (ev2 dIsNot fa fb) := dv_cmp op_notN o_isNot ha hb (nomark _)
theorem dt_notN (ha : DV X G W e1 fa) (hb : DV X G W e2 fb) : DT X G W (.Compare e1 [.IsNot] [e2] pos) (tV (ev2 dIsNot fa fb)) := dt_cmp op_notN o_isNot ha hb (nomark _)
theorem dv_eq (hK : G.K = X.K) (hr : Room k X.A) (ha : DV X G W e1 fa) (hb : DV X G W e2 fb) : DV X G W (.Compare e1 [.Eq] [e2] pos) (ev2 dEq fa fb) := dv_cmp (op_eqA hr.units) (by have z := o_eq (G := G); rw [hK] at z; exact z) ha hb (nomark _)
theorem dt_eq (hK : G.K = X.K) (hr : Room k X.A) (ha : DV X G W e1 fa) (hb : DV X G W e2 fb) : DT X G W (.Compare e1 [.Eq] [e2] pos) (tV (ev2 dEq fa fb)) := dt_cmp (op_eqA hr.units) (by have z := o_eq (G := G); rw [hK] at z; exact z) ha hb (nomark _)
theorem dv_ne (hK : G.K = X.K) (hr : Room k X.A) (ha : DV X G W e1 fa) (hb : DV X G W e2 fb) : DV X G W (.Compare e1 [.NotEq] [e2] pos) (ev2 dNe fa fb) := dv_cmp (op_neA hr.units) (by have z := o_ne (G := G); rw [hK] at z; exact z) ha hb (nomark _)
theorem dt_ne (hK : G.K = X.K) (hr : Room k X.A) (ha : DV X G W e1 fa) (hb : DV X G W e2 fb) : DT X G W (.Compare e1 [.NotEq] [e2] pos) (tV (ev2 dNe fa fb)) := dt_cmp (op_neA hr.units) (by have z := o_ne (G := G); rw [hK] at z; exact z) ha hb (nomark _)
theorem dv_in (hK : G.K = X.K) (hr : Room k X.A) (ha : DV X G W e1 fa) (hb : DV X G W e2 fb) (hm : behindInMarks .In e2 = false := by rfl) : DV X G W (.Compare e1 [.In] [e2] pos) (ev2 dIn fa fb) := dv_cmp (op_inA (hu65 hr)) (by have z := o_in (G := G); rw [hK] at z; exact z) ha hb hm
theorem dt_in (hK : G.K = X.K) (hr : Room k X.A) (ha : DV X G W e1 fa) (hb : DV X G W e2 fb) (hm : behindInMarks .In e2 = false := by rfl) : DT X G W (.Compare e1 [.In] [e2] pos) (tV (ev2 dIn fa fb)) := dt_cmp (op_inA (hu65 hr)) (by have z := o_in (G := G); rw [hK] at z; exact z) ha hb hm
theorem dv_notIn (hK : G.K = X.K) (hr : Room k X.A) (ha : DV X G W e1 fa) (hb : DV X G W e2 fb) (hm : behindInMarks .NotIn e2 = false := by rfl) : DV X G W (.Compare e1 [.NotIn] [e2] pos) (ev2 dNotIn fa fb) := dv_cmp (op_notInA (hu65 hr)) (by have z := o_notIn (G := G); rw [hK] at z; exact z) ha hb hm
theorem dt_notIn (hK : G.K = X.K) (hr : Room k X.A) (ha : DV X G W e1 fa) (hb : DV X G W e2 fb) (hm : behindInMarks .NotIn e2 = false := by rfl) : DT X G W (.Compare e1 [.NotIn] [e2] pos) (tV (ev2 dNotIn fa fb)) := dt_cmp (op_notInA (hu65 hr)) (by have z := o_notIn (G := G); rw [hK] at z; exact z) ha hb hm
theorem dv_len (hK : G.K = X.K) (hm : X.mg "len" = none) (ha : DA X G W (e :: es) ga) (hg : Gl X "len" := by rfl) (he : starEach (e :: es) X.env = (false, eval e X.env) :: starEach es X.env := by rfl) (hpl : (backTo pos (starEach es X.env)).any (·.1) = false := by rfl) : DV X G W (.Call (.Name "len" p) (e :: es) [] pos) (cV (un1 gLen) ga) := dv_callB call_len (by have z := c_len (G := G); rw [hK] at z; exact z) hg hm PySem.boot_len ha (by decide) (by decide) he hpl
theorem dm_len (hK : G.K = X.K) (hm : X.mg "len" = none) (ha : DA X G W (e :: es) ga) (hg : Gl X "len" := by rfl) (he : starEach (e :: es) X.env = (false, eval e X.env) :: starEach es X.env := by rfl) (hpl : (backTo pos (starEach es X.env)).any (·.1) = false := by rfl) : DM X G W (.Call (.Name "len" p) (e :: es) [] pos) (cN (un1 gLen) ga) := dm_callB call_len (by have z := c_len (G := G); rw [hK] at z; exact z) hg hm PySem.boot_len ha (by decide) (by decide) he hpl
theorem dv_toint (hm : X.mg "int" = none) (ha : DA X G W (e :: es) ga) (hg : Gl X "int" := by rfl) (he : starEach (e :: es) X.env = (false, eval e X.env) :: starEach es X.env := by rfl) (hpl : (backTo pos (starEach es X.env)).any (·.1) = false := by rfl) : DV X G W (.Call (.Name "int" p) (e :: es) [] pos) (cV (un1 gInt) ga) := dv_callT call_intA c_int hg hm boot_int ha (by decide) (by decide) he hpl
theorem dm_toint (hm : X.mg "int" = none) (ha : DA X G W (e :: es) ga) (hg : Gl X "int" := by rfl) (he : starEach (e :: es) X.env = (false, eval e X.env) :: starEach es X.env := by rfl) (hpl : (backTo pos (starEach es X.env)).any (·.1) = false := by rfl) : DM X G W (.Call (.Name "int" p) (e :: es) [] pos) (cN (un1 gInt) ga) := dm_callT call_intA c_int hg hm boot_int ha (by decide) (by decide) he hpl
theorem dv_abs (hm : X.mg "abs" = none) (ha : DA X G W (e :: es) ga) (hg : Gl X "abs" := by rfl) (he : starEach (e :: es) X.env = (false, eval e X.env) :: starEach es X.env := by rfl) (hpl : (backTo pos (starEach es X.env)).any (·.1) = false := by rfl) : DV X G W (.Call (.Name "abs" p) (e :: es) [] pos) (cV (un1 gAbs) ga) := dv_callB call_abs c_abs hg hm boot_abs ha (by decide) (by decide) he hpl
theorem dm_abs (hm : X.mg "abs" = none) (ha : DA X G W (e :: es) ga) (hg : Gl X "abs" := by rfl) (he : starEach (e :: es) X.env = (false, eval e X.env) :: starEach es X.env := by rfl) (hpl : (backTo pos (starEach es X.env)).any (·.1) = false := by rfl) : DM X G W (.Call (.Name "abs" p) (e :: es) [] pos) (cN (un1 gAbs) ga) := dm_callB call_abs c_abs hg hm boot_abs ha (by decide) (by decide) he hpl
theorem dv_tostr (hm : X.mg "str" = none) (ha : DA X G W (e :: es) ga) (hg : Gl X "str" := by rfl) (he : starEach (e :: es) X.env = (false, eval e X.env) :: starEach es X.env := by rfl) (hpl : (backTo pos (starEach es X.env)).any (·.1) = false := by rfl) : DV X G W (.Call (.Name "str" p) (e :: es) [] pos) (cV (un1 gStr) ga) := dv_callT call_strA c_str hg hm boot_str ha (by decide) (by decide) he hpl
theorem dm_tostr (hm : X.mg "str" = none) (ha : DA X G W (e :: es) ga) (hg : Gl X "str" := by rfl) (he : starEach (e :: es) X.env = (false, eval e X.env) :: starEach es X.env := by rfl) (hpl : (backTo pos (starEach es X.env)).any (·.1) = false := by rfl) : DM X G W (.Call (.Name "str" p) (e :: es) [] pos) (cN (un1 gStr) ga) := dm_callT call_strA c_str hg hm boot_str ha (by decide) (by decide) he hpl
theorem dv_min2 (hc : X.calm = true) (hm : X.mg "min" = none) (ha : DA X G W (e :: es) ga) (hg : Gl X "min" := by rfl) (he : starEach (e :: es) X.env = (false, eval e X.env) :: starEach es X.env := by rfl) (hpl : (backTo pos (starEach es X.env)).any (·.1) = false := by rfl) : DV X G W (.Call (.Name "min" p) (e :: es) [] pos) (cV (bi2 gMin2) ga) := dv_callB (call_min2 hc) c_min2 hg hm boot_min ha (by decide) (by decide) he hpl
theorem dm_min2 (hc : X.calm = true) (hm : X.mg "min" = none) (ha : DA X G W (e :: es) ga) (hg : Gl X "min" := by rfl) (he : starEach (e :: es) X.env = (false, eval e X.env) :: starEach es X.env := by rfl) (hpl : (backTo pos (starEach es X.env)).any (·.1) = false := by rfl) : DM X G W (.Call (.Name "min" p) (e :: es) [] pos) (cN (bi2 gMin2) ga) := dm_callB (call_min2 hc) c_min2 hg hm boot_min ha (by decide) (by decide) he hpl
theorem dv_max2 (hc : X.calm = true) (hm : X.mg "max" = none) (ha : DA X G W (e :: es) ga) (hg : Gl X "max" := by rfl) (he : starEach (e :: es) X.env = (false, eval e X.env) :: starEach es X.env := by rfl) (hpl : (backTo pos (starEach es X.env)).any (·.1) = false := by rfl) : DV X G W (.Call (.Name "max" p) (e :: es) [] pos) (cV (bi2 gMax2) ga) := dv_callB (call_max2 hc) c_max2 hg hm boot_max ha (by decide) (by decide) he hpl
theorem dm_max2 (hc : X.calm = true) (hm : X.mg "max" = none) (ha : DA X G W (e :: es) ga) (hg : Gl X "max" := by rfl) (he : starEach (e :: es) X.env = (false, eval e X.env) :: starEach es X.env := by rfl) (hpl : (backTo pos (starEach es X.env)).any (·.1) = false := by rfl) : DM X G W (.Call (.Name "max" p) (e :: es) [] pos) (cN (bi2 gMax2) ga) := dm_callB (call_max2 hc) c_max2 hg hm boot_max ha (by decide) (by decide) he hpl
theorem dv_totup (hK : G.K = X.K) (hm : X.mg "tuple" = none) (ha : DA X G W (e :: es) ga) (hg : Gl X "tuple" := by rfl) (he : starEach (e :: es) X.env = (false, eval e X.env) :: starEach es X.env := by rfl) (hpl : (backTo pos (starEach es X.env)).any (·.1) = false := by rfl) : DV X G W (.Call (.Name "tuple" p) (e :: es) [] pos) (cV (un1 gTuple) ga) := dv_callT call_tuple_of (by have z := c_tuple (G := G); rw [hK] at z; exact z) hg hm boot_tuple ha (by decide) (by decide) he hpl
theorem dm_totup (hK : G.K = X.K) (hm : X.mg "tuple" = none) (ha : DA X G W (e :: es) ga) (hg : Gl X "tuple" := by rfl) (he : starEach (e :: es) X.env = (false, eval e X.env) :: starEach es X.env := by rfl) (hpl : (backTo pos (starEach es X.env)).any (·.1) = false := by rfl) : DM X G W (.Call (.Name "tuple" p) (e :: es) [] pos) (cN (un1 gTuple) ga) := dm_callT call_tuple_of (by have z := c_tuple (G := G); rw [hK] at z; exact z) hg hm boot_tuple ha (by decide) (by decide) he hpl
theorem dv_tolst (hK : G.K = X.K) (hm : X.mg "list" = none) (ha : DA X G W (e :: es) ga) (hg : Gl X "list" := by rfl) (he : starEach (e :: es) X.env = (false, eval e X.env) :: starEach es X.env := by rfl) (hpl : (backTo pos (starEach es X.env)).any (·.1) = false := by rfl) : DV X G W (.Call (.Name "list" p) (e :: es) [] pos) (cV (un1 gList) ga) := dv_callT call_list_of (by have z := c_list (G := G); rw [hK] at z; exact z) hg hm boot_list ha (by decide) (by decide) he hpl
theorem dm_tolst (hK : G.K = X.K) (hm : X.mg "list" = none) (ha : DA X G W (e :: es) ga) (hg : Gl X "list" := by rfl) (he : starEach (e :: es) X.env = (false, eval e X.env) :: starEach es X.env := by rfl) (hpl : (backTo pos (starEach es X.env)).any (·.1) = false := by rfl) : DM X G W (.Call (.Name "list" p) (e :: es) [] pos) (cN (un1 gList) ga) := dm_callT call_list_of (by have z := c_list (G := G); rw [hK] at z; exact z) hg hm boot_list ha (by decide) (by decide) he hpl
/-- f() -/
theorem MOk.call0 {n : Nat} {g : FM} : MOk G W (tCallSD (spD G g n) [] (WE W) tNil) (callM n g aNil) := MOk.call AOk.nil
theorem dm_call0 {n : Nat} {g : FM} {x : Str} (F : DefD X.prog X.w X.K X.mg X.base G x k n g) (hr : Room k X.A) (tk : Takes X W) (hg : Gl X x := by rfl) (hdb : (x == ("__debug__" : Str)) = false := by decide) : DM X G W (.Call (.Name x p) [] [] pos) (callM n g aNil) := by
  obtain ⟨f, fd, ps, hn, FF, hm, hk, hb⟩ := F.ex
  refine ⟨tCallSD (spD G g n) [] (WE W) tNil, ⟨fun pins s σ H Q I h => ?_⟩, MOk.call0⟩
  exact wpAny_Call_Name_kw (ld_glob I hg hm (PySem.W.callWith_K0 I.kIn hk (run_fnSD (E := WE W) (us := []) (vs := []) FF hr hb .nil (passAt tk σ) I .nil h)) hdb)
theorem dv_find {o : Expr} {apos cpos : Pos} {fo : EV} (ho : DV X G W o fo) (ha : DA X G W (e :: es) ga)
    (hbase : NoSup X o "find" := by rfl) (hfew : FewA X cpos (e :: es) := by rfl) (hline : OneRow apos cpos := by rfl) (hs : HeadP X e es := by rfl) (hplain : RestP X cpos es := by rfl) :
    DV X G W (.Call (.Attribute o "find" apos) (e :: es) [] cpos) (bm1 gFind fo ga) := dv_bm PySem.F.slot_str_find PySem.F.type_str_find mt_find b_find ho ha hbase hfew hline hs hplain
theorem dv_isT {T : String} {tn : Str} {tab : Tg → Option Bool} {p2 : Pos} (hK : G.K = X.K) (it : IsTab X.K G (.type T) tab) (hm : X.mg "isinstance" = none) (hmT : X.mg tn = none) (hv : bootBuiltins tn = some (.type T)) (he : DV X G W e fa) (hg : Gl X "isinstance" := by rfl) (hgT : Gl X tn := by rfl) (hn : tn ≠ "__name__" := by decide) (hd : (tn == ("__debug__" : Str)) = false := by decide)
    (hs : starEach [e, .Name tn p2] X.env = (false, eval e X.env) :: starEach [.Name tn p2] X.env := by rfl) (hs2 : starEach [.Name tn p2] X.env = (false, eval (.Name tn p2) X.env) :: starEach [] X.env := by rfl) (hp : (backTo pos (starEach [.Name tn p2] X.env)).any (·.1) = false := by rfl) :
    DV X G W (.Call (.Name "isinstance" p) [e, .Name tn p2] [] pos) (ev1 (dIsi tab) fa) := dv_is hK (pe_bltn (v := .ty T) hgT hmT hv rfl hn hd) (.ty T) it hm he hg hs hs2 hp
theorem dv_isC {C : Addr} {tn : Str} {tab : Tg → Option Bool} {p2 : Pos} (hK : G.K = X.K) (it : IsTab X.K G (.ref C) tab) (hm : X.mg "isinstance" = none) (hmT : X.mg tn = some (.ref C)) (he : DV X G W e fa) (hg : Gl X "isinstance" := by rfl) (hgT : Gl X tn := by rfl) (hd : (tn == ("__debug__" : Str)) = false := by decide)
    (hs : starEach [e, .Name tn p2] X.env = (false, eval e X.env) :: starEach [.Name tn p2] X.env := by rfl) (hs2 : starEach [.Name tn p2] X.env = (false, eval (.Name tn p2) X.env) :: starEach [] X.env := by rfl) (hp : (backTo pos (starEach [.Name tn p2] X.env)).any (·.1) = false := by rfl) :
    DV X G W (.Call (.Name "isinstance" p) [e, .Name tn p2] [] pos) (ev1 (dIsi tab) fa) := dv_is hK (pe_glob (v := .ref C) hgT hmT rfl hd) (.own C) it hm he hg hs hs2 hp
end
end DL

namespace DL
open PySem PySem.Spec PyProof.Rows L2
theorem all_nil {α : Type} {p : α → Prop} : ∀ c ∈ ([] : List α), p c := fun c h => nomatch h
theorem all_cons {α : Type} {p : α → Prop} {a : α} {l : List α} (h : p a) (k : ∀ c ∈ l, p c) : ∀ c ∈ a :: l, p c := fun c hc => (List.mem_cons.mp hc).elim (fun e => e ▸ h) (k c)
theorem look_mem {β : Type} : ∀ {l : List (Nat × β)} {c : Nat} {b : β}, l.lookup c = some b → (c, b) ∈ l
  | [], c, b, h => by cases h
  | (d, e) :: l, c, b, h => by
    rw [List.lookup_cons] at h
    by_cases hc : c = d
    · subst hc
      rw [beq_self_eq_true] at h
      cases h
      exact List.mem_cons_self
    · rw [beq_eq_false_iff_ne.mpr hc] at h
      exact List.mem_cons_of_mem _ (look_mem h)
theorem tabC_ok {K : PySem.W.Frag} {G : Gx} {u : Value} {os xs : List (Nat × Bool)} (ho : ∀ p ∈ os, PySem.W.kitOne K (.ref (G.T p.1)) u = some p.2 ∧ L2.Cls K (G.T p.1) ∧ IsC K (G.T p.1)) (hx : ∀ p ∈ xs, PySem.W.kitOne K (.ref (G.T p.1)) u = some p.2 ∧ IsE K (G.T p.1)) : IsTab K G u (tabC os xs) := by
  refine ⟨fun t b h => ?_, fun c b h => (ho _ (look_mem h)).2, fun c b h => (hx _ (look_mem h)).2⟩
  cases t with
  | obj c => exact (ho _ (look_mem h)).1
  | exc c => exact (hx _ (look_mem h)).1
  | _ => cases h
theorem boot_VE : bootBuiltins "ValueError" = some (.type "ValueError") := PyProof.Rows.Boot.«ValueError»
/-- an own error is a ValueError -/
theorem kit_VE {K : PySem.W.Frag} {A : Addr} {b : Bool} (h : PySem.W.subIn K (.ref A) (.type "ValueError") = some b) : PySem.W.kitOne K (.ref A) (.type "ValueError") = some b := by
  have hm : PySem.W.kitMeta "ValueError" = true := by decide +kernel
  have ne : (Value.ref A == Value.type "ValueError") = false := by rfl
  unfold PySem.W.kitOne
  rw [ne]
  show (if PySem.W.kitMeta "ValueError" = true then PySem.W.subIn K (.ref A) (.type "ValueError") else none) = some b
  rw [if_pos hm]
  exact h
theorem cx_no {P : Program} {w : World} {outer : List Env} {H : Hp} {s s' : Shared} {e : Value} (h : L2.CX P w outer H s (fun _ _ _ => False) e s') : False :=
  have ⟨_, _, _, _, _, _, _, _, _, _, _, _, no⟩ := h
  no
end DL

namespace DL
open PySem PySem.Spec PyProof.Rows L2

/-! ## instances of own classes: C(..), self.f = e in an __init__ -/
def noLocA (m : Nat) : Sto → Bool
  | [] => true
  | .nums _ :: r => noLocA m r
  | .obj _ _ ds :: r => noLocs m ds && noLocA m r
theorem noLocA_at {m c : Nat} {ns : List Str} {ds : List D} : ∀ {a : Sto} {n : Nat}, noLocA m a = true → a[n]? = some (.obj c ns ds) → noLocs m ds = true
  | [], n, h, e => by simp at e
  | .nums l :: r, 0, h, e => by simp at e
  | .obj c' ns' ds' :: r, 0, h, e => by
    have h' : (noLocs m ds' && noLocA m r) = true := h
    simp at e
    obtain ⟨_, _, rfl⟩ := e
    exact (Bool.and_eq_true_iff.mp h').1
  | .nums l :: r, n + 1, h, e => noLocA_at (a := r) (n := n) h (by simpa using e)
  | .obj c' ns' ds' :: r, n + 1, h, e => by
    have h' : (noLocs m ds' && noLocA m r) = true := h
    exact noLocA_at (a := r) (n := n) (Bool.and_eq_true_iff.mp h').2 (by simpa using e)
/-- the last shared place, an instance that nothing else names, taken off -/
def popO (m : Nat) (a : Sto) : Option (Sto × Nat × List Str × List D) := match a[m]? with
  | some (.obj c ns ds) => if (noLocs m ds && noLocA m (a.take m)) = true then some (a.take m, c, ns, ds) else none
  | _ => none
section
variable {G : Gx} {B H : Hp} {ρ R : List Addr} {a : Sto}
/-- a new instance as a shared place -/
theorem Wd.push (w : Wd G B H ρ a R) {x dx : Addr} {c : Nat} (hx : H x = none) (hd : H dx = none) (hn : dx ≠ x) : Wd G B (upd (upd H dx (.own x)) x (.ins (G.T c) dx [])) (ρ ++ [x]) (a ++ [.obj c [] []]) R := by
  have x1 : ∀ q, q ≠ x → q ≠ dx → upd (upd H dx (.own x)) x (.ins (G.T c) dx []) q = H q := fun q h1 h2 => by rw [upd_ne h1, upd_ne h2]
  have old : ∀ q o, H q = some o → upd (upd H dx (.own x)) x (.ins (G.T c) dx []) q = H q := fun q o e => x1 q (ne_of_none e hx) (ne_of_none e hd)
  have nx : x ∉ ρ ++ R := fun z => w.ne hx z rfl
  have nd : dx ∉ ρ ++ R := fun z => w.ne hd z rfl
  have mem : ∀ q, q ∈ (ρ ++ [x]) ++ R → q = x ∨ q ∈ ρ ++ R := fun q z => by
    rcases List.mem_append.mp z with z | z
    · rcases List.mem_append.mp z with z | z
      · exact .inr (List.mem_append_left _ z)
      · exact .inl (List.mem_singleton.mp z)
    · exact .inr (List.mem_append_right _ z)
  refine ⟨fun q o e => ?_, by rw [List.length_append, List.length_append, w.len] <;> rfl, fun n q k h1 h2 => ?_, ?_, fun q hq => ?_, fun q hq => ?_⟩
  · have z := w.ex q o e
    exact (old q o z).trans z
  · by_cases hn2 : n < ρ.length
    · rw [List.getElem?_append_left hn2] at h1
      rw [List.getElem?_append_left (by rw [← w.len]; exact hn2)] at h2
      have z := w.sto n q k h1 h2
      obtain ⟨o', ho⟩ := z.there
      have z2 := z.move (Same.refl _) (old q o' ho) (R' := R) fun y g1 g2 g3 => ⟨old y _ g1, g2, g3⟩
      cases k with
      | nums l => exact z2
      | obj cc ns ds =>
        obtain ⟨dy, xs, y1, y2, y3, y4, y5, y6⟩ := z2
        have dyx : dy ≠ x := fun e => by
          rw [e, upd_same] at y2
          cases y2
        exact ⟨dy, xs, y1, y2, y3, Reps.ext [x] ds xs y4, fun m => (mem dy m).elim dyx y5, y6⟩
    · have e1 : n = ρ.length := by
        have l1 := (List.getElem?_eq_some_iff.mp h1).1
        rw [List.length_append, List.length_singleton] at l1
        omega
      subst e1
      rw [List.getElem?_append_right (Nat.le_refl _), Nat.sub_self] at h1
      rw [w.len, List.getElem?_append_right (Nat.le_refl _), Nat.sub_self] at h2
      cases h1
      cases h2
      exact ⟨dx, [], upd_same, by rw [upd_ne hn, upd_same], rfl, Reps.nil, fun m => (mem dx m).elim hn nd, w.noneB hd⟩
  · rw [List.append_assoc]
    exact List.perm_middle.nodup_iff.mpr (List.nodup_cons.mpr ⟨nx, w.nd⟩)
  · rcases mem q hq with rfl | h
    · exact w.noneB hx
    · exact w.bn q h
  · rcases mem q hq with rfl | h
    · rw [upd_same] <;> rfl
    · have z := w.has q h
      obtain ⟨o, ho⟩ := Option.isSome_iff_exists.mp z
      rw [old q o ho]
      exact z
/-- .. and owned from now on -/
theorem Wd.pop {x : Addr} {a3 : Sto} {c : Nat} {ns : List Str} {ds : List D} (w : Wd G B H (ρ ++ [x]) a R) (e : popO ρ.length a = some (a3, c, ns, ds)) :
    ∃ dx, Wd G B H ρ a3 ([x, dx] ++ R) ∧ Own G B H ρ (.obj c ns (ds.map M.val)) (.ref x) [x, dx] := by
  have hl := w.len
  rw [List.length_append, List.length_singleton] at hl
  unfold popO at e
  cases c1 : a[ρ.length]? with
  | none =>
    rw [c1] at e
    cases e
  | some cl =>
    rw [c1] at e
    cases cl with
    | nums l => cases e
    | obj c' ns' ds' =>
      dsimp only at e
      by_cases c2 : (noLocs ρ.length ds' && noLocA ρ.length (a.take ρ.length)) = true
      · rw [if_pos c2] at e
        cases e
        obtain ⟨c3, c4⟩ := Bool.and_eq_true_iff.mp c2
        have hx : (ρ ++ [x])[ρ.length]? = some x := by
          rw [List.getElem?_append_right (Nat.le_refl _), Nat.sub_self]
          rfl
        obtain ⟨dx, xs, z1, z2, z3, z4, z5, z6⟩ := w.sto ρ.length x _ hx c1
        have nd := w.nd
        have pm : ((ρ ++ [x]) ++ R).Perm (x :: (ρ ++ R)) := by
          rw [List.append_assoc]
          exact List.perm_middle
        have nd2 := pm.nodup_iff.mp nd
        have nx : x ∉ ρ ++ R := (List.nodup_cons.mp nd2).1
        have ndx : dx ≠ x ∧ dx ∉ ρ ++ R := ⟨fun z => z5 (pm.mem_iff.mpr (z ▸ List.mem_cons_self)), fun z => z5 (pm.mem_iff.mpr (List.mem_cons_of_mem _ z))⟩
        have mem : ∀ q, q ∈ ρ ++ ([x, dx] ++ R) → q = x ∨ q = dx ∨ q ∈ ρ ++ R := fun q z => by
          rcases List.mem_append.mp z with z | z
          · exact .inr (.inr (List.mem_append_left _ z))
          · rcases List.mem_append.mp z with z | z
            · rcases List.mem_cons.mp z with z | z
              · exact .inl z
              · exact .inr (.inl (List.mem_singleton.mp z))
            · exact .inr (.inr (List.mem_append_right _ z))
        refine ⟨dx, ⟨w.ex, by rw [List.length_take]; omega, fun n q k h1 h2 => ?_, ?_, fun q hq => ?_, fun q hq => ?_⟩, ⟨x, dx, xs, [], rfl, z1, z2, z3, rfl, Owns.vals (Reps.less ds xs c3 z4)⟩⟩
        · have hn : n < ρ.length := (List.getElem?_eq_some_iff.mp h1).1
          have h2' : a[n]? = some k := by
            rw [List.getElem?_take] at h2
            rw [if_pos hn] at h2
            exact h2
          have y := w.sto n q k (by rw [List.getElem?_append_left hn]; exact h1) h2'
          cases k with
          | nums l => exact y
          | obj cc ms es =>
            obtain ⟨dy, ys, y1, y2, y3, y4, y5, y6⟩ := y
            have qx : q ≠ x := fun z => nx (z ▸ List.mem_append_left _ (List.mem_of_getElem? h1))
            have dd : dy ≠ dx := fun z => by
              rw [z, z2] at y2
              cases y2
              exact qx rfl
            have dyx : dy ≠ x := fun z => y5 (pm.mem_iff.mpr (z ▸ List.mem_cons_self))
            exact ⟨dy, ys, y1, y2, y3, Reps.less es ys (noLocA_at c4 h2) y4, fun m => (mem dy m).elim dyx fun m => m.elim dd fun m => y5 (pm.mem_iff.mpr (List.mem_cons_of_mem _ m)), y6⟩
        · have p2 : (ρ ++ ([x, dx] ++ R)).Perm (x :: (dx :: (ρ ++ R))) := by
            show (ρ ++ x :: (dx :: R)).Perm _
            exact List.perm_middle.trans (List.Perm.cons x List.perm_middle)
          refine p2.nodup_iff.mpr (List.nodup_cons.mpr ⟨fun z => ?_, List.nodup_cons.mpr ⟨ndx.2, (List.nodup_cons.mp nd2).2⟩⟩)
          rcases List.mem_cons.mp z with z | z
          · exact ndx.1 z.symm
          · exact nx z
        · rcases mem q hq with rfl | rfl | h
          · exact w.bn q (pm.mem_iff.mpr List.mem_cons_self)
          · exact z6
          · exact w.bn q (pm.mem_iff.mpr (List.mem_cons_of_mem _ h))
        · rcases mem q hq with rfl | rfl | h
          · rw [z1] <;> rfl
          · rw [z2] <;> rfl
          · exact w.has q (pm.mem_iff.mpr (List.mem_cons_of_mem _ h))
      · rw [if_neg c2] at e
        cases e
end
/-- the class c of the module, made by its __init__ -/
structure InitD (P : Program) (w : World) (K : PySem.W.Frag) (mg : Str → Option Value) (base : Heap) (G : Gx) (x : Str) (c k n : Nat) (g : FM) : Prop where
  ex : ∃ (f : Addr) (fd : FuncData) (ps : List Str), ps.length = n ∧ FnOk P w K mg base (L2.CX P w) k f fd ps (spD G g n) ∧ mg x = some (.ref (G.T c)) ∧ Mk K (G.T c) f ∧ Binds K fd ps []
def mkEnd (c m : Nat) : Out M → Out M
  | .ok (.val .non) a2 => (match popO m a2 with
    | some (a3, c', ns, es) => if c' = c then .ok (.obj c ns (es.map M.val)) a3 else .stuck
    | none => .stuck)
  | .exc k ns es a2 => (match popO m a2 with
    | some (a3, _) => if noLocs m es = true then .exc k ns es a3 else .stuck
    | none => .stuck)
  | _ => .stuck
def mkM (c n : Nat) (g : FM) (fa : EA) : EM := fun δ a => (fa δ a).bind fun ds a1 => if ds.length + 1 = n then mkEnd c a1.length (g (.loc a1.length :: ds) (a1 ++ [.obj c [] []])) else .stuck
def tMakeSD (C : Addr) (sp : Sp) (E : L2.St → XK) (t : TA) : TE := fun σ H Q => t σ H fun vs H1 => ∀ x dx, H1 x = none → H1 dx = none → dx ≠ x → sp (.ref x :: vs) (upd (upd H1 dx (.own x)) x (.ins C dx [])) (fun v H2 => v = .non ∧ Q (.ref x) H2) (E σ)
section
variable {X : Cx} {G : Gx} {W : WX} {x : Str} {c k n : Nat} {g : FM} {e : Expr} {es : List Expr} {p pos : Pos}
theorem MOk.make {t : TA} {fa : EA} (s : AOk G W t fa) : MOk G W (tMakeSD (G.T c) (spD G g n) (WE W) t) (mkM c n g fa) := fun ρ R B H σ δ a Q w sl q =>
  s ρ R B H σ δ a _ w sl (Fin.imp (Fin.seqM q) fun ds a1 B1 H1 w1 s1 k1 q1 vs r x dx hx hd hne => by
    by_cases hl : ds.length + 1 = n
    · rw [if_pos hl] at q1
      have w2 := w1.push (c := c) hx hd hne
      refine ⟨by rw [List.length_cons, ← r.len]; exact hl, ρ ++ [x], R, B1, .loc a1.length :: ds, _, w2, Reps.cons ⟨x, by rw [← w1.len, List.getElem?_append_right (Nat.le_refl _), Nat.sub_self]; rfl, rfl⟩ (Reps.ext [x] ds vs r), ?_⟩
      have kpR : ∀ {H' : Hp}, Kp R (upd (upd H1 dx (.own x)) x (.ins (G.T c) dx [])) H' → Kp R H1 H' := fun kp y hy => by
        have y1 : y ≠ x := w1.ne hx (List.mem_append_right _ hy)
        have y2 : y ≠ dx := w1.ne hd (List.mem_append_right _ hy)
        rw [kp y hy, upd_ne y1, upd_ne y2]
      rw [← w1.len] at q1
      rw [← w1.len]
      cases co : g (.loc ρ.length :: ds) (a1 ++ [.obj c [] []]) with
      | stuck =>
        rw [co] at q1
        exact q1.elim
      | ok m a2 =>
        rw [co] at q1
        cases m with
        | val d =>
          cases d with
          | non =>
            intro B' H' v F w' sm kp om
            obtain ⟨rfl, ev⟩ := om
            have ev' : v = .non := ev
            refine ⟨ev', ?_⟩
            unfold mkEnd at q1
            dsimp only at q1
            cases cp : popO ρ.length a2 with
            | none =>
              rw [cp] at q1
              exact q1.elim
            | some z =>
              obtain ⟨a3, c', ns, es⟩ := z
              rw [cp] at q1
              dsimp only at q1
              by_cases hc : c' = c
              · rw [if_pos hc] at q1
                subst hc
                obtain ⟨dy, w3, o3⟩ := Wd.pop w' cp
                exact q1 B' H' (.ref x) _ w3 sm (kpR kp) o3
              · rw [if_neg hc] at q1
                exact q1.elim
          | _ => exact q1.elim
        | _ => exact q1.elim
      | exc kk ns es a2 =>
        rw [co] at q1
        intro B' H' dd w' sm kp xx
        unfold mkEnd at q1
        dsimp only at q1
        cases cp : popO ρ.length a2 with
        | none =>
          rw [cp] at q1
          exact q1.elim
        | some z =>
          obtain ⟨a3, c', ns', es'⟩ := z
          rw [cp] at q1
          dsimp only at q1
          by_cases hc : noLocs ρ.length es = true
          · rw [if_pos hc] at q1
            obtain ⟨dy, w3, o3⟩ := Wd.pop w' cp
            refine q1 B' H' dd w3.drop sm (kpR kp) ?_
            rcases xx with xx | ⟨d, xs, x1, x2, x3, x4⟩
            · exact .inl xx
            · exact .inr ⟨d, xs, x1, x2, x3, Reps.less es xs hc x4⟩
          · rw [if_neg hc] at q1
            exact q1.elim
    · rw [if_neg hl] at q1
      exact q1.elim)
/-- a def's code, called where there is room for it -/
theorem code_fn {f : Addr} {fd : FuncData} {ps : List Str} {sp : Sp} {A : Around} {s : Shared} {H : Hp} {us : List Value} {vs : List V} {Q : VK} {E : XK} (F : FnOk X.prog X.w X.K X.mg X.base (L2.CX X.prog X.w) k f fd ps sp) (room : Room k A) (env : Env0 X.prog X.w X.K X.mg X.base A X.stack s H) (kin : X.K.In s.heap)
    (bi : Binds X.K fd ps []) (r : Vals vs us) (q : sp vs H Q E) : codeAny (model X.prog X.w) A (.call (.ref f) ⟨us, []⟩) (CR (L2.CX X.prog X.w) X.stack X.prog X.w H s Q E) s := by
  have b := bi s us kin (by rw [List.append_nil, ← r.length]; exact F.len vs H Q E q)
  rw [List.append_nil] at b
  exact F.run A X.stack s H ⟨us, []⟩ us vs Q E room env b r q
theorem call_makeSD {C f : Addr} {fd : FuncData} {ps : List Str} {sp : Sp} {pins : List (Addr × Obj)} {σ : L2.St} {H : Hp} {s : Shared} {Q : VK} {us : List Value} {vs : List V} (M : Mk X.K C f) (F : FnOk X.prog X.w X.K X.mg X.base (L2.CX X.prog X.w) k f fd ps sp) (hr : Room (k + 1) X.A) (hb : Binds X.K fd ps []) (tk : Takes X W)
    (I : Inv X pins σ H s) (r : Vals vs us) (h : ∀ y dx, H y = none → H dx = none → dx ≠ y → sp (.ref y :: vs) (upd (upd H dx (.own y)) y (.ins C dx [])) (fun v H2 => v = .non ∧ Q (.ref y) H2) (WE W σ)) : wpAny (model X.prog X.w) X.A (call (.ref C) us) (EP X pins σ Q) X.xe s :=
  have born := Inv.made (C := C) I
  have q := h _ _ (I.hok.fresh (Nat.le_succ _)) (I.hok.fresh (Nat.le_refl _)) (Nat.ne_of_lt (Nat.lt_succ_self _))
  wpAny_call (make_map (f := f) I.kIn M.makes M.init (beq_iff_eq.mp M.fn) (codeAny_mono (code_fn F (hr.make C us []) (born.env0.make C us []) born.kIn hb (us := .ref (s.heap.objs.size + 1) :: us) (vs := .ref (s.heap.objs.size + 1) :: vs) (.cons rfl r) q) fun out s' z => match out, z with
    | .error x, z => passAt tk σ pins _ _ x s' born z
    | .ok (.ret _), z =>
      have ⟨_, H', I3, rv, e, z3⟩ := born.after z
      ⟨by cases e; exact rv, V.ref (s.heap.objs.size + 1), H', I3, rfl, z3⟩
    | .ok .next, z => z.elim
    | .ok .brk, z => z.elim
    | .ok .cont, z => z.elim))
theorem dm_make {fa : EA} (N : InitD X.prog X.w X.K X.mg X.base G x c k n g) (hr : Room (k + 1) X.A) (tk : Takes X W) (ha : DA X G W (e :: es) fa) (hg : Gl X x := by rfl)
    (hdb : NotDbg x := by decide) (he : HeadP X e es := by rfl) (hpl : RestP X pos es := by rfl) :
    DM X G W (.Call (.Name x p) (e :: es) [] pos) (mkM c n g fa) := by
  obtain ⟨t, pa, s⟩ := ha.ex
  obtain ⟨f, fd, ps, hn, FF, hm, M, hb⟩ := N.ex
  refine ⟨_, ⟨fun pins s0 σ H Q I h => wpAny_Call_Name_kw (ld_glob I hg hm ?_ hdb)⟩, MOk.make s⟩
  exact PySem.W.callWith_K (h₀ := X.base) I.ok.mod.kin M.kp (thn (pa.run pos pins s0 σ H _ I h) fun us s1 ⟨vs, H1, I1, r, q⟩ => ⟨I1.kIn, call_makeSD M FF hr hb tk I1 r q⟩) he hpl
theorem dm_make0 (N : InitD X.prog X.w X.K X.mg X.base G x c k n g) (hr : Room (k + 1) X.A) (tk : Takes X W) (hg : Gl X x := by rfl) (hdb : NotDbg x := by decide) :
    DM X G W (.Call (.Name x p) [] [] pos) (mkM c n g aNil) := by
  obtain ⟨f, fd, ps, hn, FF, hm, M, hb⟩ := N.ex
  refine ⟨_, ⟨fun pins s0 σ H Q I h => wpAny_Call_Name_kw (ld_glob I hg hm ?_ hdb)⟩, MOk.make (t := tNil) AOk.nil⟩
  exact PySem.W.callWith_K0 I.kIn M.kp (call_makeSD (us := []) M FF hr hb tk I .nil h)
end
/-! ## self.f = e -/
def putN (f : Str) : List Str → List Str
  | [] => [f]
  | g :: r => if g = f then g :: r else g :: putN f r
def putD {α : Type} (f : Str) (d : α) : List Str → List α → List α
  | [], _ => [d]
  | _ :: _, [] => []
  | g :: r, x :: xs => if g = f then d :: xs else x :: putD f d r xs
theorem put_zip (f : Str) (v : V) : ∀ (ns : List Str) (xs : List V), ns.length = xs.length → putF f v (ns.zip xs) = (putN f ns).zip (putD f v ns xs) ∧ (putN f ns).length = (putD f v ns xs).length
  | [], [], _ => ⟨rfl, rfl⟩
  | [], x :: xs, h => by simp at h
  | g :: r, [], h => by simp at h
  | g :: r, x :: xs, h => by
    obtain ⟨i1, i2⟩ := put_zip f v r xs (by simpa using h)
    rw [List.zip_cons_cons]
    by_cases e : g = f
    · have a1 : putF f v ((g, x) :: r.zip xs) = (g, v) :: r.zip xs := if_pos e
      have a2 : putN f (g :: r) = g :: r := if_pos e
      have a3 : putD f v (g :: r) (x :: xs) = v :: xs := if_pos e
      rw [a1, a2, a3]
      exact ⟨rfl, by simpa using h⟩
    · have a1 : putF f v ((g, x) :: r.zip xs) = (g, x) :: putF f v (r.zip xs) := if_neg e
      have a2 : putN f (g :: r) = g :: putN f r := if_neg e
      have a3 : putD f v (g :: r) (x :: xs) = x :: putD f v r xs := if_neg e
      rw [a1, a2, a3, i1]
      exact ⟨rfl, by rw [List.length_cons, List.length_cons, i2]⟩
theorem put_reps {G : Gx} {B : Hp} {ρ : List Addr} (f : Str) {d : D} {v : V} (h : Rep G B ρ d v) : ∀ (ns : List Str) (ds : List D) (xs : List V), Reps G B ρ ds xs → Reps G B ρ (putD f d ns ds) (putD f v ns xs)
  | [], ds, xs, r => Reps.cons h Reps.nil
  | g :: ns, [], xs, r => by
    have e : xs = [] := r
    subst e
    exact rfl
  | g :: ns, d0 :: ds, xs, r => by
    obtain ⟨y, t, rfl, h1, h2⟩ := r
    by_cases e : g = f
    · have a1 : putD f d (g :: ns) (d0 :: ds) = d :: ds := if_pos e
      have a2 : putD f v (g :: ns) (y :: t) = v :: t := if_pos e
      rw [a1, a2]
      exact Reps.cons h h2
    · have a1 : putD f d (g :: ns) (d0 :: ds) = d0 :: putD f d ns ds := if_neg e
      have a2 : putD f v (g :: ns) (y :: t) = y :: putD f v ns t := if_neg e
      rw [a1, a2]
      exact Reps.cons h1 (put_reps f h ns ds t h2)
def sSelf (I : List Nat) (i c : Nat) (f : Str) (fe : EV) : SM := fun δ a => (lift I (mV fe) δ a).seq fun m δ1 a1 => match m, δ1[i]? with
  | .val d, some (some (.val (.loc n))) => (match a1[n]? with
    | some (.obj c' ns ds) => if c' = c ∧ ns.length < 1000 then .nx δ1 (a1.set n (.obj c (putN f ns) (putD f d ns ds))) else .stuck
    | _ => .stuck)
  | _, _ => .stuck
section
variable {X : Cx} {G : Gx} {W : WX}
theorem ds_self {e : Expr} {x f : Str} {i c : Nat} {fe : EV} {p1 p2 pos : Pos} (I : List Nat) (he : DV X G W e fe) (hN : X.N[i]? = some x) (hv : Vis X.env.scope x) (hc : Cls X.K (G.T c)) (hf : NoAttr X.K (G.T c) f)
    (hd : NotDbg x := by decide) (hcd : (x == ("__classdict__" : Str)) = false := by decide)
    (hs : swapsWith e (some (.Attribute (.Name x p1) f p2)) pos.line X.env = pure false := by rfl) : DS X G W (.Assign [.Attribute (.Name x p1) f p2] e pos) (sSelf I i c f fe) := by
  obtain ⟨te, pe, se⟩ := he.ex
  refine ⟨_, ps_fld (pe_var hN hv hd hcd) pe hs, fun ρ R B H σ δ a F Z w os q => ?_⟩
  refine lift_ok (mok_v se) w os (Ox.fin q fun m δ1 a1 B1 H1 v F1 Fa w1 om os1 q1 => ?_)
  cases m with
  | val d =>
    obtain ⟨rfl, rm⟩ := om
    cases c1 : δ1[i]? with
    | none =>
      rw [c1] at q1
      exact q1.elim
    | some o1 =>
      rw [c1] at q1
      cases o1 with
      | none => exact q1.elim
      | some mo =>
        cases mo with
        | val dd =>
          cases dd with
          | loc n =>
            obtain ⟨vo, Fi, Fr, _, h2, ⟨_, y, h3, rfl⟩, _⟩ := OwnS.take os1 c1
            dsimp only at q1
            cases c2 : a1[n]? with
            | none =>
              rw [c2] at q1
              exact q1.elim
            | some cl =>
              rw [c2] at q1
              cases cl with
              | nums l => exact q1.elim
              | obj c' ns ds =>
                dsimp only at q1
                by_cases c3 : c' = c ∧ ns.length < 1000
                · rw [if_pos c3] at q1
                  obtain ⟨rfl, c4⟩ := c3
                  have w1' : Wd G B1 H1 ρ a1 (Fa ++ R) := w1
                  obtain ⟨dx, xs, z1, z2, z3, z4, z5, z6⟩ := w1'.sto n y _ h3 c2
                  obtain ⟨pz, pl⟩ := put_zip f v ns xs z3
                  refine ⟨.ref y, h2, y, G.T c', dx, ns.zip xs, rfl, z1, hc, hf, by rw [List.length_zip]; omega, ?_⟩
                  have hdy : dx ≠ y := fun z => z5 (z ▸ List.mem_append_left _ (List.mem_of_getElem? h3))
                  have w2 : Wd G B1 (upd H1 y (.ins (G.T c') dx (putF f v (ns.zip xs)))) ρ (a1.set n (.obj c' (putN f ns) (putD f d ns ds))) (Fa ++ R) :=
                    w1'.putC h3 ⟨dx, putD f v ns xs, by rw [upd_same, pz], by rw [upd_ne hdy]; exact z2, pl, put_reps f rm ns ds xs z4, z5, z6⟩
                  exact q1 B1 _ σ Fa w2 (Same.refl _) (fun z hz => upd_ne (w1'.put_ne h3 (List.mem_append_right _ hz))) (OwnS.mono (Same.refl _) δ1 σ Fa (fun z hz => upd_ne (w1'.put_ne h3 (List.mem_append_left _ hz))) os1)
                · rw [if_neg c3] at q1
                  exact q1.elim
          | _ => exact q1.elim
        | _ => exact q1.elim
  | _ => exact q1.elim
end
end DL

namespace DL
open PySem PySem.Spec PyProof.Rows L2

/-! ## a == b, a <= b, .. by an own method of both sides' class -/
structure OwnD (P : Program) (w : World) (K : PySem.W.Frag) (mg : Str → Option Value) (base : Heap) (G : Gx) (m : Str) (k : Nat) (p : Nat × FM) : Prop where
  ex : ∃ (f : Addr) (fd : FuncData) (ps : List Str), FnOk P w K mg base (L2.CX P w) k f fd ps (spD G p.2 2) ∧ PySem.W.findIn K (.ref (G.T p.1)) m = some (some (.ref f)) ∧ PySem.W.isFn K (.ref f) = true ∧ Binds K fd ps []
/-- a class that takes != from object -/
structure NeD (K : PySem.W.Frag) (C : Addr) : Prop where
  ne : PySem.W.findIn K (.ref C) "__ne__" = some (some (.builtin "object.__ne__"))
  obj : ∃ nm q N bs hdct sn sub ab col dd k0 k1 k2 k3 k5 newId, K.lookup C = some (excClassObj nm q C N bs [.type "object"] hdct sn sub ab col dd k0 k1 k2 k3 k5 newId)
def rOwn (G : Gx) (T : List (Nat × FM)) (neg : Bool) : R2 := fun x y H Q => ∃ p ∈ T, ∃ a dx fs b dy gs, x = .ref a ∧ H a = some (.ins (G.T p.1) dx fs) ∧ y = .ref b ∧ H b = some (.ins (G.T p.1) dy gs) ∧
  spD G p.2 2 [x, y] H (fun v H' => ∃ k, v = .bl k ∧ Q (.bl (k != neg)) H') (fun _ _ _ => False)
section
variable {X : Cx} {G : Gx} {W : WX} {k : Nat} {T : List (Nat × FM)}
theorem pass_no {σ : L2.St} : PassesAt (L2.CX X.prog X.w) X σ (fun _ _ _ => False) := fun _ _ _ _ _ _ h => (cx_no h).elim
theorem op_own {op : CmpOp} {m : Str} (F : ∀ p ∈ T, OwnD X.prog X.w X.K X.mg X.base G m k p) (hr : Room k X.A) (hm : (cmpInfo op).2.1 = m) (hop : ∀ a b, compareOp op a b = richCompare op a b) : OpR X (compareOp op) (rOwn G T false) := by
  rintro pins s σ H x y u v Q I rx ry ⟨p, hp, a, dx, fs, b, dy, gs, rfl, ha, rfl, hb, q⟩
  cases rx
  cases ry
  obtain ⟨f, fd, ps, FF, hs, hf, bi⟩ := (F p hp).ex
  obtain ⟨mA, J, _⟩ := ins_get I.hok ha
  obtain ⟨mB, J2, _⟩ := ins_get I.hok hb
  obtain ⟨od, J, _⟩ := J.look
  obtain ⟨od2, J2, _⟩ := J2.look
  obtain ⟨fm, hF⟩ := I.fr
  rw [hop]
  refine PySem.W.cmp_K (op := op) (tb := .ref (G.T p.1)) hr.units0 hF I.ok.mod.kin J J2.type (by simp [PySem.W.notFirst]) (by rw [hm]; exact hs) hf ?_
  refine wpAny_mono (run_fnSD (E := fun _ => fun _ _ _ => False) (us := [.ref a, .ref b]) (vs := [.ref a, .ref b]) FF hr bi .nil pass_no I (.cons rfl (.cons rfl .nil)) q) (fun r s' z => ?_) fun _ _ e => e
  obtain ⟨vv, H', I', rv, kk, rfl, q'⟩ := z
  cases rv
  exact ⟨.bl kk, H', I', rfl, by simpa using q'⟩
theorem binds_ne {M : Model} {A : Around} {E : Value → Shared → Prop} {s : Shared} {K : PySem.W.Frag} {x C : Addr} {ox : Obj} {od : Option Obj} {args : List Value} {Q : Option Value → Shared → Prop} (Y : K.In s.heap) (I : PySem.W.InstAt s.heap x ox C od)
    (hs : PySem.W.findIn K (.ref C) "__ne__" = some (some (.builtin "object.__ne__"))) (h : wpAny M A (call (.builtin "object.__ne__") (.ref x :: args)) (fun v => Q (some v)) E s) : wpAny M A (callSpecialIfBound? (.ref x) "__ne__" args) Q E s := by
  unfold callSpecialIfBound? bindSpecialIfBound?
  have hb := PySem.F.cmp_object.ne.bind (.ref x)
  have done : wpAny M A (call (.builtin "object.__ne__") ([.ref x] ++ args) >>= fun v => pure (some v)) Q E s := wpAny_bind (wpAny_mono h (fun _ _ z => wpAny_pure z) fun _ _ z => z)
  refine wpAny_holding (wpAny_bind (wpAny_bind (wpAny_bind (I.type.here ((PySem.W.looks_findIn Y hs).here ?_)))))
  simp only [hb]
  refine wpAny_bind (wpAny_askSetting (wpAny_ite ?_))
  split
  · exact wpAny_bind (wpAny_pure (wpAny_pure done))
  · exact wpAny_tryCatch (wpAny_bind (wpAny_pure (wpAny_pure done)))
theorem ne_inst {P : Program} {w : World} {A : Around} {E : Value → Shared → Prop} {s : Shared} {K : PySem.W.Frag} {x y C f : Addr} {ox oy : Obj} {od od2 : Option Obj} {Q : Value → Shared → Prop} (hu : A.units + 1 < cLine) (Y : K.In s.heap) (I : PySem.W.InstAt s.heap x ox C od) (J : PySem.W.InstAt s.heap y oy C od2)
    (N : NeD K C) (hs : PySem.W.findIn K (.ref C) "__eq__" = some (some (.ref f))) (hf : PySem.W.isFn K (.ref f) = true)
    (h : wpAny (model P w) A.in1 (call (.ref f) [.ref x, .ref y]) (fun v s' => ∃ b, v = .bool b ∧ Q (.bool (!b)) s') E s) : wpAny (model P w) A (richCompare .NotEq (.ref x) (.ref y)) Q E s := by
  obtain ⟨nm, q, Nn, bs, hdct, sn, sub, ab, col, dd, k0, k1, k2, k3, k5, newId, hC⟩ := N.obj
  have try1 : wpAny (model P w) A (tryCompare (.ref x) "__ne__" (.ref y)) (fun r s' => ∃ v, r = some v ∧ Q v s') E s := by
    unfold tryCompare
    refine wpAny_bind (binds_ne Y I N.ne (wpAny_call (codeAny_call_builtin PySem.F.cmp_object.ne.plain PySem.F.cmpEntry_ne
      (wpAny_check_slot_inst PySem.F.cmpKind_ne PySem.F.cmpSplit_ne (PySem.F.cmpArgs_ne _ _) PySem.F.cmp_object.hasObject I.at_ I.cls (Y _ _ hC) ?_))))
    unfold Builtin.«object.__ne__»
    refine wpAny_bind (m := slotArgs "__ne__" 1 ⟨[.ref x, .ref y], []⟩) (wpAny_pure ?_)
    dsimp only
    refine wpAny_bind (wpAny_cRoomFor hu ?_)
    refine wpAny_bind (PySem.W.ifBound_K Y I hs hf (wpAny_mono h (fun r s' z => ?_) fun _ _ z => z))
    obtain ⟨b, rfl, qq⟩ := z
    exact wpAny_bind (wpAny_truthy_bool (wpAny_pure (wpAny_pure ⟨_, rfl, qq⟩)))
  unfold richCompare
  simp only [oneThing_ref]
  refine wpAny_holding (wpAny_bind (wpAny_cRoomFor (Nat.lt_of_succ_lt hu) (wpAny_bind (I.type.here (wpAny_bind (J.type.here ?_))))))
  rw [show (Value.ref C != Value.ref C) = false from by simp]
  simp only [Bool.false_eq_true, if_false]
  refine wpAny_bind (wpAny_pure ?_)
  simp only [Bool.false_eq_true, if_false]
  refine wpAny_bind (wpAny_mono try1 (fun r s' z => ?_) fun _ _ z => z)
  obtain ⟨v, rfl, qq⟩ := z
  exact wpAny_pure qq
theorem op_ownNe (F : ∀ p ∈ T, OwnD X.prog X.w X.K X.mg X.base G "__eq__" k p) (N : ∀ p ∈ T, NeD X.K (G.T p.1)) (hr : Room (k + 1) X.A) : OpR X (compareOp .NotEq) (rOwn G T true) := by
  rintro pins s σ H x y u v Q I rx ry ⟨p, hp, a, dx, fs, b, dy, gs, rfl, ha, rfl, hb, q⟩
  cases rx
  cases ry
  obtain ⟨f, fd, ps, FF, hs, hf, bi⟩ := (F p hp).ex
  obtain ⟨mA, J, _⟩ := ins_get I.hok ha
  obtain ⟨mB, J2, _⟩ := ins_get I.hok hb
  obtain ⟨od, J, _⟩ := J.look
  obtain ⟨od2, J2, _⟩ := J2.look
  show wpAny (model X.prog X.w) X.A (richCompare .NotEq (.ref a) (.ref b)) (EP X pins σ Q) X.xe s
  refine ne_inst (hr.in1.units0) I.kIn J J2 (N p hp) hs hf ?_
  refine wpAny_call (codeAny_mono (code_fn FF hr.in1 I.env0.in1 I.kIn bi (us := [.ref a, .ref b]) (vs := [.ref a, .ref b]) (.cons rfl (.cons rfl .nil)) q) fun end_ s' z => ?_)
  cases end_ with
  | error x => exact (cx_no z).elim
  | ok fl =>
    cases fl with
    | ret u =>
      obtain ⟨v, H', I3, rv, kk, rfl, z3⟩ := I.after z
      cases rv
      exact ⟨kk, rfl, .bl (!kk), H', I3, rfl, by simpa using z3⟩
    | _ => exact z.elim
end
/-! ### as data -/
def ownB (neg : Bool) : Out M → Out D
  | .ok (.val (.bl b)) a => .ok (.bl (b != neg)) a
  | _ => .stuck
def isO (c : Nat) : D → Bool
  | .obj c' _ _ => decide (c' = c)
  | _ => false
def opW (T : List (Nat × FM)) (neg : Bool) (h : D → D → Option D) (a : Sto) (d e : D) : Out D := match d with
  | .obj c _ _ => (match T.lookup c with
    | some g => if isO c e = true then ownB neg (g [d, e] a) else .stuck
    | none => .stuck)
  | _ => (match h d e with
    | some r => .ok r a
    | none => .stuck)
def evW (T : List (Nat × FM)) (neg : Bool) (h : D → D → Option D) (fa fb : EV) : EV := fun δ a => (fa δ a).bind fun d a1 => (fb δ a1).bind fun e a2 => opW T neg h a2 d e
theorem mem_look {α : Type} {c : Nat} {g : α} : ∀ {T : List (Nat × α)}, T.lookup c = some g → (c, g) ∈ T
  | [], h => by cases h
  | (c', g') :: T, h => by
    rw [List.lookup_cons] at h
    cases e : c == c' with
    | true =>
      rw [e] at h
      cases h
      rw [eq_of_beq e]
      exact List.mem_cons_self
    | false =>
      rw [e] at h
      exact List.mem_cons_of_mem _ (mem_look h)
section
variable {X : Cx} {G : Gx} {W : WX} {k : Nat} {T : List (Nat × FM)} {e1 e2 : Expr} {pos : Pos}
theorem VOk.evW {ta tb : TE} {fa fb : EV} {r0 : R2} {h : D → D → Option D} {neg : Bool} (o : Op2 G r0 h) (ha : VOk G W ta fa) (hb : VOk G W tb fb) : VOk G W (tOp (fun x y H Q => r0 x y H Q ∨ rOwn G T neg x y H Q) ta tb) (evW T neg h fa fb) := fun ρ R B H σ δ a Q w sl q =>
  ha ρ R B H σ δ a _ w sl (Fin.imp (Fin.seq q) fun d1 a1 B1 H1 w1 s1 k1 q1 x r1 =>
    hb ρ R B1 H1 σ δ a1 _ w1 (sl.mono s1) (Fin.imp (Fin.seq q1) fun d2 a2 B2 H2 w2 s2 k2 q2 y r2 => by
      have r1' := Rep.mono s2 d1 x r1
      have plain : (∀ c ns l, d1 ≠ .obj c ns l) → Fin G W ρ R B2 H2 σ (match h d1 d2 with | some r => Out.ok r a2 | none => Out.stuck) (fun d _ B' H' => ∀ v, Rep G B' ρ d v → Q v H') → (r0 x y H2 Q ∨ rOwn G T neg x y H2 Q) := fun _ z => by
        cases c : h d1 d2 with
        | none =>
          rw [c] at z
          exact z.elim
        | some d =>
          rw [c] at z
          exact .inl (o B2 H2 ρ d1 d2 d x y Q w2.ex r1' r2 c (z.here w2))
      cases d1 with
      | obj c ns l =>
        unfold opW at q2
        dsimp only at q2
        cases c1 : T.lookup c with
        | none =>
          rw [c1] at q2
          exact q2.elim
        | some g =>
          rw [c1] at q2
          dsimp only at q2
          by_cases c2 : isO c d2 = true
          · rw [if_pos c2] at q2
            cases d2 with
            | obj c' ns' l' =>
              have hc : c' = c := of_decide_eq_true c2
              subst hc
              obtain ⟨p, dx, xs, rfl, g1, g2, g3⟩ := id r1'
              obtain ⟨p', dx', xs', rfl, g1', g2', g3'⟩ := id r2
              refine .inr ⟨(c', g), mem_look c1, p, dx, _, p', dx', _, rfl, w2.ex _ _ g1, rfl, w2.ex _ _ g1', rfl, ρ, R, B2, _, a2, w2, Reps.cons r1' (Reps.cons r2 Reps.nil), ?_⟩
              show FinM G _ ρ R B2 H2 [] (g [.obj c' ns l, .obj c' ns' l'] a2) _
              cases co : g [.obj c' ns l, .obj c' ns' l'] a2 with
              | stuck =>
                rw [co] at q2
                exact q2.elim
              | exc _ _ _ _ =>
                rw [co] at q2
                exact q2.elim
              | ok m a3 =>
                rw [co] at q2
                cases m with
                | val d =>
                  cases d with
                  | bl b =>
                    intro B' H' v F w' sm kp om
                    obtain ⟨rfl, ev⟩ := om
                    exact ⟨b, ev, q2 B' H' w' sm kp _ rfl⟩
                  | _ => exact q2.elim
                | _ => exact q2.elim
            | _ => cases c2
          · rw [if_neg c2] at q2
            exact q2.elim
      | _ => exact plain (fun _ _ _ z => nomatch z) q2))
theorem orOp {op : CmpOp} {r r' : R2} (h : OpR X (compareOp op) r) (h' : OpR X (compareOp op) r') : OpR X (compareOp op) (fun x y H Q => r x y H Q ∨ r' x y H Q) := fun pins s σ H x y v u Q I rx ry hq =>
  hq.elim (h pins s σ H x y v u Q I rx ry) (h' pins s σ H x y v u Q I rx ry)
theorem dv_cmpW {op : CmpOp} {m : Str} {r0 : R2} {h : D → D → Option D} {fa fb : EV} (ho : OpR X (compareOp op) r0) (o : Op2 G r0 h) (F : ∀ p ∈ T, OwnD X.prog X.w X.K X.mg X.base G m k p) (hr : Room k X.A) (ha : DV X G W e1 fa) (hb : DV X G W e2 fb)
    (hm : (cmpInfo op).2.1 = m) (hop : ∀ a b, compareOp op a b = richCompare op a b) (hi : behindInMarks op e2 = false) : DV X G W (.Compare e1 [op] [e2] pos) (evW T false h fa fb) := by
  obtain ⟨ta, pa, sa⟩ := ha.ex
  obtain ⟨tb, pb, sb⟩ := hb.ex
  exact ⟨_, pe_cmpR (orOp ho (op_own F hr hm hop)) pa pb hi, VOk.evW o sa sb⟩
theorem dv_cmpNe {r0 : R2} {h : D → D → Option D} {fa fb : EV} (ho : OpR X (compareOp .NotEq) r0) (o : Op2 G r0 h) (F : ∀ p ∈ T, OwnD X.prog X.w X.K X.mg X.base G "__eq__" k p) (N : ∀ p ∈ T, NeD X.K (G.T p.1)) (hr : Room (k + 1) X.A) (ha : DV X G W e1 fa) (hb : DV X G W e2 fb)
    (hi : behindInMarks .NotEq e2 = false) : DV X G W (.Compare e1 [.NotEq] [e2] pos) (evW T true h fa fb) := by
  obtain ⟨ta, pa, sa⟩ := ha.ex
  obtain ⟨tb, pb, sb⟩ := hb.ex
  exact ⟨_, pe_cmpR (orOp ho (op_ownNe F N hr)) pa pb hi, VOk.evW o sa sb⟩
theorem dt_cmpW {op : CmpOp} {m : Str} {r0 : R2} {h : D → D → Option D} {fa fb : EV} (ho : OpR X (compareOp op) r0) (o : Op2 G r0 h) (F : ∀ p ∈ T, OwnD X.prog X.w X.K X.mg X.base G m k p) (hr : Room k X.A) (ha : DV X G W e1 fa) (hb : DV X G W e2 fb)
    (hm : (cmpInfo op).2.1 = m) (hop : ∀ a b, compareOp op a b = richCompare op a b) (hi : behindInMarks op e2 = false) : DT X G W (.Compare e1 [op] [e2] pos) (tV (evW T false h fa fb)) := by
  obtain ⟨ta, pa, sa⟩ := ha.ex
  obtain ⟨tb, pb, sb⟩ := hb.ex
  exact ⟨_, pt_cmpR (orOp ho (op_own F hr hm hop)) pa pb hi, TOk.ofV (VOk.evW o sa sb)⟩
theorem dt_cmpNe {r0 : R2} {h : D → D → Option D} {fa fb : EV} (ho : OpR X (compareOp .NotEq) r0) (o : Op2 G r0 h) (F : ∀ p ∈ T, OwnD X.prog X.w X.K X.mg X.base G "__eq__" k p) (N : ∀ p ∈ T, NeD X.K (G.T p.1)) (hr : Room (k + 1) X.A) (ha : DV X G W e1 fa) (hb : DV X G W e2 fb)
    (hi : behindInMarks .NotEq e2 = false) : DT X G W (.Compare e1 [.NotEq] [e2] pos) (tV (evW T true h fa fb)) := by
  obtain ⟨ta, pa, sa⟩ := ha.ex
  obtain ⟨tb, pb, sb⟩ := hb.ex
  exact ⟨_, pt_cmpR (orOp ho (op_ownNe F N hr)) pa pb hi, TOk.ofV (VOk.evW o sa sb)⟩
/-! ## what is never reached -/
def sStuck : SM := fun _ _ => .stuck
theorem ds_stuck {st : Stmt} : DS X G W st sStuck := ⟨_, ⟨fun _ _ _ _ _ _ h => (h : False).elim⟩, fun _ _ _ _ _ _ _ _ _ _ _ q => q⟩
def eStuck : EV := fun _ _ => .stuck
theorem dv_stuck {e : Expr} : DV X G W e eStuck := ⟨_, ⟨fun _ _ _ _ _ _ h => (h : False).elim⟩, fun _ _ _ _ _ _ _ _ _ _ q => q⟩
/-! ## -x -/
def gNeg : D → Option D
  | .int i => some (.int (-i))
  | _ => none
theorem dv_neg {e : Expr} {f : EV} (h : DV X G W e f) : DV X G W (.UnaryOp .USub e pos) (ev1 gNeg f) := by
  obtain ⟨t, p, s⟩ := h.ex
  refine ⟨_, pe_un un_neg p, fun ρ R B H σ δ a Q w sl q => s ρ R B H σ δ a _ w sl (Fin.imp (Fin.seqo q) fun d a1 B1 H1 w1 s1 k1 q1 x r => ?_)⟩
  obtain ⟨d', e1, q2⟩ := q1
  cases d with
  | int i =>
    cases e1
    exact ⟨i, r, q2 _ rfl⟩
  | _ => cases e1
end
end DL

namespace DL
open PySem PySem.Spec PyProof.Rows L2

/-! ## xs.append(e), xs a list that the def alone has -/
section
variable {G : Gx} {B H : Hp} {ρ R F : List Addr} {a : Sto}
/-- what is owned is written anew -/
theorem Wd.updO (w : Wd G B H ρ a R) {p : Addr} {o : HO} (hp : p ∈ R) : Wd G B (upd H p o) ρ a R := by
  have hb := w.bn p (List.mem_append_right _ hp)
  have hρ : ∀ q ∈ ρ, q ≠ p := fun q hq => (List.nodup_append.mp w.nd).2.2 q hq p hp
  refine ⟨fun q x e => ?_, w.len, fun n q c h1 h2 => (w.sto n q c h1 h2).move (Same.refl _) (upd_ne (hρ q (List.mem_of_getElem? h1))) fun dx g1 g2 g3 => ⟨upd_ne fun z => g3 (z ▸ List.mem_append_right _ hp), g2, g3⟩, w.nd, w.bn, fun q hq => ?_⟩
  · rw [upd_ne fun z => by rw [z, hb] at e; cases e]
    exact w.ex q x e
  · by_cases e : q = p
    · rw [e, upd_same] <;> rfl
    · rw [upd_ne e]
      exact w.has q hq
theorem Owns.snoc {m : M} {v : V} {Fm : List Addr} {ms : List M} {xs : List V} (h : Owns G B H ρ ms xs F) (hm : Own G B H ρ m v Fm) : Owns G B H ρ (ms ++ [m]) (xs ++ [v]) (F ++ Fm) :=
  Owns.append h ⟨v, [], Fm, [], rfl, (List.append_nil _).symm, hm, rfl, rfl⟩
end
def sApp (I : List Nat) (i : Nat) (f : EM) : SM := fun δ a => match δ[i]? with
  | some (some (.lst _)) => (lift I f δ a).seq fun m δ1 a1 => (match δ1[i]? with
    | some (some (.lst ms)) => if ms.length < 100000 then .nx (δ1.set i (some (.lst (ms ++ [m])))) a1 else .stuck
    | _ => .stuck)
  | _ => .stuck
section
variable {X : Cx} {G : Gx} {W : WX}
theorem ds_append {e : Expr} {x : Str} {i : Nat} {f : EM} {p1 p2 p3 pos : Pos} (I : List Nat) (he : DM X G W e f) (hN : X.N[i]? = some x) (hv : Vis X.env.scope x)
    (hd : NotDbg x := by decide) (hcd : (x == ("__classdict__" : Str)) = false := by decide)
    (hbase : NoSup X (.Name x p1) "append" := by rfl) (hfew : FewA X p3 [e] := by rfl) (hline : OneRow p2 p3 := by rfl) (hs : HeadP X e [] := by rfl) (hpl : RestP X p3 [] := by rfl)
    (hsw : swapsWith (.Call (.Attribute (.Name x p1) "append" p2) [e] [] p3) none pos.line X.env = pure false := by rfl) :
    DS X G W (.Expr (.Call (.Attribute (.Name x p1) "append" p2) [e] [] p3) pos) (sApp I i f) := by
  obtain ⟨te, pe, se⟩ := he.ex
  refine ⟨_, ps_expr (pe_bm PySem.F.plainAttrs_list PySem.F.slot_list_append PySem.F.type_list_append mt_append (pe_var hN hv hd hcd) (pa_cons pe pa_nil hs) hbase hfew hline hs hpl) hsw, fun ρ R B H σ δ a F Z w os q => ?_⟩
  unfold sApp at q
  cases c0 : δ[i]? with
  | none =>
    rw [c0] at q
    exact q.elim
  | some o0 =>
    rw [c0] at q
    cases o0 with
    | none => exact q.elim
    | some m0 =>
      cases m0 with
      | lst ms0 =>
        obtain ⟨v0, Fi0, Fr0, _, h0, ⟨p, xs0, _, rfl, hp0, _, _⟩, _⟩ := OwnS.take os c0
        refine ⟨.ref p, h0, .inl ⟨rfl, _, SqL.of hp0⟩, ?_⟩
        refine lift_ok se w os (Ox.fin q fun m δ1 a1 B1 H1 v F1 Fa w1 om os1 q1 => ?_)
        cases c1 : δ1[i]? with
        | none =>
          rw [c1] at q1
          exact q1.elim
        | some o1 =>
          rw [c1] at q1
          cases o1 with
          | none => exact q1.elim
          | some m1 =>
            cases m1 with
            | lst ms =>
              dsimp only at q1
              by_cases c2 : ms.length < 100000
              · rw [if_pos c2] at q1
                obtain ⟨v1, Fi, Fr, pf, h1, ⟨p', xs, F', rfl, hp, rfl, oms⟩, h3⟩ := OwnS.take os1 c1
                have ep : p' = p := by
                  rw [h0] at h1
                  cases h1
                  rfl
                subst ep
                have hl : xs.length < sizeLine := by
                  rw [sizeLine_eq, ← oms.len]
                  omega
                refine ⟨p', xs, v, rfl, rfl, hp, hl, ?_⟩
                -- the addresses
                have pq : (F1 ++ (Fa ++ R)).Perm ((p' :: (F' ++ F1)) ++ (Fr ++ R)) := by
                  have z1 : (F1 ++ (Fa ++ R)).Perm (F1 ++ (((p' :: F') ++ Fr) ++ R)) := List.Perm.append_left F1 (List.Perm.append_right R pf)
                  refine z1.trans ?_
                  have z2 : (F1 ++ (((p' :: F') ++ Fr) ++ R)).Perm ((p' :: F') ++ (F1 ++ (Fr ++ R))) := by
                    have z3 : (F1 ++ (p' :: F')).Perm ((p' :: F') ++ F1) := List.perm_append_comm
                    have z4 := List.Perm.append_right (Fr ++ R) z3
                    simpa only [List.append_assoc] using z4
                  refine z2.trans ?_
                  simp only [List.cons_append, List.append_assoc]
                  exact List.Perm.refl _
                have w2 := w1.perm pq
                have nd2 := (List.nodup_append.mp w2.nd).2.1
                have nd3 : p' ∉ (F' ++ F1) ++ (Fr ++ R) := (List.nodup_cons.mp nd2).1
                have ne : ∀ q, q ∈ (F' ++ F1) ++ (Fr ++ R) → q ≠ p' := fun q hq z => nd3 (z ▸ hq)
                have w3 : Wd G B1 (upd H1 p' (.lst (xs ++ [v]))) ρ a1 ((p' :: (F' ++ F1)) ++ (Fr ++ R)) := w2.updO List.mem_cons_self
                have own2 : Own G B1 (upd H1 p' (.lst (xs ++ [v]))) ρ (.lst (ms ++ [m])) (.ref p') (p' :: (F' ++ F1)) :=
                  ⟨p', xs ++ [v], F' ++ F1, rfl, upd_same, rfl, Owns.snoc (Owns.mono (Same.refl _) ms xs F' (fun q hq => upd_ne (ne q (List.mem_append_left _ (List.mem_append_left _ hq)))) oms)
                    (Own.mono (Same.refl _) m v F1 (fun q hq => upd_ne (ne q (List.mem_append_left _ (List.mem_append_right _ hq)))) om)⟩
                have h3' := OwnS.mono (H' := upd H1 p' (.lst (xs ++ [v]))) (Same.refl B1) _ _ _ (fun q hq => upd_ne (ne q (List.mem_append_right _ (List.mem_append_left _ hq)))) h3
                have hi : i < (δ1.set i none).length := by
                  rw [List.length_set]
                  exact (List.getElem?_eq_some_iff.mp c1).1
                obtain ⟨Fa2, Fb2, F3, y1, y3, h6⟩ := OwnS.set own2 h3' hi
                have es : σ.set i (some (.ref p')) = σ := by
                  obtain ⟨hlt, e⟩ := List.getElem?_eq_some_iff.mp h1
                  rw [← e]
                  exact List.set_getElem_self hlt
                rw [List.set_set, es] at h6
                have w4 : Wd G B1 (upd H1 p' (.lst (xs ++ [v]))) ρ a1 (F3 ++ R) := by
                  have z1 : ((p' :: (F' ++ F1)) ++ (Fr ++ R)).Perm (Fa2 ++ (F3 ++ R)) := by
                    have z2 : ((p' :: (F' ++ F1)) ++ (Fr ++ R)).Perm ((p' :: (F' ++ F1)) ++ ((Fa2 ++ Fb2) ++ R)) := List.Perm.append_left _ (List.Perm.append_right R y1)
                    refine z2.trans ?_
                    have z3 : (F3 ++ R).Perm ((p' :: (F' ++ F1)) ++ (Fb2 ++ R)) := by
                      have z4 := List.Perm.append_right R y3
                      simpa only [List.append_assoc] using z4
                    refine List.Perm.trans ?_ (List.Perm.append_left Fa2 z3.symm)
                    have z5 : ((p' :: (F' ++ F1)) ++ Fa2).Perm (Fa2 ++ (p' :: (F' ++ F1))) := List.perm_append_comm
                    have z6 := List.Perm.append_right (Fb2 ++ R) z5
                    simpa only [List.append_assoc] using z6
                  exact (w3.perm z1).drop
                exact q1 B1 _ σ F3 w4 (Same.refl _) (fun q hq => upd_ne (ne q (List.mem_append_right _ (List.mem_append_right _ hq)))) h6
              · rw [if_neg c2] at q1
                exact q1.elim
            | _ => exact q1.elim
      | _ => exact q.elim
end
/-! ## comparisons in short -/
section
variable {X : Cx} {G : Gx} {W : WX} {k j : Nat} {T : List (Nat × FM)} {e1 e2 : Expr} {pos : Pos} {fa fb : EV}
theorem dv_eqW (hK : G.K = X.K) (F : ∀ p ∈ T, OwnD X.prog X.w X.K X.mg X.base G "__eq__" k p) (hr : Room k X.A) (ha : DV X G W e1 fa) (hb : DV X G W e2 fb) : DV X G W (.Compare e1 [.Eq] [e2] pos) (evW T false dEq fa fb) :=
  dv_cmpW (op_eqA hr.units) (by have z := o_eq (G := G); rw [hK] at z; exact z) F hr ha hb rfl (fun _ _ => rfl) (nomark _)
theorem dt_eqW (hK : G.K = X.K) (F : ∀ p ∈ T, OwnD X.prog X.w X.K X.mg X.base G "__eq__" k p) (hr : Room k X.A) (ha : DV X G W e1 fa) (hb : DV X G W e2 fb) : DT X G W (.Compare e1 [.Eq] [e2] pos) (tV (evW T false dEq fa fb)) :=
  dt_cmpW (op_eqA hr.units) (by have z := o_eq (G := G); rw [hK] at z; exact z) F hr ha hb rfl (fun _ _ => rfl) (nomark _)
theorem dv_neW (hK : G.K = X.K) (F : ∀ p ∈ T, OwnD X.prog X.w X.K X.mg X.base G "__eq__" k p) (N : ∀ p ∈ T, NeD X.K (G.T p.1)) (hr : Room (k + 1) X.A) (ha : DV X G W e1 fa) (hb : DV X G W e2 fb) : DV X G W (.Compare e1 [.NotEq] [e2] pos) (evW T true dNe fa fb) :=
  dv_cmpNe (op_neA hr.units) (by have z := o_ne (G := G); rw [hK] at z; exact z) F N hr ha hb (nomark _)
theorem dt_neW (hK : G.K = X.K) (F : ∀ p ∈ T, OwnD X.prog X.w X.K X.mg X.base G "__eq__" k p) (N : ∀ p ∈ T, NeD X.K (G.T p.1)) (hr : Room (k + 1) X.A) (ha : DV X G W e1 fa) (hb : DV X G W e2 fb) : DT X G W (.Compare e1 [.NotEq] [e2] pos) (tV (evW T true dNe fa fb)) :=
  dt_cmpNe (op_neA hr.units) (by have z := o_ne (G := G); rw [hK] at z; exact z) F N hr ha hb (nomark _)
theorem dv_leW (F : ∀ p ∈ T, OwnD X.prog X.w X.K X.mg X.base G "__le__" k p) (hr : Room k X.A) (ha : DV X G W e1 fa) (hb : DV X G W e2 fb) : DV X G W (.Compare e1 [.LtE] [e2] pos) (evW T false (dI gLe) fa fb) :=
  dv_cmpW op_le o_le F hr ha hb rfl (fun _ _ => rfl) (nomark _)
theorem dt_leW (F : ∀ p ∈ T, OwnD X.prog X.w X.K X.mg X.base G "__le__" k p) (hr : Room k X.A) (ha : DV X G W e1 fa) (hb : DV X G W e2 fb) : DT X G W (.Compare e1 [.LtE] [e2] pos) (tV (evW T false (dI gLe) fa fb)) :=
  dt_cmpW op_le o_le F hr ha hb rfl (fun _ _ => rfl) (nomark _)
/-- from the parts that a def's proof has -/
theorem ownD_mono {P : Program} {w : World} {K : PySem.W.Frag} {mg : Str → Option Value} {base : Heap} {m : Str} {p : Nat × FM} (h : OwnD P w K mg base G m k p) (hk : k ≤ j) : OwnD P w K mg base G m j p := by
  obtain ⟨f, fd, ps, F, r⟩ := h.ex
  exact ⟨f, fd, ps, F.mono hk, r⟩
end
end DL

namespace DL
open PySem PySem.Spec PyProof.Rows L2

/-! ## [e for x in xs if t] -/
/-- no exception leaves -/
abbrev W0 : WX := fun _ _ _ _ => False
section
variable (G : Gx) (W : WX)
/-- what a datum's computing asks, whatever the term -/
def canM (f : EM) : TE := fun σ H Q => ∃ (ρ R : List Addr) (B : Hp) (δ : Sw) (a : Sto), Wd G B H ρ a R ∧ Sls G B ρ δ σ ∧ FinM G W ρ R B H σ (f δ a) (fun _ _ _ H' v _ => Q v H')
def canT (f : ET) : TT := fun σ H Q => ∃ (ρ R : List Addr) (B : Hp) (δ : Sw) (a : Sto), Wd G B H ρ a R ∧ Sls G B ρ δ σ ∧ Fin G W ρ R B H σ (f δ a) (fun b _ _ H' => Q b H')
def canG (vs : List Nat) (g : D → Sw → Option Sw) : TG := fun v σ H Q => ∃ (ρ R : List Addr) (B : Hp) (δ δ' : Sw) (a : Sto) (d : D), Wd G B H ρ a R ∧ Sls G B ρ δ σ ∧ Rep G B ρ d v ∧ g d δ = some δ' ∧ ∀ σ', Sls G B ρ δ' σ' → wipe σ' vs = wipe σ vs → Q σ' H
def GxOk (vs : List Nat) (t : TG) (g : D → Sw → Option Sw) : Prop := ∀ (ρ R : List Addr) (B H : Hp) (σ : L2.St) (δ δ' : Sw) (a : Sto) (d : D) (v : V) (Q : L2.St → Hp → Prop), Wd G B H ρ a R → Sls G B ρ δ σ → Rep G B ρ d v → g d δ = some δ' →
  (∀ σ', Sls G B ρ δ' σ' → wipe σ' vs = wipe σ vs → Q σ' H) → t v σ H Q
end
/-- a target in a comprehension -/
structure DGx (X : Cx) (G : Gx) (vs : List Nat) (tg : Expr) (g : D → Sw → Option Sw) : Prop where
  ex : ∃ t, PG X tg t ∧ GxOk G vs t g
/-- its tests -/
structure DPs (X : Cx) (G : Gx) (W : WX) (ifs : List Expr) (f : ET) : Prop where
  ex : ∃ t, PTs X ifs t ∧ TOk G W t f
section
variable {X : Cx} {G : Gx} {W : WX}
theorem can_m {e : Expr} {f : EM} (h : DM X G W e f) : PE X e (canM G W f) := by
  obtain ⟨t, p, s⟩ := h.ex
  exact ⟨fun pins s0 σ H Q I ⟨ρ, R, B, δ, a, w, sl, q⟩ => p.run pins s0 σ H Q I (s ρ R B H σ δ a Q w sl q)⟩
theorem can_t {ifs : List Expr} {f : ET} (h : DPs X G W ifs f) : PTs X ifs (canT G W f) := by
  obtain ⟨t, p, s⟩ := h.ex
  exact ⟨fun pins s0 σ H Q I ⟨ρ, R, B, δ, a, w, sl, q⟩ => p.run pins s0 σ H Q I (s ρ R B H σ δ a Q w sl q)⟩
theorem can_g {vs : List Nat} {tg : Expr} {g : D → Sw → Option Sw} (h : DGx X G vs tg g) : PG X tg (canG G vs g) := by
  obtain ⟨t, p, s⟩ := h.ex
  exact ⟨fun pins s0 σ H v u Q I r ⟨ρ, R, B, δ, δ', a, d, w, sl, rd, e, q⟩ => p.run pins s0 σ H v u Q I r (s ρ R B H σ δ δ' a d v Q w sl rd e q)⟩
def tT : ET := fun _ a => .ok true a
theorem dps_nil : DPs X G W [] tT := ⟨tYes, pts_nil, fun ρ R B H σ δ a Q w sl q => q.here w⟩
theorem dps_one {c : Expr} {f : ET} (h : DT X G W c f) : DPs X G W [c] f := by
  obtain ⟨t, p, s⟩ := h.ex
  exact ⟨t, pts_one p, s⟩
/-! ### the block's own slots -/
theorem wipe_get (σ : L2.St) (n : Nat) : ∀ vs : List Nat, (wipe σ vs)[n]? = if n ∈ vs then (σ[n]?).map (fun _ => none) else σ[n]?
  | [] => by simp [wipe]
  | v :: vs => by
    have ih := wipe_get σ n vs
    have hl := wipe_length σ vs
    unfold wipe
    rw [List.getElem?_set, hl]
    by_cases e : v = n
    · subst e
      rw [if_pos rfl, if_pos List.mem_cons_self]
      by_cases l : v < σ.length
      · rw [if_pos l, List.getElem?_eq_getElem l]
        rfl
      · rw [if_neg l, List.getElem?_eq_none (by omega)]
        rfl
    · rw [if_neg e, ih]
      have m : n ∈ v :: vs ↔ n ∈ vs := by
        rw [List.mem_cons]
        exact ⟨fun z => z.resolve_left fun y => e y.symm, .inr⟩
      by_cases c : n ∈ vs
      · rw [if_pos c, if_pos (m.mpr c)]
      · rw [if_neg c, if_neg fun z => c (m.mp z)]
theorem wipe_wipe (σ : L2.St) (vs : List Nat) : wipe (wipe σ vs) vs = wipe σ vs := by
  refine List.ext_getElem? fun n => ?_
  rw [wipe_get, wipe_get]
  by_cases c : n ∈ vs
  · rw [if_pos c, if_pos c, Option.map_map]
    rfl
  · rw [if_neg c, if_neg c]
theorem wipe_set {σ : L2.St} {vs : List Nat} {i : Nat} {o : Option V} (h : i ∈ vs) : wipe (σ.set i o) vs = wipe σ vs := by
  refine List.ext_getElem? fun n => ?_
  rw [wipe_get, wipe_get]
  by_cases c : n ∈ vs
  · rw [if_pos c, if_pos c, List.getElem?_set]
    by_cases e : i = n
    · subst e
      rw [if_pos rfl]
      by_cases l : i < σ.length
      · rw [if_pos l, List.getElem?_eq_getElem l]
        rfl
      · rw [if_neg l, List.getElem?_eq_none (by omega)]
    · rw [if_neg e]
  · rw [if_neg c, if_neg c, List.getElem?_set_ne (fun z : i = n => c (z ▸ h))]
def wipeD (δ : Sw) : List Nat → Sw
  | [] => δ
  | v :: vs => (wipeD δ vs).set v none
theorem Sls.wipe {B : Hp} {ρ : List Addr} {δ : Sw} {σ : L2.St} (h : Sls G B ρ δ σ) : ∀ vs, Sls G B ρ (wipeD δ vs) (L2.wipe σ vs)
  | [] => h
  | v :: vs => Sls.none (Sls.wipe h vs)
def gNm (i : Nat) (d : D) (δ : Sw) : Option Sw := some (δ.set i (some d))
theorem dgx_name {i : Nat} {x : Str} {pos : Pos} {vs : List Nat} (hN : X.N.Nodup) (hi : X.N[i]? = some x) (hx : Loc X.env.scope x) (hv : i ∈ vs) (hf : X.fn x = true ∨ X.env.scope.names.lookup x = some .local := by first | exact .inl rfl | exact .inr rfl) : DGx X G vs (.Name x pos) (gNm i) :=
  ⟨gName i, pg_name hN hi hx hf, fun ρ R B H σ δ δ' a d v Q w sl r e q => by
    cases e
    exact q _ (sl.set r) (wipe_set hv)⟩
/-! ### the list that is made -/
def lcGo (gt : D → Sw → Option Sw) (ft : ET) (fe : EM) (δ : Sw) : List D → List M → Sto → Out (List M)
  | [], acc, a => .ok acc a
  | d :: ds, acc, a => match gt d δ with
    | none => .stuck
    | some δ1 => (match ft δ1 a with
      | .ok true a1 => (match fe δ1 a1 with
        | .ok m a2 => if acc.length < 100000 then lcGo gt ft fe δ ds (acc ++ [m]) a2 else .stuck
        | _ => .stuck)
      | .ok false a1 => lcGo gt ft fe δ ds acc a1
      | _ => .stuck)
def lcM (vs : List Nat) (it : EI) (gt : D → Sw → Option Sw) (ft : ET) (fe : EM) : EM := fun δ a => (it δ a).bind fun ds a1 => (lcGo gt ft fe (wipeD δ vs) ds [] a1).map M.lst
theorem MOk.lc {wi : TI} {it : EI} {fr : Bool} {gt : D → Sw → Option Sw} {ft : ET} {fe : EM} {vs : List Nat} (si : IOk G W fr wi it) : MOk G W (tLc wi (canG G vs gt) (canT G W0 ft) (canM G W0 fe) vs) (lcM vs it gt ft fe) := fun ρ R B H σ δ a Q w sl q =>
  si ρ R B H σ δ a _ w sl (Fin.imp (Fin.seqM q) fun ds a1 B1 H1 w1 s1 k1 q1 J sv D hD => by
    have sv1 : Srv G B1 ρ J ds := by
      cases fr with
      | true => exact Srv.any sv
      | false => exact sv
    have slw := (sl.mono s1).wipe vs
    refine ⟨fun i m H' => m = ds.length - i ∧ i ≤ ds.length ∧ ∃ (B' : Hp) (a' : Sto) (acc : List M) (xs : List V) (F : List Addr), Same B1 B' ∧ Wd G B' H' ρ a' ((D :: F) ++ R) ∧ H' D = some (.lst xs) ∧ Owns G B' H' ρ acc xs F ∧
      FinM G W ρ R B' H' σ ((lcGo gt ft fe (wipeD δ vs) (ds.drop i) acc a').map M.lst) (fun _ _ _ H' v _ => Q v H'), ⟨ds.length, rfl, Nat.zero_le _, B1, a1, [], [], [], Same.refl _, w1.newOwn hD, upd_same, ⟨rfl, rfl⟩, FinM.base q1 (Same.refl _) (kp_new w1 hD)⟩, ?_⟩
    rintro i m H' ⟨rfl, hi, B', a', acc, xs, F, sm, w2, hx, ow, q2⟩
    obtain ⟨g1, g2, g3⟩ := sv1 B' H' a' _ sm w2
    by_cases hlt : i < ds.length
    · refine .inr ⟨g1 i hlt, fun H2 => ∃ (B2 : Hp) (a2 : Sto) (acc : List M) (xs : List V) (F : List Addr), Same B1 B2 ∧ Wd G B2 H2 ρ a2 ((D :: F) ++ R) ∧ H2 D = some (.lst xs) ∧ Owns G B2 H2 ρ acc xs F ∧
        FinM G W ρ R B2 H2 σ ((lcGo gt ft fe (wipeD δ vs) (ds.drop (i + 1)) acc a2).map M.lst) (fun _ _ _ H' v _ => Q v H'), fun H2 z => ⟨ds.length - (i + 1), by omega, rfl, hlt, z⟩, fun x H2 y => ?_⟩
      obtain ⟨B2, w3, sm2, kp2, rd⟩ := g3 i ds[i] (List.getElem?_eq_getElem hlt) x H2 y
      rw [List.drop_eq_getElem_cons hlt] at q2
      unfold lcGo at q2
      cases cg : gt ds[i] (wipeD δ vs) with
      | none =>
        rw [cg] at q2
        exact q2.elim
      | some δ1 =>
        rw [cg] at q2
        dsimp only at q2
        have hD2 : H2 D = some (.lst xs) := (kp2 D List.mem_cons_self).trans hx
        have kR : ∀ {Ha Hb : Hp}, Kp ((D :: F) ++ R) Ha Hb → Kp R Ha Hb := fun z p hp => z p (List.mem_append_right _ hp)
        refine ⟨ρ, _, B2, wipeD δ vs, δ1, a', ds[i], w3, slw.mono (sm.trans sm2), rd, cg, fun σ2 sl2 hw => ⟨hw.trans (wipe_wipe σ vs), ρ, _, B2, δ1, a', w3, sl2, ?_⟩⟩
        cases ct : ft δ1 a' with
        | stuck =>
          rw [ct] at q2
          exact q2.elim
        | exc _ _ _ _ =>
          rw [ct] at q2
          exact q2.elim
        | ok b a3 =>
          rw [ct] at q2
          intro B3 H3 w4 sm3 kp3
          cases b with
          | false =>
            rw [if_neg (by decide)]
            refine ⟨B3, a3, acc, xs, F, (sm.trans sm2).trans sm3, w4, (kp3 D List.mem_cons_self).trans hD2, Owns.mono (sm2.trans sm3) acc xs F (fun p hp => ?_) ow, FinM.base q2 (sm2.trans sm3) ((kR kp2).trans (kR kp3))⟩
            have hp' : p ∈ (D :: F) ++ R := List.mem_append_left _ (List.mem_cons_of_mem _ hp)
            exact (kp3 p hp').trans (kp2 p hp')
          | true =>
            rw [if_pos rfl]
            dsimp only at q2
            refine ⟨ρ, _, B3, δ1, a3, w4, sl2.mono sm3, ?_⟩
            cases ce : fe δ1 a3 with
            | stuck =>
              rw [ce] at q2
              exact q2.elim
            | exc _ _ _ _ =>
              rw [ce] at q2
              exact q2.elim
            | ok m a4 =>
              rw [ce] at q2
              intro B4 H4 v F4 w5 sm4 kp4 om
              dsimp only at q2
              by_cases hz : acc.length < 100000
              · rw [if_pos hz] at q2
                have hD4 : H4 D = some (.lst xs) := (kp4 D List.mem_cons_self).trans ((kp3 D List.mem_cons_self).trans hD2)
                refine ⟨xs, hD4, by rw [sizeLine_eq, ← ow.len]; omega, ?_⟩
                have pq : (F4 ++ ((D :: F) ++ R)).Perm ((D :: (F ++ F4)) ++ R) := by
                  have z1 : (F4 ++ (D :: F)).Perm ((D :: F) ++ F4) := List.perm_append_comm
                  have z2 := List.Perm.append_right R z1
                  simpa only [List.append_assoc, List.cons_append] using z2
                have w6 := w5.perm pq
                have nD : D ∉ (F ++ F4) ++ R := (List.nodup_cons.mp (List.nodup_append.mp w6.nd).2.1).1
                have ne : ∀ p, p ∈ (F ++ F4) ++ R → p ≠ D := fun p hp z => nD (z ▸ hp)
                have back : ∀ p, p ∈ (D :: F) ++ R → H4 p = H' p := fun p hp => (kp4 p hp).trans ((kp3 p hp).trans (kp2 p hp))
                refine ⟨B4, a4, acc ++ [m], xs ++ [v], F ++ F4, ((sm.trans sm2).trans sm3).trans sm4, w6.updO List.mem_cons_self, upd_same, Owns.snoc (Owns.mono ((sm2.trans sm3).trans sm4) acc xs F (fun p hp => ?_) ow) (Own.mono (Same.refl _) m v F4 (fun p hp => upd_ne (ne p (List.mem_append_left _ (List.mem_append_right _ hp)))) om), FinM.base q2 ((sm2.trans sm3).trans sm4) fun p hp => ?_⟩
                · rw [upd_ne (ne p (List.mem_append_left _ (List.mem_append_left _ hp)))]
                  exact back p (List.mem_append_left _ (List.mem_cons_of_mem _ hp))
                · rw [upd_ne (ne p (List.mem_append_right _ hp))]
                  exact back p (List.mem_append_right _ hp)
              · rw [if_neg hz] at q2
                exact q2.elim
    · have e : i = ds.length := by omega
      subst e
      refine .inl ⟨g2, ?_⟩
      rw [List.drop_length] at q2
      exact q2 B' H' (.ref D) (D :: F) w2 (Same.refl _) Kp.refl ⟨D, xs, F, rfl, hx, rfl, ow⟩)
theorem dm_lc {elt tg iter : Expr} {ifs : List Expr} {scope : Scope} {own : List (Str × Nat)} {pos : Pos} {it : EI} {fr : Bool} {gt : D → Sw → Option Sw} {ft : ET} {fe : EM} (hc : X.calm = true) (hN : X.N.Nodup) (hi : DI X G W tg iter fr it) (ok : BlkOk X.N X.env.scope scope own)
    (hg : ∀ (s : Shared) (H : Hp) (C : Addr) (cl : List (Str × Addr)) (fp : List Addr), DGx (X.blk s H scope (compEnvC scope cl C X.env) fp) G (own.map (·.2)) tg gt)
    (ht : ∀ (s : Shared) (H : Hp) (C : Addr) (cl : List (Str × Addr)) (fp : List Addr), DPs (X.blk s H scope (compEnvC scope cl C X.env) fp) G W0 ifs ft)
    (he : ∀ (s : Shared) (H : Hp) (C : Addr) (cl : List (Str × Addr)) (fp : List Addr), DM (X.blk s H scope (compEnvC scope cl C X.env) fp) G W0 elt fe) (hs : ∀ x, foldedSetIterable iter X.env x = pure x := by intro _; rfl) :
    DM X G W (.ListComp elt [⟨tg, iter, ifs, 0⟩] scope pos) (lcM (own.map (·.2)) it gt ft fe) := by
  obtain ⟨wi, pi, si⟩ := hi.ex
  exact ⟨_, pe_lc hc hN pi ok (fun s H C cl fp => can_g (hg s H C cl fp)) (fun s H C cl fp => can_t (ht s H C cl fp)) (fun s H C cl fp => can_m (he s H C cl fp)) hs, MOk.lc si⟩
end
section
variable {X : Cx} {G : Gx} {W : WX}
/-- y = [..], the list made on the row of y, a local of the def -/
theorem ds_setLc {i : Nat} {y : Str} {py : Pos} {elt tg iter : Expr} {ifs : List Expr} {scope : Scope} {own : List (Str × Nat)} {pos spos : Pos} {it : EI} {fr : Bool} {gt : D → Sw → Option Sw} {ft : ET} {fe : EM} (I : List Nat) (hc : X.calm = true) (hN : X.N.Nodup) (hy : X.N[i]? = some y) (hyl : X.env.scope.names.lookup y = some .local)
    (hsw : swapsWith (.ListComp elt [⟨tg, iter, ifs, 0⟩] scope pos) (some (.Name y py)) spos.line X.env = pure true) (hi : DI X G W tg iter fr it) (ok : BlkOk X.N X.env.scope scope own)
    (hg : ∀ (s : Shared) (H : Hp) (C : Addr) (cl : List (Str × Addr)) (fp : List Addr), DGx (X.blk s H scope (compEnvC scope cl C X.env) fp) G (own.map (·.2)) tg gt)
    (ht : ∀ (s : Shared) (H : Hp) (C : Addr) (cl : List (Str × Addr)) (fp : List Addr), DPs (X.blk s H scope (compEnvC scope cl C X.env) fp) G W0 ifs ft)
    (he : ∀ (s : Shared) (H : Hp) (C : Addr) (cl : List (Str × Addr)) (fp : List Addr), DM (X.blk s H scope (compEnvC scope cl C X.env) fp) G W0 elt fe) (hs : ∀ x, foldedSetIterable iter X.env x = pure x := by intro _; rfl) :
    DS X G W (.Assign [.Name y py] (.ListComp elt [⟨tg, iter, ifs, 0⟩] scope pos) spos) (sSet i I (lcM (own.map (·.2)) it gt ft fe)) := by
  obtain ⟨wi, pi, si⟩ := hi.ex
  exact ⟨_, ps_setLc hc hN hy hyl hsw pi ok (fun s H C cl fp => can_g (hg s H C cl fp)) (fun s H C cl fp => can_t (ht s H C cl fp)) (fun s H C cl fp => can_m (he s H C cl fp)) hs, SOk.set (MOk.lc si)⟩
/-! ## sep.join(..) -/
def strsD : List D → Option (List Str)
  | [] => some []
  | .str s :: r => (strsD r).map fun l => s :: l
  | _ => none
theorem strsD_eq : ∀ {ds : List D} {ys : List Str}, strsD ds = some ys → ds = ys.map D.str
  | [], ys, h => by
    cases h
    rfl
  | .str s :: r, ys, h => by
    have h' : (strsD r).map (fun l => s :: l) = some ys := h
    cases c : strsD r with
    | none =>
      rw [c] at h'
      cases h'
    | some l =>
      rw [c] at h'
      cases h'
      rw [strsD_eq c]
      rfl
  | .non :: r, ys, h => by cases h
  | .bl _ :: r, ys, h => by cases h
  | .int _ :: r, ys, h => by cases h
  | .tup _ :: r, ys, h => by cases h
  | .lst _ :: r, ys, h => by cases h
  | .obj _ _ _ :: r, ys, h => by cases h
  | .exc _ _ _ :: r, ys, h => by cases h
  | .loc _ :: r, ys, h => by cases h
  | .scr _ :: r, ys, h => by cases h
def joinD (s : Str) (ds : List D) : Option D := match strsD ds with
  | some ys => if (ys.map (·.length)).sum + ys.length * s.length ≤ 16777216 then some (.str (Txt.join s ys)) else none
  | none => none
def gJoin (s : Str) : List D → Option D
  | [.lst ds] => joinD s ds
  | [.tup ds] => joinD s ds
  | _ => none
theorem joinD_ok {s : Str} {ds : List D} {d : D} (h : joinD s ds = some d) : ∃ ys, ds = ys.map D.str ∧ (ys.map (·.length)).sum + ys.length * s.length ≤ 16777216 ∧ d = .str (Txt.join s ys) := by
  unfold joinD at h
  cases c : strsD ds with
  | none =>
    rw [c] at h
    cases h
  | some ys =>
    rw [c] at h
    dsimp only at h
    by_cases c2 : (ys.map (·.length)).sum + ys.length * s.length ≤ 16777216
    · rw [if_pos c2] at h
      exact ⟨ys, strsD_eq c, c2, (Option.some.inj h).symm⟩
    · rw [if_neg c2] at h
      cases h
theorem b_join : BmN G (fun x xs H Q => ∃ a p, ∃ ys : List Str, x = .str a ∧ xs = [.ref p] ∧ (SqL G.K H p (ys.map V.str) ∨ SqT G.K H p (ys.map V.str)) ∧ (ys.map (·.length)).sum + ys.length * a.length ≤ 16777216 ∧ Q (.str (Txt.join a ys)) H) gJoin := fun B H ρ s ds d vs Q sm r e q => by
  match ds, e, r with
  | [.lst l], e, r =>
    obtain ⟨ys, rfl, hz, rfl⟩ := joinD_ok e
    obtain ⟨x, rfl, p, xs, rfl, h1, h2⟩ := r.one
    have e2 := Reps.strs.mp h2
    subst e2
    exact ⟨s, p, ys, rfl, rfl, .inl (SqL.of (sm _ _ h1)), hz, q _ rfl⟩
  | [.tup l], e, r =>
    obtain ⟨ys, rfl, hz, rfl⟩ := joinD_ok e
    obtain ⟨x, rfl, p, xs, rfl, h1, h2⟩ := r.one
    have e2 := Reps.strs.mp h2
    subst e2
    exact ⟨s, p, ys, rfl, rfl, .inr (sqt_same sm h1), hz, q _ rfl⟩
theorem dv_join {o e : Expr} {es : List Expr} {apos cpos : Pos} {fo : EV} {ga : EA} (hK : G.K = X.K) (ho : DV X G W o fo) (ha : DA X G W (e :: es) ga)
    (hbase : NoSup X o "join" := by rfl) (hfew : FewA X cpos (e :: es) := by rfl) (hline : OneRow apos cpos := by rfl) (hs : HeadP X e es := by rfl) (hpl : RestP X cpos es := by rfl) :
    DV X G W (.Call (.Attribute o "join" apos) (e :: es) [] cpos) (bm1 gJoin fo ga) :=
  dv_bm PySem.F.slot_str_join PySem.F.type_str_join mt_join (by have z := b_join (G := G); rw [hK] at z; exact z) ho ha hbase hfew hline hs hpl
end
end DL

namespace DL
open PySem PySem.Spec PyProof.Rows L2
/-! ## how mirrors run -/
section
variable {δ : Sw} {a : Sto} {f g : EV} {f1 g1 : EM} {t u : ET} {l : EA} {ll : EL}
@[simp] theorem x_eC (d : D) : eC d δ a = .ok d a := rfl
theorem x_eVar (i : Nat) : eVar i δ a = match δ[i]? with | some (some d) => .ok d a | _ => .stuck := rfl
@[simp] theorem x_var0 (d : D) (r : Sw) : eVar 0 (some d :: r) a = .ok d a := rfl
@[simp] theorem x_varS (i : Nat) (o : Option D) (r : Sw) : eVar (i + 1) (o :: r) a = eVar i r a := rfl
@[simp] theorem x_mV : mV f δ a = (f δ a).map M.val := rfl
@[simp] theorem x_vM : vM f1 δ a = (f1 δ a).map freeze := rfl
@[simp] theorem x_ev1 (h : D → Option D) : ev1 h f δ a = (f δ a).opt h := rfl
@[simp] theorem x_ev2 (h : D → D → Option D) : ev2 h f g δ a = (f δ a).bind fun d a' => (g δ a').opt (h d) := rfl
@[simp] theorem x_tV : tV f δ a = (f δ a).opt asB := rfl
@[simp] theorem x_tN : tN t δ a = (t δ a).map not := rfl
@[simp] theorem x_tAn : tAn t u δ a = (t δ a).bind fun b a1 => if b = true then u δ a1 else .ok false a1 := rfl
@[simp] theorem x_tOn : tOn t u δ a = (t δ a).bind fun b a1 => if b = true then .ok true a1 else u δ a1 := rfl
@[simp] theorem x_vAn : vAn f g δ a = ((f δ a).opt asB).bind fun b a1 => if b = true then g δ a1 else .ok (.bl false) a1 := rfl
@[simp] theorem x_vOn : vOn f g δ a = ((f δ a).opt asB).bind fun b a1 => if b = true then .ok (.bl true) a1 else g δ a1 := rfl
@[simp] theorem x_vN : vN f δ a = ((f δ a).opt asB).map fun b => .bl (!b) := rfl
@[simp] theorem x_eIf : eIf t f1 g1 δ a = (t δ a).bind fun b a1 => if b = true then f1 δ a1 else g1 δ a1 := rfl
@[simp] theorem x_aNil : aNil δ a = .ok [] a := rfl
@[simp] theorem x_aCons : aCons f l δ a = (f δ a).bind fun d a1 => (l δ a1).map fun ds => d :: ds := rfl
@[simp] theorem x_lNil : lNil δ a = .ok [] a := rfl
@[simp] theorem x_lCons : lCons f1 ll δ a = (f1 δ a).bind fun m a1 => (ll δ a1).map fun ms => m :: ms := rfl
def newM (a : Sto) : Option New → Out M
  | some nw => .ok nw.m a
  | none => .stuck
def newV (a : Sto) : Option New → Out D
  | some nw => .ok nw.d a
  | none => .stuck
@[simp] theorem newM_some (nw : New) : newM a (some nw) = .ok nw.m a := rfl
@[simp] theorem newV_some (nw : New) : newV a (some nw) = .ok nw.d a := rfl
@[simp] theorem new_m1 (d : D) : (New.val d).m = .val d := rfl
@[simp] theorem new_m2 (l : List D) : (New.lst l).m = .lst (l.map M.val) := rfl
@[simp] theorem new_m3 (l : List D) : (New.tup l).m = .val (.tup l) := rfl
@[simp] theorem new_d1 (d : D) : (New.val d).d = d := rfl
@[simp] theorem new_d2 (l : List D) : (New.lst l).d = .lst l := rfl
@[simp] theorem new_d3 (l : List D) : (New.tup l).d = .tup l := rfl
@[simp] theorem x_eN (h : D → D → Option New) : eN h f g δ a = (f δ a).bind fun d a1 => (g δ a1).bind fun e a2 => newM a2 (h d e) := by
  unfold eN
  congr
@[simp] theorem x_vNw (h : D → D → Option New) : vNw h f g δ a = (f δ a).bind fun d a1 => (g δ a1).bind fun e a2 => newV a2 (h d e) := by
  unfold vNw
  congr
@[simp] theorem x_vS (h : Sto → D → D → Option New) : vS h f g δ a = (f δ a).bind fun d a1 => (g δ a1).bind fun e a2 => newV a2 (h a2 d e) := by
  unfold vS
  congr
@[simp] theorem x_cN (h : Sto → List D → Option New) : cN h l δ a = (l δ a).bind fun ds a1 => newM a1 (h a1 ds) := by
  unfold cN
  congr
@[simp] theorem x_cV (h : Sto → List D → Option New) : cV h l δ a = (l δ a).bind fun ds a1 => newV a1 (h a1 ds) := by
  unfold cV
  congr
@[simp] theorem x_un1 (h : Sto → D → Option New) (d : D) : un1 h a [d] = h a d := rfl
@[simp] theorem x_bi2 (h : Sto → D → D → Option New) (d e : D) : bi2 h a [d, e] = h a d e := rfl
@[simp] theorem x_callM (n : Nat) (h : FM) : callM n h l δ a = (l δ a).bind fun ds a1 => if ds.length = n then h ds a1 else .stuck := rfl
@[simp] theorem x_mLst : mLst ll δ a = (ll δ a).bind fun ms a1 => if ms.length ≤ 100000 then .ok (.lst ms) a1 else .stuck := rfl
@[simp] theorem x_mTup : mTup ll δ a = (ll δ a).bind fun ms a1 => if ms.length ≤ 100000 then .ok (mkTup ms) a1 else .stuck := rfl
@[simp] theorem x_oNo : oNo δ a = .ok none a := rfl
@[simp] theorem x_oSome : oSome f δ a = (f δ a).opt asI := rfl
@[simp] theorem x_slN (fl fh : EO) : slN f fl fh δ a = (f δ a).bind fun d a1 => (fl δ a1).bind fun lo a2 => (fh δ a2).bind fun hi a3 => newM a3 (dSl d lo hi) := by
  unfold slN
  congr
@[simp] theorem x_excM (c : Nat) (fs : List Str) : excM c fs l δ a = (l δ a).bind fun ds a1 => if ds.length = fs.length then .exc c fs ds a1 else .stuck := rfl
/-- what an optional answer gives -/
def optK {γ : Type} (a : Sto) : Option γ → Out γ
  | some r => .ok r a
  | none => .stuck
@[simp] theorem optK_some {γ : Type} (r : γ) : optK a (some r) = .ok r a := rfl
@[simp] theorem x_opt {β γ : Type} (b : β) (h : β → Option γ) : (Out.ok b a).opt h = optK a (h b) := by
  rw [opt_ok]
  cases h b <;> rfl
@[simp] theorem x_iSeq : iSeq f δ a = (f δ a).opt items := rfl
@[simp] theorem x_iR1 : DL.iRng1 l δ a = (l δ a).opt gRng1 := rfl
@[simp] theorem x_iR2 : DL.iRng2 l δ a = (l δ a).opt gRng2 := rfl
@[simp] theorem x_bm1 (h : Str → List D → Option D) : bm1 h f l δ a = (f δ a).bind fun o a1 => match o with
  | .str s => (l δ a1).bind fun ds a2 => optK a2 (h s ds)
  | _ => .stuck := by
  unfold bm1
  congr
  funext o a1
  cases o with
  | str s =>
    dsimp only
    congr
    funext ds a2
    cases h s ds <;> rfl
  | _ => rfl
end
@[simp] theorem asB_bl (b : Bool) : asB (.bl b) = some b := rfl
@[simp] theorem asI_int (i : Int) : asI (.int i) = some (some i) := rfl
@[simp] theorem dI_int (g : Int → Int → Option D) (i j : Int) : dI g (.int i) (.int j) = g i j := rfl
@[simp] theorem r_sub (i j : Int) : DL.gSub i j = some (.int (i - j)) := rfl
@[simp] theorem r_lt (i j : Int) : gLt i j = some (.bl (decide (i < j))) := rfl
@[simp] theorem r_le (i j : Int) : gLe i j = some (.bl (decide (i ≤ j))) := rfl
@[simp] theorem r_gt (i j : Int) : gGt i j = some (.bl (decide (j < i))) := rfl
@[simp] theorem r_ge (i j : Int) : gGe i j = some (.bl (decide (j ≤ i))) := rfl
theorem r_mod {i j : Int} (h : 0 < j) : gMod i j = some (.int (i % j)) := if_pos h
theorem r_div {i j : Int} (h : 0 < j) (h2 : j < 1073741824) : gDiv i j = some (.int (i / j)) := if_pos ⟨h, h2⟩
@[simp] theorem r_addI (i j : Int) : dAdd (.int i) (.int j) = some (.val (.int (i + j))) := rfl
theorem r_mulL {i j : Int} (h : -(2 ^ 64) < i ∧ i < 2 ^ 64) : dMul (.int i) (.int j) = some (.val (.int (i * j))) := if_pos (.inl h)
theorem r_mulR {i j : Int} (h : -(2 ^ 64) < j ∧ j < 2 ^ 64) : dMul (.int i) (.int j) = some (.val (.int (i * j))) := if_pos (.inr h)
@[simp] theorem r_int (a : Sto) (i : Int) : gInt a (.int i) = some (.val (.int i)) := rfl
@[simp] theorem r_intB (a : Sto) (b : Bool) : gInt a (.bl b) = some (.val (.int (if b then 1 else 0))) := rfl
@[simp] theorem r_abs (a : Sto) (i : Int) : gAbs a (.int i) = some (.val (.int (if i < 0 then -i else i))) := rfl
@[simp] theorem r_lenS (a : Sto) (l : List Int) : gLen a (.scr l) = some (.val (.int l.length)) := rfl
@[simp] theorem r_lenL (a : Sto) (l : List D) : gLen a (.lst l) = some (.val (.int l.length)) := rfl
@[simp] theorem r_lenT (a : Sto) (l : List D) : gLen a (.tup l) = some (.val (.int l.length)) := rfl
theorem r_lenX {a : Sto} {s : Str} (h : s.length ≤ 100000) : gLen a (.str s) = some (.val (.int s.length)) := if_pos h
@[simp] theorem r_eqI (i j : Int) : dEq (.int i) (.int j) = some (.bl (i == j)) := rfl
@[simp] theorem r_eqS (i j : Str) : dEq (.str i) (.str j) = some (.bl (i == j)) := rfl
@[simp] theorem r_neI (i j : Int) : dNe (.int i) (.int j) = some (.bl (!(i == j))) := rfl
@[simp] theorem r_neS (i j : Str) : dNe (.str i) (.str j) = some (.bl (!(i == j))) := rfl
/-! statements -/
section
variable {δ : SlM} {a : Sto}
@[simp] theorem x_sNil : sNil δ a = .nx δ a := rfl
@[simp] theorem x_sSeq (f g : SM) : sSeq f g δ a = (f δ a).seq g := rfl
@[simp] theorem x_sBrk : sBrk δ a = .bk δ a := rfl
@[simp] theorem x_sCnt : sCnt δ a = .ct δ a := rfl
theorem kin_nil : ∀ (n : Nat) (δ : SlM), kin [] n δ = .no
  | _, [] => rfl
  | n, none :: r => kin_nil (n + 1) r
  | n, some (.val _) :: r => kin_nil (n + 1) r
  | n, some (.lst _) :: r => by
    show (if n ∈ [] then _ else kin [] (n + 1) r) = .no
    rw [if_neg (List.not_mem_nil), kin_nil (n + 1) r]
  | n, some (.tup _) :: r => by
    show (if n ∈ [] then _ else kin [] (n + 1) r) = .no
    rw [if_neg (List.not_mem_nil), kin_nil (n + 1) r]
  | n, some (.obj _ _ _) :: r => by
    show (if n ∈ [] then _ else kin [] (n + 1) r) = .no
    rw [if_neg (List.not_mem_nil), kin_nil (n + 1) r]
theorem frz_nil : ∀ (n : Nat) (δ : SlM), frz [] n δ = δ
  | _, [] => rfl
  | n, none :: r => congrArg _ (frz_nil (n + 1) r)
  | n, some (.val _) :: r => congrArg _ (frz_nil (n + 1) r)
  | n, some (.lst _) :: r => by
    show (if n ∈ [] then _ else _) :: frz [] (n + 1) r = _
    rw [if_neg (List.not_mem_nil), frz_nil (n + 1) r]
  | n, some (.tup _) :: r => by
    show (if n ∈ [] then _ else _) :: frz [] (n + 1) r = _
    rw [if_neg (List.not_mem_nil), frz_nil (n + 1) r]
  | n, some (.obj _ _ _) :: r => by
    show (if n ∈ [] then _ else _) :: frz [] (n + 1) r = _
    rw [if_neg (List.not_mem_nil), frz_nil (n + 1) r]
def liftK (I : List Nat) (δ : SlM) : Out M → Ox M
  | .ok m a' => .ok m (if (clM (kin I 0 δ) m && clA (kin I 0 δ) a') = true then δ else frz I 0 δ) a'
  | .exc c ns ds a' => .exc c ns ds (if (cls (kin I 0 δ) ds && clA (kin I 0 δ) a') = true then δ else frz I 0 δ) a'
  | .stuck => .stuck
def liftTK (I : List Nat) (δ : SlM) : Out Bool → Ox Bool
  | .ok b a' => .ok b (if clA (kin I 0 δ) a' = true then δ else frz I 0 δ) a'
  | .exc c ns ds a' => .exc c ns ds (if (cls (kin I 0 δ) ds && clA (kin I 0 δ) a') = true then δ else frz I 0 δ) a'
  | .stuck => .stuck
def liftIK (fr : Bool) (I : List Nat) (δ : SlM) : Out (List D) → Ox (List D)
  | .ok b a' => .ok b (if (fr && clA (kin I 0 δ) a') = true then δ else frz I 0 δ) a'
  | .exc c ns ds a' => .exc c ns ds (if (cls (kin I 0 δ) ds && clA (kin I 0 δ) a') = true then δ else frz I 0 δ) a'
  | .stuck => .stuck
@[simp] theorem x_lift (I : List Nat) (f : EM) : lift I f δ a = liftK I δ (f (see I 0 δ) a) := by
  unfold lift liftK
  cases f (see I 0 δ) a <;> rfl
@[simp] theorem x_liftT (I : List Nat) (f : ET) : liftT I f δ a = liftTK I δ (f (see I 0 δ) a) := by
  unfold liftT liftTK
  cases f (see I 0 δ) a <;> rfl
@[simp] theorem x_liftI (fr : Bool) (I : List Nat) (f : EI) : liftI fr I f δ a = liftIK fr I δ (f (see I 0 δ) a) := by
  unfold liftI liftIK
  cases f (see I 0 δ) a <;> rfl
@[simp] theorem k_ok (m : M) : liftK [] δ (.ok m a) = .ok m δ a := by
  show Ox.ok m (if (clM (kin [] 0 δ) m && clA (kin [] 0 δ) a) = true then δ else frz [] 0 δ) a = _
  rw [frz_nil]
  split <;> rfl
@[simp] theorem k_exc (c : Nat) (ns : List Str) (ds : List D) : liftK [] δ (.exc c ns ds a) = .exc c ns ds δ a := by
  show Ox.exc c ns ds (if (cls (kin [] 0 δ) ds && clA (kin [] 0 δ) a) = true then δ else frz [] 0 δ) a = _
  rw [frz_nil]
  split <;> rfl
@[simp] theorem clA_nil (k : Kd) : clA k [] = true := rfl
@[simp] theorem clA_nums (k : Kd) (l : List Int) (r : Sto) : clA k (.nums l :: r) = clA k r := rfl
@[simp] theorem clA_obj (k : Kd) (c : Nat) (ns : List Str) (ds : List D) (r : Sto) : clA k (.obj c ns ds :: r) = (cls k ds && clA k r) := rfl
@[simp] theorem kT_ok0 (b : Bool) : liftTK [] δ (.ok b a) = .ok b δ a := by
  show Ox.ok b (if clA (kin [] 0 δ) a = true then δ else frz [] 0 δ) a = _
  rw [frz_nil]
  split <;> rfl
theorem kT_ok (I : List Nat) (b : Bool) : liftTK I δ (.ok b a) = .ok b (if clA (kin I 0 δ) a = true then δ else frz I 0 δ) a := rfl
@[simp] theorem kT_okN (I : List Nat) (b : Bool) (l : List Int) : liftTK I δ (.ok b [.nums l]) = .ok b δ [.nums l] := rfl
@[simp] theorem kT_exc (c : Nat) (ns : List Str) (ds : List D) : liftTK [] δ (.exc c ns ds a) = .exc c ns ds δ a := by
  show Ox.exc c ns ds (if (cls (kin [] 0 δ) ds && clA (kin [] 0 δ) a) = true then δ else frz [] 0 δ) a = _
  rw [frz_nil]
  split <;> rfl
@[simp] theorem kI_ok (b : List D) (fr : Bool) : liftIK fr [] δ (.ok b a) = .ok b δ a := by
  show Ox.ok b (if (fr && clA (kin [] 0 δ) a) = true then δ else frz [] 0 δ) a = _
  rw [frz_nil]
  split <;> rfl
@[simp] theorem kI_frN (I : List Nat) (b : List D) (l : List Int) : liftIK true I δ (.ok b [.nums l]) = .ok b δ [.nums l] := rfl
@[simp] theorem kI_exc (c : Nat) (ns : List Str) (ds : List D) (fr : Bool) : liftIK fr [] δ (.exc c ns ds a) = .exc c ns ds δ a := by
  show Ox.exc c ns ds (if (cls (kin [] 0 δ) ds && clA (kin [] 0 δ) a) = true then δ else frz [] 0 δ) a = _
  rw [frz_nil]
  split <;> rfl
@[simp] theorem see_0 (I : List Nat) (n : Nat) : see I n [] = [] := rfl
@[simp] theorem see_1 (I : List Nat) (n : Nat) (r : SlM) : see I n (none :: r) = none :: see I (n + 1) r := rfl
@[simp] theorem see_2 (I : List Nat) (n : Nat) (d : D) (r : SlM) : see I n (some (.val d) :: r) = some d :: see I (n + 1) r := rfl
@[simp] theorem see_3 (I : List Nat) (n : Nat) (l : List M) (r : SlM) : see I n (some (.lst l) :: r) = (if n ∈ I then some (freeze (.lst l)) else none) :: see I (n + 1) r := rfl
@[simp] theorem see_4 (I : List Nat) (n : Nat) (l : List M) (r : SlM) : see I n (some (.tup l) :: r) = (if n ∈ I then some (freeze (.tup l)) else none) :: see I (n + 1) r := rfl
@[simp] theorem put_0 (m : M) (o : Option M) (r : SlM) : put 0 m (o :: r) a = .nx (some m :: r) a := by
  unfold put
  rw [if_pos (by simp)]
  rfl
theorem put_e {i : Nat} {m : M} (h : i < δ.length) : put i m δ a = .nx (δ.set i (some m)) a := if_pos h
@[simp] theorem x_sSet (i : Nat) (I : List Nat) (f : EM) : sSet i I f δ a = (lift I f δ a).seq (put i) := rfl
@[simp] theorem x_sDrop (I : List Nat) (f : EM) : sDrop I f δ a = (lift I f δ a).seq fun _ δ' a' => .nx δ' a' := rfl
@[simp] theorem x_sRet (I : List Nat) (f : EM) : sRet I f δ a = (lift I f δ a).seq fun m _ a' => .rt m a' := rfl
@[simp] theorem x_sRetN : sRetN δ a = .rt (.val .non) a := rfl
@[simp] theorem x_sIf (I : List Nat) (c : ET) (f g : SM) : sIf I c f g δ a = (liftT I c δ a).seq fun b δ' a' => if b = true then f δ' a' else g δ' a' := rfl
@[simp] theorem x_sFor (fr : Bool) (I : List Nat) (it : EI) (g : D → SlM → Option SlM) (f : SM) : sFor fr I it g f δ a = (liftI fr I it δ a).seq fun ds => sLoop g f ds := rfl
@[simp] theorem x_sRaise (I : List Nat) (f : EM) : sRaise I f δ a = (lift I f δ a).seq fun _ _ _ => .stuck := rfl
@[simp] theorem loop_0 (g : D → SlM → Option SlM) (f : SM) : sLoop g f [] δ a = .nx δ a := rfl
/-- what a def gives, from what its body gave -/
def outF : OutS → Out M
  | .nx _ a' => .ok (.val .non) a'
  | .rt r a' => .ok r a'
  | .exc c ns es _ a' => .exc c ns es a'
  | _ => .stuck
@[simp] theorem outF_nx : outF (.nx δ a) = .ok (.val .non) a := rfl
@[simp] theorem outF_rt (m : M) : outF (.rt m a) = .ok m a := rfl
@[simp] theorem outF_exc (c : Nat) (ns : List Str) (es : List D) : outF (.exc c ns es δ a) = .exc c ns es a := rfl
theorem x_bodyM {m n : Nat} {f : SM} {ds : List D} (h : ds.length = m) : bodyM m n f ds a = outF (f (ent n ds) a) := by
  unfold bodyM
  rw [if_pos h]
  cases f (ent n ds) a <;> rfl
@[simp] theorem body_0 {n : Nat} {f : SM} : bodyM 0 n f [] a = outF (f (ent n []) a) := x_bodyM rfl
@[simp] theorem body_1 {n : Nat} {f : SM} (d0 : D) : bodyM 1 n f [d0] a = outF (f (ent n [d0]) a) := x_bodyM rfl
@[simp] theorem body_2 {n : Nat} {f : SM} (d0 d1 : D) : bodyM 2 n f [d0, d1] a = outF (f (ent n [d0, d1]) a) := x_bodyM rfl
@[simp] theorem body_3 {n : Nat} {f : SM} (d0 d1 d2 : D) : bodyM 3 n f [d0, d1, d2] a = outF (f (ent n [d0, d1, d2]) a) := x_bodyM rfl
@[simp] theorem body_4 {n : Nat} {f : SM} (d0 d1 d2 d3 : D) : bodyM 4 n f [d0, d1, d2, d3] a = outF (f (ent n [d0, d1, d2, d3]) a) := x_bodyM rfl
@[simp] theorem body_5 {n : Nat} {f : SM} (d0 d1 d2 d3 d4 : D) : bodyM 5 n f [d0, d1, d2, d3, d4] a = outF (f (ent n [d0, d1, d2, d3, d4]) a) := x_bodyM rfl
@[simp] theorem body_6 {n : Nat} {f : SM} (d0 d1 d2 d3 d4 d5 : D) : bodyM 6 n f [d0, d1, d2, d3, d4, d5] a = outF (f (ent n [d0, d1, d2, d3, d4, d5]) a) := x_bodyM rfl
theorem x_sSto (I : List Nat) (fe : EM) (ko : Nat) (k : Int) : sSto I fe ko k δ a = (lift I fe δ a).seq fun m δ1 a1 => match m, δ1[ko]? with
  | .val (.int v), some (some (.val (.loc n))) => (match a1[n]? with
    | some (.nums l) => (match ixN l.length k with
      | some j => .nx δ1 (a1.set n (.nums (l.set j v)))
      | none => .stuck)
    | _ => .stuck)
  | _, _ => .stuck := rfl
@[simp] theorem r_ixLoc (l : List Int) (i : Int) : dIx [.nums l] (.loc 0) (.int i) = (L2.atI l i).map fun n => .val (.int n) := rfl
@[simp] theorem r_ixLst (l : List D) (i : Int) : dIx a (.lst l) (.int i) = (L2.atI l i).map New.val := rfl
@[simp] theorem r_ixTup (l : List D) (i : Int) : dIx a (.tup l) (.int i) = (L2.atI l i).map New.val := rfl
@[simp] theorem r_ixScr (l : List Int) (i : Int) : dIx a (.scr l) (.int i) = (L2.atI l i).map fun n => .val (.int n) := rfl
@[simp] theorem see_m (I : List Nat) (n : Nat) (o : Option D) (r : SlM) : see I n (Option.map M.val o :: r) = o :: see I (n + 1) r := by cases o <;> rfl
@[simp] theorem gOne_e {i : Nat} {d : D} {δ : SlM} : gOne i d δ = if i < δ.length then some (δ.set i (some (.val d))) else none := rfl
/-- what a turn's end means for the loop -/
def loopK (k : SM) : OutS → OutS
  | .nx δ2 a2 => k δ2 a2
  | .ct δ2 a2 => k δ2 a2
  | .bk δ2 a2 => .nx δ2 a2
  | .rt m a2 => .rt m a2
  | .exc c ns es δ2 a2 => .exc c ns es δ2 a2
  | .stuck => .stuck
@[simp] theorem loopK_nx (k : SM) : loopK k (.nx δ a) = k δ a := rfl
@[simp] theorem loopK_ct (k : SM) : loopK k (.ct δ a) = k δ a := rfl
@[simp] theorem loopK_bk (k : SM) : loopK k (.bk δ a) = .nx δ a := rfl
@[simp] theorem loopK_rt (k : SM) (m : M) : loopK k (.rt m a) = .rt m a := rfl
@[simp] theorem loopK_exc (k : SM) (c : Nat) (ns : List Str) (es : List D) : loopK k (.exc c ns es δ a) = .exc c ns es δ a := rfl
theorem loop_S {g : D → SlM → Option SlM} {f : SM} {d : D} {ds : List D} {δ1 : SlM} (h : g d δ = some δ1) : sLoop g f (d :: ds) δ a = loopK (sLoop g f ds) (f δ1 a) := by
  show (match g d δ with
    | none => OutS.stuck
    | some δ1 => match f δ1 a with
      | .nx δ2 a2 => sLoop g f ds δ2 a2
      | .ct δ2 a2 => sLoop g f ds δ2 a2
      | .bk δ2 a2 => .nx δ2 a2
      | .rt m a2 => .rt m a2
      | .exc k ns es δ2 a2 => .exc k ns es δ2 a2
      | .stuck => .stuck) = _
  rw [h]
  dsimp only
  cases f δ1 a <;> rfl
theorem r_ixStr {z : Str} {i : Int} (h : z.length ≤ 100000) : dIx a (.str z) (.int i) = (L2.atI z.cps.toList i).map fun c => .val (.str ⟨#[c]⟩) := if_pos h
theorem seq_then {f g : SM} {δ' : SlM} {a' : Sto} (h : f δ a = .nx δ' a') : sSeq f g δ a = g δ' a' := by rw [x_sSeq, h, seq_nx]
end
end DL

namespace DL
open PySem PySem.Spec PyProof.Rows L2
/-! ## the draws, alike in every law -/
def m_start : SM := (sSeq (sSet 1 [] (mV (eC (.int 0))))
    (sSeq (sIf [] (tV (ev2 (dI gGt) (cV (un1 gLen) (aCons (eVar 0) aNil)) (eC (.int 0)))) (sSet 1 [] (mV (vS dIx (eVar 0) (eC (.int 0))))) sNil)
    (sRet [] (mLst (lCons (mV (cV (un1 gAbs) (aCons (cV (un1 gInt) (aCons (eVar 1) aNil)) aNil))) (lCons (mV (cV (un1 gInt) (aCons (ev2 (dI gGe) (cV (un1 gAbs) (aCons (cV (un1 gInt) (aCons (eVar 1) aNil)) aNil)) (ev2 (dI gPow) (eC (.int 10)) (eC (.int 18)))) aNil))) (lCons (mV (eC (.int 1))) (lCons (mV (eC (.int 0))) lNil))))))))
def f_start : FM := bodyM 1 2 m_start
def m_draw : SM := (sSeq (sSto [] (mV (vNw dAdd (vS dIx (eVar 1) (eC (.int 3))) (eC (.int 1)))) 1 3)
    (sSeq (sIf [] (tAn (tV (ev2 dEq (vS dIx (eVar 1) (eC (.int 1))) (eC (.int 1)))) (tV (ev2 (dI gGt) (vS dIx (eVar 1) (eC (.int 0))) (eC (.int 0))))) (sSeq (sSet 3 [] (mV (ev2 (dI gMod) (cV (un1 gInt) (aCons (vS dIx (eVar 1) (eC (.int 0))) aNil)) (eVar 2))))
    (sSeq (sSto [] (mV (ev2 (dI gDiv) (vS dIx (eVar 1) (eC (.int 0))) (eVar 2))) 1 0)
    (sRet [] (mV (eVar 3))))) sNil)
    (sSeq (sSto [] (mV (eC (.int 0))) 1 1)
    (sSeq (sSet 4 [] (mV (eC (.int 0))))
    (sSeq (sIf [] (tV (ev2 (dI gGt) (cV (un1 gLen) (aCons (eVar 0) aNil)) (eC (.int 0)))) (sSet 4 [] (mV (vS dIx (eVar 0) (ev2 (dI gMod) (cV (un1 gInt) (aCons (vS dIx (eVar 1) (eC (.int 2))) aNil)) (cV (un1 gLen) (aCons (eVar 0) aNil)))))) sNil)
    (sSeq (sSto [] (mV (vNw dAdd (vS dIx (eVar 1) (eC (.int 2))) (eC (.int 1)))) 1 2)
    (sSeq (sSet 5 [] (mV (vNw dMul (ev2 (dI gMod) (cV (un1 gInt) (aCons (vS dIx (eVar 1) (eC (.int 0))) aNil)) (eC (.int 2147483647))) (eC (.int 48271)))))
    (sSeq (sSet 5 [] (mV (vNw dAdd (vNw dAdd (vNw dAdd (eVar 5) (ev2 (dI gMod) (cV (un1 gInt) (aCons (eVar 4) aNil)) (eC (.int 2147483629)))) (vNw dMul (eC (.int 7)) (vS dIx (eVar 1) (eC (.int 3))))) (eC (.int 11)))))
    (sSeq (sSto [] (mV (ev2 (dI gMod) (cV (un1 gInt) (aCons (eVar 5) aNil)) (eC (.int 2147483647)))) 1 0)
    (sSeq (sSet 5 [] (mV (ev2 (dI gMod) (cV (un1 gInt) (aCons (vNw dAdd (vNw dMul (vS dIx (eVar 1) (eC (.int 0))) (eC (.int 69621))) (vS dIx (eVar 1) (eC (.int 3)))) aNil)) (eC (.int 2147483629)))))
    (sRet [] (mV (ev2 (dI gMod) (cV (un1 gInt) (aCons (ev2 (dI gDiv) (eVar 5) (eC (.int 13))) aNil)) (eVar 2))))))))))))))
def f_draw : FM := bodyM 3 6 m_draw

theorem atI_0 {α : Type} (x : α) (r : List α) : L2.atI (x :: r) 0 = some x := by simp [L2.atI, ixN]
theorem start_ok (ns : List Int) : ∃ p q : Int, f_start [.scr ns] [] = .ok (.lst [.val (.int p), .val (.int q), .val (.int 1), .val (.int 0)]) [] := by
  have pw : gPow 10 18 = some (.int (10 ^ 18)) := by
    unfold gPow
    rw [if_pos (by decide)]
    rfl
  unfold f_start m_start
  cases ns with
  | nil => simp [ent, put_e, pw]
  | cons x r => 
    simp [ent, put_e, pw, atI_0]
theorem scr_at {ns : List Int} {i : Int} (h : 0 ≤ i) (h2 : i < ns.length) : ∃ z, L2.atI ns i = some z := by
  unfold L2.atI ixN
  rw [if_pos h, if_pos h2]
  exact ⟨ns[i.toNat]'(by omega), List.getElem?_eq_getElem (by omega)⟩
theorem at4_0 (a b c d : Int) : L2.atI [a, b, c, d] 0 = some a := by simp [L2.atI, ixN]
theorem at4_1 (a b c d : Int) : L2.atI [a, b, c, d] 1 = some b := by simp [L2.atI, ixN]
theorem at4_2 (a b c d : Int) : L2.atI [a, b, c, d] 2 = some c := by simp [L2.atI, ixN]
theorem at4_3 (a b c d : Int) : L2.atI [a, b, c, d] 3 = some d := by simp [L2.atI, ixN]
theorem ix4_0 : ixN 4 0 = some 0 := by simp [ixN]
theorem ix4_1 : ixN 4 1 = some 1 := by simp [ixN]
theorem ix4_2 : ixN 4 2 = some 2 := by simp [ixN]
theorem ix4_3 : ixN 4 3 = some 3 := by simp [ixN]
theorem draw_ok (ns : List Int) {lim : Int} (h : 0 < lim) (h2 : lim < 1073741824) (a b c d : Int) : ∃ (r a' b' c' d' : Int), 0 ≤ r ∧ r < lim ∧ f_draw [.scr ns, .loc 0, .int lim] [.nums [a, b, c, d]] = .ok (.val (.int r)) [.nums [a', b', c', d']] := by
  have p0 : ∀ x : Int, 0 ≤ x % lim := fun x => Int.emod_nonneg x (by omega)
  have p1 : ∀ x : Int, x % lim < lim := fun x => Int.emod_lt_of_pos x h
  have e1 : ∀ x, gMod x lim = some (.int (x % lim)) := fun x => r_mod h
  have e2 : ∀ x, gDiv x lim = some (.int (x / lim)) := fun x => r_div h h2
  have e3 : ∀ x, gMod x 2147483647 = some (.int (x % 2147483647)) := fun x => r_mod (by decide)
  have e4 : ∀ x, gMod x 2147483629 = some (.int (x % 2147483629)) := fun x => r_mod (by decide)
  have e5 : ∀ x, gDiv x 13 = some (.int (x / 13)) := fun x => r_div (by decide) (by decide)
  have e6 : ∀ x, dMul (.int x) (.int 48271) = some (.val (.int (x * 48271))) := fun x => r_mulR (by decide)
  have e7 : ∀ x, dMul (.int x) (.int 69621) = some (.val (.int (x * 69621))) := fun x => r_mulR (by decide)
  have e8 : ∀ x, dMul (.int 7) (.int x) = some (.val (.int (7 * x))) := fun x => r_mulL (by decide)
  unfold f_draw m_draw
  by_cases c1 : b = 1 ∧ 0 < a
  · refine ⟨a % lim, a / lim, b, c, d + 1, p0 a, p1 a, ?_⟩
    obtain ⟨hb, ha⟩ := c1
    simp [ent, put_e, x_sSto, at4_0, at4_1, at4_2, at4_3, ix4_0, ix4_1, ix4_2, ix4_3, e1, e2, hb, ha]
  · have c2 : (if b = 1 then Out.ok (decide (0 < a)) [.nums [a, b, c, d + 1]] else Out.ok false [.nums [a, b, c, d + 1]]) = (Out.ok false [.nums [a, b, c, d + 1]] : Out Bool) := by
      by_cases hb : b = 1
      · rw [if_pos hb]
        have ha : ¬ 0 < a := fun z => c1 ⟨hb, z⟩
        rw [decide_eq_false ha]
      · rw [if_neg hb]
    cases ns with
    | nil =>
      simp [ent, put_e, x_sSto, at4_0, at4_1, at4_2, at4_3, ix4_0, ix4_1, ix4_2, ix4_3, e1, e2, e3, e4, e5, e6, e7, e8, c2]
      exact ⟨p0 _, p1 _⟩
    | cons x r =>
      have hl : (0 : Int) < ((x :: r).length : Nat) := by simp [List.length_cons]
      obtain ⟨z, hz⟩ := scr_at (ns := x :: r) (i := c % ((x :: r).length : Nat)) (Int.emod_nonneg _ (by omega)) (Int.emod_lt_of_pos _ hl)
      have e9 : gMod c ((x :: r).length : Nat) = some (.int (c % ((x :: r).length : Nat))) := r_mod hl
      simp only [List.length_cons, Int.natCast_add, Int.natCast_one] at hz e9 hl
      simp [ent, put_e, x_sSto, at4_0, at4_1, at4_2, at4_3, ix4_0, ix4_1, ix4_2, ix4_3, e1, e2, e3, e4, e5, e6, e7, e8, c2, e9, hz, hl]
      exact ⟨p0 _, p1 _⟩
/-! ## a law's body -/
theorem law_go4 (g : SM) (x : Option M) (r : SlM) (p q u v : Int) : lawGo 1 g (.nx (x :: some (.lst [.val (.int p), .val (.int q), .val (.int u), .val (.int v)]) :: r) []) = lawEnd (g (x :: some (.val (.loc 0)) :: r) [.nums [p, q, u, v]]) := rfl
@[simp] theorem lawEnd_bl (b : Bool) (a : Sto) : lawEnd (.rt (.val (.bl b)) a) = .rt (.val (.bl b)) [] := rfl
@[simp] theorem outF_law (b : Bool) : outF (.rt (.val (.bl b)) []) = .ok (.val (.bl b)) [] := rfl
theorem mLaw_e (i : Nat) (f1 g : SM) (δ : SlM) (a : Sto) : mLaw i f1 g δ a = lawGo i g (f1 δ a) := rfl
theorem rng_e {j : Int} (h : 0 ≤ j) (h2 : j < 2 ^ 62) : gRng1 [.int j] = some (rngL 0 j.toNat) := by
  show (if big j = true then some (rngL 0 j.toNat) else none) = _
  have z : big j = true := decide_eq_true ⟨by omega, h2⟩
  rw [if_pos z]
theorem rngL_len (lo : Int) (n : Nat) : (rngL lo n).length = n := by simp [rngL]
theorem r_addS {x y : Str} (h : x.length + y.length ≤ 100000) : dAdd (.str x) (.str y) = some (.val (.str (x ++ y))) := if_pos h
theorem r_addL {x y : List D} (h : x.length + y.length ≤ 100000) : dAdd (.lst x) (.lst y) = some (.lst (x ++ y)) := if_pos h
theorem len_app (x y : Str) : (x ++ y).length = x.length + y.length := by
  show (x.cps ++ y.cps).size = _
  rw [Array.size_append]
  rfl
theorem r_cut {z : Str} {lo hi : Option Int} (h : z.length ≤ 100000) : dSl (.str z) lo hi = some (.val (.str (cutS z lo hi))) := if_pos h
theorem str_digit (a : Sto) {r : Int} (h : 0 ≤ r) (h2 : r < 10) : ∃ t : Str, t.length = 1 ∧ gStr a (.int r) = some (.val (.str t)) := by
  refine ⟨Str.ofString (toString r), ?_, ?_⟩
  · have k : r = 0 ∨ r = 1 ∨ r = 2 ∨ r = 3 ∨ r = 4 ∨ r = 5 ∨ r = 6 ∨ r = 7 ∨ r = 8 ∨ r = 9 := by omega
    rcases k with rfl | rfl | rfl | rfl | rfl | rfl | rfl | rfl | rfl | rfl <;> decide +kernel
  · show (if r.natAbs.log2 < 1920 then some (New.val (.str (Str.ofString (toString r)))) else none) = _
    have k : r = 0 ∨ r = 1 ∨ r = 2 ∨ r = 3 ∨ r = 4 ∨ r = 5 ∨ r = 6 ∨ r = 7 ∨ r = 8 ∨ r = 9 := by omega
    have z : r.natAbs.log2 < 1920 := by rcases k with rfl | rfl | rfl | rfl | rfl | rfl | rfl | rfl | rfl | rfl <;> decide +kernel
    rw [if_pos z]
end DL

namespace DL
open PySem PySem.Spec PyProof.Rows L2

/-! ## raise X(), X an own error class without __init__ -/
/-- what the written part says of the class c -/
structure BareX (K : PySem.W.Frag) (mg : Str → Option Value) (G : Gx) (x : Str) (c : Nat) : Prop where
  is : PySem.W.excIn K (G.T c) [.type "ValueError", .type "Exception", .type "BaseException", .type "object"] "ValueError.__new__" = true
  gC : mg x = some (.ref (G.T c))
  kC : PySem.W.keepIn K (.ref (G.T c)) = true
  bC : PySem.W.subIn K (.ref (G.T c)) (.type "BaseException") = some true
  tC : PySem.W.typeIn K (.ref (G.T c)) = some (.type "type")
section
variable {X : Cx} {G : Gx} {W : WX} {x : Str} {c : Nat} {p pos : Pos}
theorem dr_bare (T : BareX X.K X.mg G x c) (hg : Gl X x := by rfl) (hdb : NotDbg x := by decide) : DR X G W (.Call (.Name x p) [] [] pos) (excM c [] aNil) := by
  refine ⟨fun σ H Q => Q (.ref (G.T c)) none H, fun pins s σ H Q I h => ?_, fun ρ R B H σ δ a Q w sl q => q B H none w (Same.refl _) Kp.refl (.inl ⟨rfl, rfl, rfl⟩)⟩
  obtain ⟨bm, N, nm, qn, bs, hdct, sn, sub, ab, col, dd, k0, k1, k2, k3, k5, mN, hC, hN, hni, S⟩ := exc_obj I.kIn T.is
  refine wpAny_Call_Name_kw (ld_glob I hg T.gC (PySem.W.callWith_K0 I.kIn T.kC ?_) hdb)
  exact wpAny_call_exc_subT (rest := []) PySem.F.excBase_ValueError S hC hN hni (fun h' e hm => mk_of I hm (raises_own T.bC T.tC) h (I.hok.gone hm.new)) (Nat.zero_le _)
end
/-! ## (a, b) as a comprehension's target -/
end DL

namespace DL
open PySem PySem.Spec PyProof.Rows L2

/-! ## (a, b) as a comprehension's target -/
/-- several targets at once -/
structure DGsx (X : Cx) (G : Gx) (ws : List Nat) (es : List Expr) (gs : List D → Sw → Option Sw) : Prop where
  ex : ∃ t : TGs, PGs X es t ∧ ∀ (ρ R : List Addr) (B H : Hp) (σ : L2.St) (δ δ' : Sw) (a : Sto) (ds : List D) (vs : List V) (Q : L2.St → Hp → Prop), Wd G B H ρ a R → Sls G B ρ δ σ → Reps G B ρ ds vs → gs ds δ = some δ' →
    (∀ σ', Sls G B ρ δ' σ' → wipe σ' ws = wipe σ ws → Q σ' H) → t vs σ H Q
def gxNil (ds : List D) (δ : Sw) : Option Sw := match ds with
  | [] => some δ
  | _ :: _ => none
def gxCons (g : D → Sw → Option Sw) (gs : List D → Sw → Option Sw) (ds : List D) (δ : Sw) : Option Sw := match ds with
  | [] => none
  | d :: r => match g d δ with
    | some δ1 => gs r δ1
    | none => none
def gxTup (n : Nat) (gs : List D → Sw → Option Sw) (d : D) (δ : Sw) : Option Sw := match d with
  | .tup l => if l.length = n then gs l δ else none
  | _ => none
section
variable {X : Cx} {G : Gx} {ws : List Nat}
theorem dgsx_nil : DGsx X G ws [] gxNil := by
  refine ⟨gNil, pgs_nil, fun ρ R B H σ δ δ' a ds vs Q w sl r e q => ?_⟩
  cases ds with
  | nil =>
    have z : vs = [] := r
    subst z
    cases e
    exact ⟨rfl, q σ sl rfl⟩
  | cons d ds => cases e
theorem dgsx_cons {e : Expr} {es : List Expr} {g : D → Sw → Option Sw} {gs : List D → Sw → Option Sw} (h : DGx X G ws e g) (k : DGsx X G ws es gs)
    (hs : (assignEach (e :: es) X.env).map (·.2) = assign e X.env :: (assignEach es X.env).map (·.2) := by rfl) : DGsx X G ws (e :: es) (gxCons g gs) := by
  obtain ⟨t, p, one⟩ := h.ex
  obtain ⟨u, p2, more⟩ := k.ex
  refine ⟨gCons t u, pgs_cons p p2 hs, fun ρ R B H σ δ δ' a ds vs Q w sl r e0 q => ?_⟩
  cases ds with
  | nil => cases e0
  | cons d l =>
    obtain ⟨x, tl, rfl, rx, rl⟩ := r
    unfold gxCons at e0
    dsimp only at e0
    cases c1 : g d δ with
    | none =>
      rw [c1] at e0
      cases e0
    | some δ1 =>
      rw [c1] at e0
      exact ⟨x, tl, rfl, one ρ R B H σ δ δ1 a d x _ w sl rx c1 fun σ1 sl1 h1 => more ρ R B H σ1 δ1 δ' a l tl Q w sl1 rl e0 fun σ2 sl2 h2 => q σ2 sl2 (h2.trans h1)⟩
theorem dgx_tup {es : List Expr} {k : Nat} {gs : List D → Sw → Option Sw} {pos : Pos} (n : Nat) (hc : X.calm = true) (hK : G.K = X.K) (h : DGsx X G ws es gs)
    (hn : (assignEach es X.env).length = n := by rfl) (hst : (assignEach es X.env).findIdx? (·.1) = none := by rfl) : DGx X G ws (.Tuple es k pos) (gxTup n gs) := by
  obtain ⟨t, p, all⟩ := h.ex
  refine ⟨gTup X.K n t, pg_tup hc p hn hst, fun ρ R B H σ δ δ' a d v Q w sl r e q => ?_⟩
  cases d with
  | tup l =>
    obtain ⟨pp, xs, rfl, h1, h2⟩ := r
    unfold gxTup at e
    dsimp only at e
    by_cases hl : l.length = n
    · rw [if_pos hl] at e
      exact ⟨pp, xs, rfl, hK ▸ sqt_same w.ex h1, h2.len.symm.trans hl, all ρ R B H σ δ δ' a l xs Q w sl h2 e q⟩
    · rw [if_neg hl] at e
      cases e
  | _ => cases e
end
end DL

namespace DL
open PySem PySem.Spec PyProof.Rows L2

/-! ## enumerate(a tuple) -/
section
variable {P : Program} {w : World} {K : PySem.W.Frag}
abbrev tupIt (t : Addr) : Obj := { cls := .type "tuple_iterator", data := .fields #[.ref t, .int 0 0] }
abbrev enumAt (it : Addr) : Obj := { cls := .type "enumerate", data := .fields #[.none, .bool false, .ref it, rawInt 0, .none, .none] }
theorem enumT_meets (t : Addr) (its : Array Value) : Meets (Builtin.«enumerate.__new__» ⟨[.type "enumerate", .ref t], []⟩)
    (fun _ R s => s.heap.IsTuple t its ∧ R (.ok (.ret (.ref (s.heap.push (tupIt t)).objs.size))) { s with heap := (s.heap.push (tupIt t)).push (enumAt s.heap.objs.size) }) :=
  .of_wp fun prog w A R s h => by
    obtain ⟨hp, gl, dd, tk, os⟩ := s
    obtain ⟨hT, h⟩ := h
    have sub := sub_enumerate
    have begin_ : ∀ {A' : Around} {E Q : Value → Shared → Prop}, Q (.ref hp.objs.size) ⟨hp.push (tupIt t), gl, dd, tk, os⟩ → wpAny (model prog w) A' (pyIter (.ref t)) Q E ⟨hp, gl, dd, tk, os⟩ :=
      fun q => wpAny_pyIter_tuple hT q
    wp_walk using begin_
    refine wpAny_stack_any fun st => wpAny_pure ?_
    split
    · rename_i c _ _ _ _ _
      cases (c == Value.type "enumerate") <;> (wp_walk using begin_; exact ⟨_, rfl, h⟩)
    · wp_walk using begin_
      exact ⟨_, rfl, h⟩
theorem enumT_call {A : Around} {E : Value → Shared → Prop} {s : Shared} {t : Addr} {its : Array Value} {Q : Value → Shared → Prop} (hT : s.heap.IsTuple t its)
    (h : ∀ h', IsEnum h' (s.heap.objs.size + 1) s.heap.objs.size 0 .none → h'.IsTupleIter s.heap.objs.size t 0 → (∀ b o, s.heap.get? b = some o → h'.get? b = some o) → Q (.ref (s.heap.objs.size + 1)) { s with heap := h' }) :
    wpAny (model P w) A (call (.type "enumerate") [.ref t]) Q E s := by
  refine callType_new F.called_enumerate (by decide) (F.typeCall_enumerate_1 _) (F.newCall_enumerate_1 _) (fun obj => F.args_object_init_2 obj _) F.entry_enumerate_new (enumT_meets t its) ⟨hT, ?_⟩
  have size1 : (s.heap.push (tupIt t)).objs.size = s.heap.objs.size + 1 := Heap.size_push ..
  have at_ : IsEnum ((s.heap.push (tupIt t)).push (enumAt s.heap.objs.size)) (s.heap.objs.size + 1) s.heap.objs.size 0 .none := by
    have z := Heap.get?_push_size (s.heap.push (tupIt t)) (o := enumAt s.heap.objs.size) rfl
    rw [size1] at z
    exact z
  show _ ∧ _
  rw [size1]
  exact ⟨⟨_, at_, rfl⟩, h _ at_ ⟨_, Heap.get?_push_of_some _ (Heap.get?_push_size _ rfl), rfl, rfl⟩ fun b o x => Heap.get?_push_of_some _ (Heap.get?_push_of_some _ x)⟩
/-- the items of the tuple at t by their numbers, each pair a new tuple -/
def ItE (K : PySem.W.Frag) (t : Addr) : It where
  go i H := ∃ (xs : List V) (x : V), SqT K H t xs ∧ xs[i]? = some x
  yld i H v H' := ∃ (T : Addr) (x : V), v = .ref T ∧ H T = none ∧ H' = upd H T (.tup [.int (i : Nat), x]) ∧ ∀ xs, SqT K H t xs → xs[i]? = some x
  stop i H := ∃ xs : List V, SqT K H t xs ∧ xs.length = i
theorem turn_enumT {elts : List Expr} {kk : Nat} {tpos : Pos} (t e it : Addr) : Turn P w K (.Tuple elts kk tpos) (ItE K t) [e, it] e (fun i h => (∃ old, IsEnum h e it ((i : Nat) : Int) old) ∧ h.IsTupleIter it t i ∧ e ≠ it) := by
  have two : ∀ {b : Addr}, b ∈ [e, it] → b = e ∨ b = it := fun hb => (List.mem_cons.mp hb).imp id List.mem_singleton.mp
  refine ⟨List.mem_cons_self, ?_, ?_, ?_, ?_, fun A i s Q E ⟨⟨_, he⟩, _⟩ h => wpAny_pyIter_enum he h⟩
  · rintro i h ⟨⟨old, he⟩, ⟨o, ho, hc, hd⟩, _⟩ b hb
    rcases two hb with rfl | rfl
    · exact ⟨_, he, fun v q => nomatch q⟩
    · exact ⟨o, ho, fun v q => by
        rw [hd] at q
        cases q⟩
  · rintro i h h' ⟨⟨old, he⟩, hi, hne⟩ k
    exact ⟨⟨old, k e List.mem_cons_self _ he⟩, hi.at fun o q => k it (List.mem_cons_of_mem _ List.mem_cons_self) o q, hne⟩
  · rintro X rfl rfl rfl hc i pins s σ H E I hf ⟨⟨old, he⟩, hit, hne⟩ ⟨xs, x, hq, hx⟩
    obtain ⟨its, rv, p, hz⟩ := I.tuple hq
    have p' : s.heap.IsTuple t its.toArray := p
    obtain ⟨u, hu, ru⟩ := rv.get hx
    have lt1 : e < s.heap.objs.size := Heap.lt_size he
    have lt2 : it < s.heap.objs.size := by
      obtain ⟨_, q, _⟩ := hit
      exact Heap.lt_size q
    have htt : t ≠ it := fun z => by
      obtain ⟨o1, e1, c1, _⟩ := hit
      obtain ⟨o2, e2, c2, _⟩ := p'
      rw [z, e1] at e2
      cases e2
      rw [c1] at c2
      exact absurd (Value.type.inj c2) (by decide)
    have hte : t ≠ e := fun z => by
      obtain ⟨o2, e2, c2, _⟩ := p'
      rw [z, he] at e2
      cases e2
      exact absurd (Value.type.inj c2) (by decide)
    have Dr := Draws.tuple (prog := X.prog) (w := X.w) (A := X.A.in1) (I.ok.hd hc) it t htt its.toArray
    have hlt : i < its.toArray.size := by
      have z := (List.getElem?_eq_some_iff.mp hu).1
      simpa using z
    refine wpAny_pyNext_enum_itemD Dr he ⟨hit, p'⟩ hlt hne (fun z => ?_) fun u' h' tk hP ho hs' hT hsz hk => ?_
    · rcases List.mem_cons.mp z with z | z
      · exact hne z
      · exact hte (List.mem_singleton.mp z).symm
    have eu : u' = u := by
      have z : its.toArray[i]? = some u := by simpa using hu
      rw [z] at hP
      exact (Option.some.inj hP).symm
    subst eu
    refine ⟨_, rfl, wpAny_letOwnedTupleGo_enum (s := { s with heap := h', toks := tk + 1 }) ho fun h2 he2 sb => ?_⟩
    have new : ObjOk X.prog X.w (upd H s.heap.objs.size (.tup [.int (i : Nat), x])) h2 s.heap.objs.size (.tup [.int (i : Nat), x]) :=
      ⟨show 2 ≤ sizeLine from lim (by decide), [.int i tk, u'], .cons ⟨_, rfl⟩ (.cons ru .nil), ⟨_, (sb.2 _ (Nat.ne_of_gt lt1)).trans hT, rfl, _, rfl⟩⟩
    have J := I.turnedNew (t' := tk + 1) (ch := [e, it]) (h' := h2) (fun b ob hb q => (sb.2 b fun z => hb (z ▸ List.mem_cons_self)).trans (hk b ob (fun z => hb (z ▸ List.mem_cons_self)) (fun z => hb (z ▸ List.mem_cons_of_mem _ List.mem_cons_self)) q)) hf (Nat.le_refl _) new
    refine ⟨.ref s.heap.objs.size, _, J, rfl, ⟨_, x, rfl, I.hok.fresh (Nat.le_refl _), rfl, fun ys hy => I.tuple_inj hy hq ▸ hx⟩, ⟨⟨u', ?_⟩, hs'.1.at fun o q => (sb.2 it (Ne.symm hne)).trans q, hne⟩, fun b hb => ?_⟩
    · rw [show ((i + 1 : Nat) : Int) = (i : Int) + 1 by omega]
      exact he2
    · have lt : b < s.heap.objs.size := by
        rcases two hb with rfl | rfl
        · exact lt1
        · exact lt2
      rw [upd_ne (Nat.ne_of_lt lt)]
      exact (hf b hb).1
  · rintro X rfl rfl rfl hc i pins s σ H E I hf ⟨⟨old, he⟩, hit, hne⟩ ⟨xs, hq, hx⟩
    obtain ⟨its, rv, p, hz⟩ := I.tuple hq
    have p' : s.heap.IsTuple t its.toArray := p
    have htt : t ≠ it := fun z => by
      obtain ⟨o1, e1, c1, _⟩ := hit
      obtain ⟨o2, e2, c2, _⟩ := p'
      rw [z, e1] at e2
      cases e2
      rw [c1] at c2
      exact absurd (Value.type.inj c2) (by decide)
    have Dr := Draws.tuple (prog := X.prog) (w := X.w) (A := X.A.in1) (I.ok.hd hc) it t htt its.toArray
    have el : its.toArray.size = i := by
      have z := rv.length
      simp only [List.size_toArray]
      omega
    obtain ⟨f0, f1, f2, f3, f4, f5⟩ := hf it (List.mem_cons_of_mem _ List.mem_cons_self)
    exact wpAny_pyNext_enum_endD Dr he ⟨el.symm ▸ hit, p'⟩ fun h' eb => ⟨rfl, I.turned (t' := s.toks) (fun b o hb q => eb b o hb q) f0 f1 f3 f4 f5⟩
end
def iEnT (K : PySem.W.Frag) (ta : TA) : TI := fun σ H R => ta σ H fun vs H1 => ∃ a xs, vs = [.ref a] ∧ SqT K H1 a xs ∧ R (ItE K a) H1
theorem pi_enumT {X : Cx} {e : Expr} {ta : TA} {p pos tpos : Pos} {elts : List Expr} {kk : Nat} (hg : Gl X "enumerate") (hm : X.mg "enumerate" = none) (ha : PA X [e] ta) (hs : HeadP X e [] := by rfl) :
    PI X (.Tuple elts kk tpos) (.Call (.Name "enumerate" p) [e] [] pos) (iEnT X.K ta) := by
  refine ⟨fun pins s σ H R I h => Call_ (ld_blt I hg hm boot_enumerate (PyProof.Rows.callWith_type1 (thn (ha.run pos pins s σ H _ I h) fun us s1 ⟨vs, H1, I1, r1, a, xs, ex, hq, q⟩ => ?_) hs rfl))⟩
  subst ex
  obtain ⟨u, _, rfl, ru, rn⟩ : ∃ u r, us = u :: r ∧ RelV (.ref a) u ∧ Vals [] r := by
    cases r1 with
    | cons r rr => exact ⟨_, _, rfl, r, rr⟩
  cases rn
  obtain rfl : u = Value.ref a := ru
  obtain ⟨its, rv, p', hz⟩ := I1.tuple hq
  refine enumT_call (show s1.heap.IsTuple a its.toArray from p') fun h' he hit hk => wpAny_pyIter_enum he ?_
  refine ⟨s1.heap.objs.size + 1, [s1.heap.objs.size + 1, s1.heap.objs.size], _, _, H1, rfl, I1.kept (t' := s1.toks) hk, turn_enumT a _ s1.heap.objs.size, ⟨⟨.none, he⟩, hit, Nat.succ_ne_self _⟩, fun b hb => ?_, q⟩
  have ge : s1.heap.objs.size ≤ b := by
    rcases List.mem_cons.mp hb with rfl | hb
    · exact Nat.le_succ _
    · rw [List.mem_singleton.mp hb]
      exact Nat.le_refl _
  exact I1.fpOk ge (I1.hok.fresh ge)
/-! ### as data -/
def enumD : Nat → List D → List D
  | _, [] => []
  | n, d :: r => .tup [.int (n : Nat), d] :: enumD (n + 1) r
theorem enumD_len : ∀ (n : Nat) (l : List D), (enumD n l).length = l.length
  | _, [] => rfl
  | n, d :: r => by rw [enumD, List.length_cons, List.length_cons, enumD_len (n + 1) r]
theorem enumD_get : ∀ (n : Nat) (l : List D) (i : Nat), (enumD n l)[i]? = (l[i]?).map fun d => .tup [.int ((n + i : Nat) : Int), d]
  | _, [], i => by simp [enumD]
  | n, d :: r, 0 => rfl
  | n, d :: r, i + 1 => by
    have z := enumD_get (n + 1) r i
    rw [enumD, List.getElem?_cons_succ, List.getElem?_cons_succ, z, show n + 1 + i = n + (i + 1) by omega]
def seqD : D → Option (List D)
  | .lst l => some l
  | .tup l => some l
  | .scr l => some (l.map D.int)
  | _ => none
section
variable {X : Cx} {G : Gx} {W : WX}
/-- a pair that a walk hands out -/
theorem yld_pair {B' H' : Hp} {ρ R' : List Addr} {a' : Sto} (w : Wd G B' H' ρ a' R') {T : Addr} {d e : D} {x y : V} (hT : H' T = none) (rx : Rep G B' ρ d x) (ry : Rep G B' ρ e y) :
    ∃ B'', Wd G B'' (upd H' T (.tup [x, y])) ρ a' R' ∧ Same B' B'' ∧ Kp R' H' (upd H' T (.tup [x, y])) ∧ Rep G B'' ρ (.tup [d, e]) (.ref T) :=
  have s := same_new (o := .tup [x, y]) (w.noneB hT)
  ⟨upd B' T (.tup [x, y]), w.new hT, s, kp_new w hT, T, [x, y], rfl, SqT.of upd_same, Reps.cons (Rep.mono s d x rx) (Reps.cons (Rep.mono s e y ry) Reps.nil)⟩
theorem srv_enumL {B : Hp} {ρ : List Addr} {p : Addr} {xs : List V} {l : List D} (h : SqL G.K B p xs) (r : Reps G B ρ l xs) : Srv G B ρ (Ite G.K p) (enumD 0 l) := fun B' H' a' R' sm w => by
  have h' : SqL G.K H' p xs := (sm.trans w.ex).seq h
  have len := r.len
  rw [enumD_len]
  refine ⟨fun i hi => ⟨xs, xs[i]'(by omega), h', List.getElem?_eq_getElem (by omega)⟩, ⟨xs, h', by omega⟩, fun i d hd x H'' y => ?_⟩
  obtain ⟨T, x0, rfl, hT, rfl, y⟩ := y
  rw [enumD_get, Nat.zero_add] at hd
  cases c : l[i]? with
  | none =>
    rw [c] at hd
    cases hd
  | some d0 =>
    rw [c] at hd
    cases hd
    obtain ⟨x', hx, rx⟩ := r.get c
    have e := y xs h'
    rw [hx] at e
    cases e
    exact yld_pair w hT rfl (Rep.mono sm d0 _ rx)
theorem srv_enumT {B : Hp} {ρ : List Addr} {p : Addr} {xs : List V} {l : List D} (h : SqT G.K B p xs) (r : Reps G B ρ l xs) : Srv G B ρ (ItE G.K p) (enumD 0 l) := fun B' H' a' R' sm w => by
  have h' : SqT G.K H' p xs := sqt_same (sm.trans w.ex) h
  have len := r.len
  rw [enumD_len]
  refine ⟨fun i hi => ⟨xs, xs[i]'(by omega), h', List.getElem?_eq_getElem (by omega)⟩, ⟨xs, h', by omega⟩, fun i d hd x H'' y => ?_⟩
  obtain ⟨T, x0, rfl, hT, rfl, y⟩ := y
  rw [enumD_get, Nat.zero_add] at hd
  cases c : l[i]? with
  | none =>
    rw [c] at hd
    cases hd
  | some d0 =>
    rw [c] at hd
    cases hd
    obtain ⟨x', hx, rx⟩ := r.get c
    have e := y xs h'
    rw [hx] at e
    cases e
    exact yld_pair w hT rfl (Rep.mono sm d0 _ rx)
def gEn : List D → Option (List D)
  | [d] => (seqD d).map (enumD 0)
  | _ => none
def iEn (f : EA) : EI := fun δ a => (f δ a).opt gEn
theorem gEn_eq {ds l : List D} (h : gEn ds = some l) : ∃ d l0, ds = [d] ∧ seqD d = some l0 ∧ l = enumD 0 l0 := by
  match ds, h with
  | [d], h =>
    have h' : (seqD d).map (enumD 0) = some l := h
    cases c : seqD d with
    | none =>
      rw [c] at h'
      cases h'
    | some l0 =>
      rw [c] at h'
      cases h'
      exact ⟨d, l0, rfl, c, rfl⟩
theorem opt_some {β γ : Type} {g : β → Option γ} {b : β} {r : γ} {a : Sto} (h : g b = some r) : Out.opt g (.ok b a) = .ok r a := by
  unfold Out.opt Out.bind
  dsimp only
  rw [h]
theorem opt_none {β γ : Type} {g : β → Option γ} {b : β} {a : Sto} (h : g b = none) : Out.opt g (.ok b a) = .stuck := by
  unfold Out.opt Out.bind
  dsimp only
  rw [h]
theorem di_enum {e : Expr} {f : EA} {elts : List Expr} {kk : Nat} {p pos tpos : Pos} (hK : G.K = X.K) (hm : X.mg "enumerate" = none) (h : DA X G W [e] f) (hg : Gl X "enumerate" := by rfl) (hs : HeadP X e [] := by rfl) :
    DI X G W (.Tuple elts kk tpos) (.Call (.Name "enumerate" p) [e] [] pos) false (iEn f) := by
  obtain ⟨t, pa, s⟩ := h.ex
  refine ⟨_, pi_either (pi_enum hg hm pa hs) (pi_enumT hg hm pa hs), fun ρ R B H σ δ a K w sl q => ?_⟩
  rw [← hK]
  unfold iEn at q
  cases c : f δ a with
  | stuck =>
    rw [c] at q
    exact q.elim
  | exc k ns ds a1 =>
    refine .inl (s ρ R B H σ δ a _ w sl ?_)
    rw [c] at q ⊢
    exact q
  | ok ds a1 =>
    rw [c] at q
    cases c2 : gEn ds with
    | none =>
      rw [opt_none c2] at q
      exact q.elim
    | some l =>
      rw [opt_some c2] at q
      obtain ⟨d, l0, rfl, hd, rfl⟩ := gEn_eq c2
      cases d with
      | lst l1 =>
        cases hd
        refine .inl (s ρ R B H σ δ a _ w sl ?_)
        rw [c]
        intro B' H' w' sm kp vs r
        obtain ⟨v, rfl, rv⟩ := r.one
        obtain ⟨pp, xs, rfl, h1, h2⟩ := rv
        exact ⟨pp, xs, rfl, .of (w'.ex _ _ h1), q B' H' w' sm kp _ (srv_enumL (.of h1) h2)⟩
      | scr l1 =>
        cases hd
        refine .inl (s ρ R B H σ δ a _ w sl ?_)
        rw [c]
        intro B' H' w' sm kp vs r
        obtain ⟨v, rfl, rv⟩ := r.one
        obtain ⟨pp, rfl, h1⟩ := rv
        exact ⟨pp, _, rfl, w'.ex.seq h1, q B' H' w' sm kp _ (srv_enumL h1 (Reps.ints.mpr rfl))⟩
      | tup l1 =>
        cases hd
        refine .inr (s ρ R B H σ δ a _ w sl ?_)
        rw [c]
        intro B' H' w' sm kp vs r
        obtain ⟨v, rfl, rv⟩ := r.one
        obtain ⟨pp, xs, rfl, h1, h2⟩ := rv
        exact ⟨pp, xs, rfl, sqt_same w'.ex h1, q B' H' w' sm kp _ (srv_enumT h1 h2)⟩
      | _ => cases hd
end
end DL

namespace DL
open PySem PySem.Spec PyProof.Rows L2

/-! ## zip(a, b): two lists or two tuples -/
def zipD : List D → List D → List D
  | d :: r, e :: s => .tup [d, e] :: zipD r s
  | _, _ => []
theorem zipD_len : ∀ (l m : List D), (zipD l m).length = min l.length m.length
  | [], m => by simp [zipD]
  | d :: r, [] => by simp [zipD]
  | d :: r, e :: s => by
    rw [zipD, List.length_cons, zipD_len r s, List.length_cons, List.length_cons]
    omega
theorem zipD_get : ∀ (l m : List D) (i : Nat) (d : D), (zipD l m)[i]? = some d → ∃ x y, l[i]? = some x ∧ m[i]? = some y ∧ d = .tup [x, y]
  | [], m, i, d, h => by simp [zipD] at h
  | x :: r, [], i, d, h => by simp [zipD] at h
  | x :: r, y :: s, 0, d, h => by
    cases h
    exact ⟨x, y, rfl, rfl, rfl⟩
  | x :: r, y :: s, i + 1, d, h => by
    rw [zipD, List.getElem?_cons_succ] at h
    exact zipD_get r s i d h
section
variable {X : Cx} {G : Gx} {W : WX}
theorem srv_zipL {B : Hp} {ρ : List Addr} {p p2 : Addr} {xs ys : List V} {l m : List D} (h : SqL G.K B p xs) (r : Reps G B ρ l xs) (h2 : SqL G.K B p2 ys) (r2 : Reps G B ρ m ys) : Srv G B ρ (Itz G.K p p2) (zipD l m) := fun B' H' a' R' sm w => by
  have g : SqL G.K H' p xs := (sm.trans w.ex).seq h
  have g2 : SqL G.K H' p2 ys := (sm.trans w.ex).seq h2
  have len := r.len
  have len2 := r2.len
  rw [zipD_len]
  refine ⟨fun i hi => ⟨xs, ys, xs[i]'(by omega), ys[i]'(by omega), g, g2, List.getElem?_eq_getElem (by omega), List.getElem?_eq_getElem (by omega)⟩, ⟨xs, ys, g, g2, by omega⟩, fun i d hd x H'' y => ?_⟩
  obtain ⟨T, x0, y0, rfl, hT, rfl, y1, y2⟩ := y
  obtain ⟨d1, d2, c1, c2, rfl⟩ := zipD_get l m i d hd
  obtain ⟨x', hx, rx⟩ := r.get c1
  obtain ⟨y', hy, ry⟩ := r2.get c2
  have e1 := y1 xs g
  have e2 := y2 ys g2
  rw [hx] at e1
  rw [hy] at e2
  cases e1
  cases e2
  exact yld_pair w hT (Rep.mono sm d1 _ rx) (Rep.mono sm d2 _ ry)
theorem srv_zipT {B : Hp} {ρ : List Addr} {p p2 : Addr} {xs ys : List V} {l m : List D} (h : SqT G.K B p xs) (r : Reps G B ρ l xs) (h2 : SqT G.K B p2 ys) (r2 : Reps G B ρ m ys) : Srv G B ρ (RZ.ItzT G.K p p2) (zipD l m) := fun B' H' a' R' sm w => by
  have g : SqT G.K H' p xs := sqt_same (sm.trans w.ex) h
  have g2 : SqT G.K H' p2 ys := sqt_same (sm.trans w.ex) h2
  have len := r.len
  have len2 := r2.len
  rw [zipD_len]
  refine ⟨fun i hi => ⟨xs, ys, xs[i]'(by omega), ys[i]'(by omega), g, g2, List.getElem?_eq_getElem (by omega), List.getElem?_eq_getElem (by omega)⟩, ⟨xs, ys, g, g2, by omega⟩, fun i d hd x H'' y => ?_⟩
  obtain ⟨T, x0, y0, rfl, hT, rfl, y1, y2⟩ := y
  obtain ⟨d1, d2, c1, c2, rfl⟩ := zipD_get l m i d hd
  obtain ⟨x', hx, rx⟩ := r.get c1
  obtain ⟨y', hy, ry⟩ := r2.get c2
  have e1 := y1 xs g
  have e2 := y2 ys g2
  rw [hx] at e1
  rw [hy] at e2
  cases e1
  cases e2
  exact yld_pair w hT (Rep.mono sm d1 _ rx) (Rep.mono sm d2 _ ry)
def gZp : List D → Option (List D)
  | [.lst l, .lst m] => some (zipD l m)
  | [.tup l, .tup m] => some (zipD l m)
  | _ => none
def iZp (f : EA) : EI := fun δ a => (f δ a).opt gZp
theorem gZp_eq {ds l : List D} (h : gZp ds = some l) : (∃ l1 l2, ds = [.lst l1, .lst l2] ∧ l = zipD l1 l2) ∨ ∃ l1 l2, ds = [.tup l1, .tup l2] ∧ l = zipD l1 l2 := by
  unfold gZp at h
  split at h
  · exact .inl ⟨_, _, rfl, (Option.some.inj h).symm⟩
  · exact .inr ⟨_, _, rfl, (Option.some.inj h).symm⟩
  · cases h
theorem di_zip {e e2 : Expr} {f : EA} {elts : List Expr} {kk : Nat} {p pos tpos : Pos} (hK : G.K = X.K) (hm : X.mg "zip" = none) (h : DA X G W [e, e2] f) (hg : Gl X "zip" := by rfl) (hs : HeadP X e [e2] := by rfl) (hpl : RestP X pos [e2] := by rfl) :
    DI X G W (.Tuple elts kk tpos) (.Call (.Name "zip" p) [e, e2] [] pos) false (iZp f) := by
  obtain ⟨t, pa, s⟩ := h.ex
  refine ⟨_, RZ.pi_zipA hg hm pa hs hpl, fun ρ R B H σ δ a K w sl q => s ρ R B H σ δ a _ w sl (Fin.imp (Fin.seqo q) fun ds a' B' H' w' sm kp q1 vs r => ?_)⟩
  rw [← hK]
  obtain ⟨l, e0, z⟩ := q1
  rcases gZp_eq e0 with ⟨l1, l2, rfl, rfl⟩ | ⟨l1, l2, rfl, rfl⟩
  · obtain ⟨x, y, rfl, ⟨p1, xs, rfl, h1, h2⟩, ⟨p2, ys, rfl, h3, h4⟩⟩ := r.two
    exact ⟨p1, p2, xs, ys, rfl, .inl ⟨.of (w'.ex _ _ h1), .of (w'.ex _ _ h3), z _ (srv_zipL (.of h1) h2 (.of h3) h4)⟩⟩
  · obtain ⟨x, y, rfl, ⟨p1, xs, rfl, h1, h2⟩, ⟨p2, ys, rfl, h3, h4⟩⟩ := r.two
    exact ⟨p1, p2, xs, ys, rfl, .inr ⟨sqt_same w'.ex h1, sqt_same w'.ex h3, z _ (srv_zipT h1 h2 h3 h4)⟩⟩
end
end DL

namespace DL
open PySem PySem.Spec PyProof.Rows L2

/-! ## places in lists that the def alone has: xs[i] = e, xs[i][j] = e, xs[i].append(e) -/
/-- the list that a row of indices leads to -/
def focL : List Int → M → Option (List M)
  | [], .lst ms => some ms
  | j :: js, .lst ms => match L2.atI ms j with
    | some m => focL js m
    | none => none
  | _, _ => none
/-- another one in its place -/
def putL : List Int → List M → M → M
  | [], n, _ => .lst n
  | j :: js, n, .lst ms => match ixN ms.length j with
    | some k => (match ms[k]? with
      | some m => .lst (ms.set k (putL js n m))
      | none => .lst ms)
    | none => .lst ms
  | _ :: _, _, m => m
def walkV (H : Hp) : List Int → V → Addr → Prop
  | [], v, p => v = .ref p
  | j :: js, v, p => ∃ (q : Addr) (xs : List V) (x : V), v = .ref q ∧ H q = some (.lst xs) ∧ L2.atI xs j = some x ∧ walkV H js x p
theorem walk_snoc {H : Hp} {k : Int} {p q : Addr} {xs : List V} : ∀ {js : List Int} {v : V}, walkV H js v q → H q = some (.lst xs) → L2.atI xs k = some (.ref p) → walkV H (js ++ [k]) v p
  | [], v, h, h1, h2 => ⟨q, xs, _, h, h1, h2, rfl⟩
  | j :: js, v, ⟨q', xs', x, e, g1, g2, g3⟩, h1, h2 => ⟨q', xs', x, e, g1, g2, walk_snoc g3 h1 h2⟩
theorem walk_unsnoc {H : Hp} {k : Int} {p : Addr} : ∀ {js : List Int} {v : V}, walkV H (js ++ [k]) v p → ∃ (q : Addr) (xs : List V), walkV H js v q ∧ H q = some (.lst xs) ∧ L2.atI xs k = some (.ref p)
  | [], v, ⟨q, xs, x, e, h1, h2, h3⟩ => ⟨q, xs, e, h1, by rw [h2, show x = V.ref p from h3]⟩
  | j :: js, v, ⟨q', xs', x, e, g1, g2, g3⟩ => by
    obtain ⟨q, xs, a, b, c⟩ := walk_unsnoc g3
    exact ⟨q, xs, ⟨q', xs', x, e, g1, g2, a⟩, b, c⟩
section
variable {G : Gx} {B H : Hp} {ρ : List Addr}
/-- one of what is owned, and the others -/
theorem Owns.split : ∀ {ms : List M} {xs : List V} {F : List Addr} {k : Nat} {m : M}, Owns G B H ρ ms xs F → ms[k]? = some m →
    ∃ x F1 Fr, xs[k]? = some x ∧ Own G B H ρ m x F1 ∧ F.Perm (F1 ++ Fr) ∧ ∀ (B' H' : Hp) (m' : M) (F1' : List Addr), Same B B' → (∀ q ∈ Fr, H' q = H q) → Own G B' H' ρ m' x F1' → ∃ F', F'.Perm (F1' ++ Fr) ∧ Owns G B' H' ρ (ms.set k m') xs F'
  | [], xs, F, k, m, h, e => by simp at e
  | m0 :: ms, xs, F, 0, m, h, e => by
    obtain ⟨x, r, F1, F2, rfl, rfl, h3, h4⟩ := h
    have e' : m0 = m := by simpa using e
    subst e'
    exact ⟨x, F1, F2, rfl, h3, List.Perm.refl _, fun B' H' m' F1' s k o => ⟨F1' ++ F2, List.Perm.refl _, x, r, F1', F2, rfl, rfl, o, Owns.mono s ms r F2 k h4⟩⟩
  | m0 :: ms, xs, F, k + 1, m, h, e => by
    obtain ⟨x, r, F1, F2, rfl, rfl, h3, h4⟩ := h
    obtain ⟨y, G1, Gr, h5, h6, h7, h8⟩ := Owns.split (k := k) h4 (by simpa using e)
    refine ⟨y, G1, F1 ++ Gr, by simpa using h5, h6, ?_, fun B' H' m' F1' s kk o => ?_⟩
    · refine (List.Perm.append_left F1 h7).trans ?_
      rw [← List.append_assoc, ← List.append_assoc]
      exact List.Perm.append_right Gr List.perm_append_comm
    · obtain ⟨F', p', o'⟩ := h8 B' H' m' F1' s (fun q hq => kk q (List.mem_append_right _ hq)) o
      refine ⟨F1 ++ F', ?_, x, r, F1, F', rfl, rfl, Own.mono s m0 x F1 (fun q hq => kk q (List.mem_append_left _ hq)) h3, o'⟩
      refine (List.Perm.append_left F1 p').trans ?_
      rw [← List.append_assoc, ← List.append_assoc]
      exact List.Perm.append_right Gr List.perm_append_comm
/-- the list at a place, and the rest -/
theorem Own.foc : ∀ {js : List Int} {m : M} {v : V} {F : List Addr} {ms : List M}, Own G B H ρ m v F → focL js m = some ms →
    ∃ p xs Fm Fr, walkV H js v p ∧ H p = some (.lst xs) ∧ Owns G B H ρ ms xs Fm ∧ F.Perm (p :: (Fm ++ Fr)) ∧
      ∀ (B' H' : Hp) (ms' : List M) (xs' : List V) (Fm' : List Addr), Same B B' → (∀ q ∈ Fr, H' q = H q) → H' p = some (.lst xs') → Owns G B' H' ρ ms' xs' Fm' → ∃ F', F'.Perm (p :: (Fm' ++ Fr)) ∧ Own G B' H' ρ (putL js ms' m) v F'
  | [], .lst ms0, v, F, ms, h, e => by
    obtain ⟨p, xs, F', rfl, h2, rfl, h4⟩ := h
    have e' : ms0 = ms := Option.some.inj e
    subst e'
    exact ⟨p, xs, F', [], rfl, h2, h4, by rw [List.append_nil], fun B' H' ms' xs' Fm' s k hp o => ⟨p :: Fm', by rw [List.append_nil], p, xs', Fm', rfl, hp, rfl, o⟩⟩
  | j :: js, .lst ms0, v, F, ms, h, e => by
    obtain ⟨p0, xs0, F0, rfl, h2, rfl, h4⟩ := h
    unfold focL at e
    cases c : L2.atI ms0 j with
    | none =>
      rw [c] at e
      cases e
    | some m1 =>
      rw [c] at e
      dsimp only at e
      unfold L2.atI at c
      obtain ⟨k, c1, c2⟩ := Option.bind_eq_some_iff.mp c
      obtain ⟨x, F1, Fr1, g1, g2, g3, g4⟩ := Owns.split h4 c2
      obtain ⟨p, xs, Fm, Fr, a1, a2, a3, a4, a5⟩ := Own.foc g2 e
      refine ⟨p, xs, Fm, Fr ++ (p0 :: Fr1), ⟨p0, xs0, x, rfl, h2, ?_, a1⟩, a2, a3, ?_, fun B' H' ms' xs' Fm' s k' hp o => ?_⟩
      · unfold L2.atI
        rw [← h4.len, c1]
        exact g1
      · have z1 : (p0 :: F0).Perm (p0 :: ((p :: (Fm ++ Fr)) ++ Fr1)) := List.Perm.cons _ (g3.trans (List.Perm.append_right _ a4))
        refine z1.trans ?_
        have z2 : (p0 :: ((p :: (Fm ++ Fr)) ++ Fr1)).Perm ((p :: (Fm ++ Fr)) ++ (p0 :: Fr1)) := List.perm_middle.symm
        refine z2.trans ?_
        simp only [List.cons_append, List.append_assoc]
        exact List.Perm.refl _
      · obtain ⟨F', b1, b2⟩ := a5 B' H' ms' xs' Fm' s (fun q hq => k' q (List.mem_append_left _ hq)) hp o
        obtain ⟨F2, b3, b4⟩ := g4 B' H' (putL js ms' m1) F' s (fun q hq => k' q (List.mem_append_right _ (List.mem_cons_of_mem _ hq))) b2
        refine ⟨p0 :: F2, ?_, ?_⟩
        · have z1 : (p0 :: F2).Perm (p0 :: ((p :: (Fm' ++ Fr)) ++ Fr1)) := List.Perm.cons _ (b3.trans (List.Perm.append_right _ b1))
          refine z1.trans ?_
          have z2 : (p0 :: ((p :: (Fm' ++ Fr)) ++ Fr1)).Perm ((p :: (Fm' ++ Fr)) ++ (p0 :: Fr1)) := List.perm_middle.symm
          refine z2.trans ?_
          simp only [List.cons_append, List.append_assoc]
          exact List.Perm.refl _
        · unfold putL
          rw [c1]
          dsimp only
          rw [c2]
          exact ⟨p0, xs0, F2, rfl, (k' p0 (List.mem_append_right _ List.mem_cons_self)).trans h2, rfl, b4⟩
  | [], .val _, _, _, _, _, e => by cases e
  | [], .tup _, _, _, _, _, e => by cases e
  | [], .obj _ _ _, _, _, _, _, e => by cases e
  | _ :: _, .val _, _, _, _, _, e => by cases e
  | _ :: _, .tup _, _, _, _, _, e => by cases e
  | _ :: _, .obj _ _ _, _, _, _, _, e => by cases e
end
/-! ### indices and places that the slots alone tell -/
abbrev QI := SlM → Option Int
def qInt (k : Int) : QI := fun _ => some k
def qVar (i : Nat) : QI := fun δ => match δ[i]? with
  | some (some (.val (.int k))) => some k
  | _ => none
structure DQ (X : Cx) (G : Gx) (e : Expr) (f : QI) : Prop where
  ex : ∃ t, PE X e t ∧ ∀ (ρ : List Addr) (B H : Hp) (σ : L2.St) (δ : SlM) (F : List Addr) (i : Int) (Q : VK), OwnS G B H ρ δ σ F → f δ = some i → Q (.int i) H → t σ H Q
section
variable {X : Cx} {G : Gx} {W : WX}
theorem dq_int {k : Int} {j pos} : DQ X G (.Constant (.int k) j pos) (qInt k) := ⟨_, pe_int, fun ρ B H σ δ F i Q os e q => by
  cases e
  exact q⟩
theorem OwnS.val {B H : Hp} {ρ : List Addr} {δ : SlM} {σ : L2.St} {F : List Addr} {i : Nat} {d : D} (os : OwnS G B H ρ δ σ F) (e : δ[i]? = some (some (.val d))) : ∃ v, σ[i]? = some (some v) ∧ Rep G B ρ d v := by
  obtain ⟨v, Fi, Fr, _, h1, h2, _⟩ := OwnS.take os e
  exact ⟨v, h1, h2.2⟩
theorem dq_var {i : Nat} {x : Str} {pos : Pos} (hN : X.N[i]? = some x) (hv : Vis X.env.scope x) (hd : NotDbg x := by decide) (hcd : (x == ("__classdict__" : Str)) = false := by decide) : DQ X G (.Name x pos) (qVar i) := by
  refine ⟨tVar i, pe_var hN hv hd hcd, fun ρ B H σ δ F k Q os e q => ?_⟩
  unfold qVar at e
  split at e
  · rename_i k' c
    cases e
    obtain ⟨v, h1, h2⟩ := os.val c
    have h3 : v = .int k := h2
    subst h3
    exact ⟨_, h1, q⟩
  · cases e
/-- -1 as Python reads it -/
theorem dq_neg {e : Expr} {f : QI} {pos : Pos} (h : DQ X G e f) : DQ X G (.UnaryOp .USub e pos) (fun δ => (f δ).map fun i => -i) := by
  obtain ⟨t, p, s⟩ := h.ex
  refine ⟨_, pe_un un_neg p, fun ρ B H σ δ F k Q os e q => ?_⟩
  cases c : f δ with
  | none =>
    rw [c] at e
    cases e
  | some i =>
    rw [c] at e
    cases e
    exact s ρ B H σ δ F i _ os c ⟨i, rfl, q⟩
abbrev QP := SlM → Option (List Int)
structure DPt (X : Cx) (G : Gx) (e : Expr) (i : Nat) (f : QP) : Prop where
  ex : ∃ t, PE X e t ∧ ∀ (ρ : List Addr) (B H : Hp) (σ : L2.St) (δ : SlM) (F : List Addr) (js : List Int) (v : V) (p : Addr) (Q : VK), OwnS G B H ρ δ σ F → f δ = some js → σ[i]? = some (some v) → walkV H js v p → Q (.ref p) H → t σ H Q
def ptNil : QP := fun _ => some []
def ptAt (f : QP) (g : QI) : QP := fun δ => match f δ, g δ with
  | some js, some k => some (js ++ [k])
  | _, _ => none
theorem dpt_nil {i : Nat} {x : Str} {pos : Pos} (hN : X.N[i]? = some x) (hv : Vis X.env.scope x) (hd : NotDbg x := by decide) (hcd : (x == ("__classdict__" : Str)) = false := by decide) : DPt X G (.Name x pos) i ptNil := by
  refine ⟨tVar i, pe_var hN hv hd hcd, fun ρ B H σ δ F js v p Q os e h1 w q => ?_⟩
  cases e
  have w' : v = .ref p := w
  subst w'
  exact ⟨_, h1, q⟩
theorem dpt_at {e1 e2 : Expr} {i : Nat} {f : QP} {g : QI} {pos : Pos} (h : DPt X G e1 i f) (k : DQ X G e2 g) (hs : PlainIx e2) : DPt X G (.Subscript e1 e2 pos) i (ptAt f g) := by
  obtain ⟨t, p, s⟩ := h.ex
  obtain ⟨u, p2, s2⟩ := k.ex
  refine ⟨_, pe_ix ix_list p p2 hs, fun ρ B H σ δ F js v pp Q os e h1 w q => ?_⟩
  unfold ptAt at e
  cases c1 : f δ with
  | none =>
    rw [c1] at e
    cases e
  | some js1 =>
    rw [c1] at e
    cases c2 : g δ with
    | none =>
      rw [c2] at e
      cases e
    | some k1 =>
      rw [c2] at e
      cases e
      obtain ⟨q1, xs, w1, w2, w3⟩ := walk_unsnoc w
      exact s ρ B H σ δ F js1 v q1 _ os c1 h1 w1 (s2 ρ B H σ δ F k1 _ os c2 ⟨q1, xs, k1, _, rfl, rfl, SqL.of w2, w3, q⟩)
/-! ### the owned list of a slot rewritten -/
/-- from what stood to what stands, where the list at p was rewritten -/
theorem OwnS.rewrite {B1 H2 : Hp} {ρ R : List Addr} {a1 : Sto} {δ1 : SlM} {σ : L2.St} {Fa Fi Fm Fm' F1 : List Addr} {i : Nat} {m2 : M} {v0 : V} {p : Addr} {Fr F' : List Addr}
    (w : Wd G B1 H2 ρ a1 (F1 ++ (Fa ++ (Fi ++ R)))) (h0 : σ[i]? = some (some v0)) (hi : i < δ1.length) (pf : Fi.Perm (p :: (Fm ++ Fr))) (p' : F'.Perm (p :: (Fm' ++ Fr))) (sub : ∃ Fx, (Fm ++ F1).Perm (Fm' ++ Fx))
    (os : OwnS G B1 H2 ρ δ1 σ Fa) (o : Own G B1 H2 ρ m2 v0 F') : ∃ F3, Wd G B1 H2 ρ a1 (F3 ++ R) ∧ OwnS G B1 H2 ρ (δ1.set i (some m2)) σ F3 := by
  obtain ⟨Fx, px⟩ := sub
  obtain ⟨Fa2, Fb2, F3, y1, y3, h6⟩ := OwnS.set o os hi
  have es : σ.set i (some v0) = σ := by
    obtain ⟨hlt, e⟩ := List.getElem?_eq_some_iff.mp h0
    rw [← e]
    exact List.set_getElem_self hlt
  rw [es] at h6
  refine ⟨F3, ?_, h6⟩
  have cnt : ∀ q : Addr, List.count q (F1 ++ (Fa ++ (Fi ++ R))) = List.count q ((Fx ++ Fa2) ++ (F3 ++ R)) := fun q => by
    have e1 := List.perm_iff_count.mp pf q
    have e2 := List.perm_iff_count.mp p' q
    have e3 := List.perm_iff_count.mp px q
    have e4 := List.perm_iff_count.mp y1 q
    have e5 := List.perm_iff_count.mp y3 q
    simp only [List.count_append, List.count_cons] at *
    omega
  exact (w.perm (List.perm_iff_count.mpr cnt)).drop
/-- an expression while the slot i is out of sight -/
theorem hid_ok {t : TE} {f : EM} {I : List Nat} {B H : Hp} {ρ R F Fi Fr : List Addr} {a : Sto} {δ : SlM} {σ : L2.St} {i : Nat} {k : M → SM} {E : Ends} {Q : VK} (hf : MOk G W t f) (w : Wd G B H ρ a (F ++ R)) (pf : F.Perm (Fi ++ Fr)) (os2 : OwnS G B H ρ (δ.set i none) σ Fr)
    (q : FinS G W ρ R B H ((lift I f (δ.set i none) a).seq k) E)
    (hk : ∀ m δ1 a1 B1 H1 v F1 Fa, Wd G B1 H1 ρ a1 (F1 ++ (Fa ++ (Fi ++ R))) → Same B B1 → Own G B1 H1 ρ m v F1 → OwnS G B1 H1 ρ δ1 σ Fa → (∀ q ∈ Fi, H1 q = H q) → FinS G W ρ R B1 H1 (k m δ1 a1) E → Q v H1) : t σ H Q := by
  have w2 : Wd G B H ρ a (Fr ++ (Fi ++ R)) := by
    refine w.perm ?_
    have z := List.Perm.append_right R (pf.trans List.perm_append_comm)
    rw [List.append_assoc] at z
    exact z
  refine lift_ok (R := Fi ++ R) (I := I) hf w2 os2 ?_
  cases c : lift I f (δ.set i none) a with
  | stuck =>
    rw [c] at q
    exact q.elim
  | exc cc ns ds δ1 a1 =>
    rw [c] at q
    intro B1 H1 dd F1 w1 sm kp x os1
    refine q B1 H1 σ dd F1 ?_ sm kp.right x os1
    have z : (F1 ++ (Fi ++ R)).Perm (Fi ++ (F1 ++ R)) := by
      rw [← List.append_assoc, ← List.append_assoc]
      exact List.Perm.append_right R List.perm_append_comm
    exact (w1.perm z).drop
  | ok m δ1 a1 =>
    rw [c] at q
    intro B1 H1 v Fa F1 w1 sm kp om os1
    exact hk m δ1 a1 B1 H1 v F1 Fa w1 sm om os1 kp.left (FinS.base q sm kp.right)
/-- where no address is told twice -/
theorem apart_at {ρ : List Addr} {B H : Hp} {a : Sto} {F1 Fa Fi Fm Fr R : List Addr} {p : Addr} (w : Wd G B H ρ a (F1 ++ (Fa ++ (Fi ++ R)))) (pf : Fi.Perm (p :: (Fm ++ Fr))) : ∀ q, q ∈ F1 ∨ q ∈ Fa ∨ q ∈ Fm ∨ q ∈ Fr ∨ q ∈ R → q ≠ p := fun q hq z => by
  subst z
  have nd := (List.nodup_append.mp w.nd).2.1
  have one : List.count q (F1 ++ (Fa ++ (Fi ++ R))) ≤ 1 := List.nodup_iff_count.mp nd q
  have e := List.perm_iff_count.mp pf q
  simp only [List.count_append, List.count_cons_self] at one e
  have pos : ∀ {l : List Addr}, q ∈ l → 0 < List.count q l := fun h => List.count_pos_iff.mpr h
  rcases hq with h | h | h | h | h
  all_goals
    have z := pos h
    omega
/-- the list at p rewritten, and the slot that leads to it -/
theorem rewrite_at {B H B1 H1 : Hp} {ρ R F1 Fa Fi Fm Fm' Fr : List Addr} {a1 : Sto} {δ1 : SlM} {σ : L2.St} {i : Nat} {js : List Int} {mo : M} {v0 : V} {p : Addr} {ms' : List M} {xs' : List V}
    (w : Wd G B1 H1 ρ a1 (F1 ++ (Fa ++ (Fi ++ R)))) (sm : Same B B1) (os : OwnS G B1 H1 ρ δ1 σ Fa) (h0 : σ[i]? = some (some v0)) (hi : i < δ1.length) (kp : ∀ q ∈ Fi, H1 q = H q) (pf : Fi.Perm (p :: (Fm ++ Fr)))
    (g : ∀ (B' H' : Hp) (ms' : List M) (xs' : List V) (Fm' : List Addr), Same B B' → (∀ q ∈ Fr, H' q = H q) → H' p = some (.lst xs') → Owns G B' H' ρ ms' xs' Fm' → ∃ F', F'.Perm (p :: (Fm' ++ Fr)) ∧ Own G B' H' ρ (putL js ms' mo) v0 F')
    (sub : ∃ Fx, (Fm ++ F1).Perm (Fm' ++ Fx)) (o : Owns G B1 (upd H1 p (.lst xs')) ρ ms' xs' Fm') :
    ∃ F3, Wd G B1 (upd H1 p (.lst xs')) ρ a1 (F3 ++ R) ∧ OwnS G B1 (upd H1 p (.lst xs')) ρ (δ1.set i (some (putL js ms' mo))) σ F3 ∧ Kp R H1 (upd H1 p (.lst xs')) := by
  have ne := apart_at w pf
  have inp : p ∈ F1 ++ (Fa ++ (Fi ++ R)) := List.mem_append_right _ (List.mem_append_right _ (List.mem_append_left _ (pf.mem_iff.mpr List.mem_cons_self)))
  obtain ⟨F', p', o'⟩ := g B1 (upd H1 p (.lst xs')) ms' xs' Fm' sm (fun q hq => by
    rw [upd_ne (ne q (.inr (.inr (.inr (.inl hq)))))]
    exact kp q (pf.mem_iff.mpr (List.mem_cons_of_mem _ (List.mem_append_right _ hq)))) upd_same o
  have os' : OwnS G B1 (upd H1 p (.lst xs')) ρ δ1 σ Fa := OwnS.mono (Same.refl _) _ _ _ (fun q hq => upd_ne (ne q (.inr (.inl hq)))) os
  obtain ⟨F3, w3, h3⟩ := OwnS.rewrite (w.updO inp) h0 hi pf p' sub os' o'
  exact ⟨F3, w3, h3, fun q hq => upd_ne (ne q (.inr (.inr (.inr (.inr hq)))))⟩
/-! ### xs[..].append(e) -/
def sAppP (I : List Nat) (i : Nat) (fp : QP) (f : EM) : SM := fun δ a => match δ[i]? with
  | some (some mo) => (match fp δ with
    | some js => (match focL js mo with
      | some ms => (lift I f (δ.set i none) a).seq fun m δ1 a1 => if ms.length < 100000 ∧ i < δ1.length then .nx (δ1.set i (some (putL js (ms ++ [m]) mo))) a1 else .stuck
      | none => .stuck)
    | none => .stuck)
  | _ => .stuck
theorem ds_appendP {e o : Expr} {i : Nat} {fp : QP} {f : EM} {p2 p3 pos : Pos} (I : List Nat) (ho : DPt X G o i fp) (he : DM X G W e f)
    (hbase : NoSup X o "append" := by rfl) (hfew : FewA X p3 [e] := by rfl) (hline : OneRow p2 p3 := by rfl) (hs : HeadP X e [] := by rfl) (hpl : RestP X p3 [] := by rfl)
    (hsw : swapsWith (.Call (.Attribute o "append" p2) [e] [] p3) none pos.line X.env = pure false := by rfl) :
    DS X G W (.Expr (.Call (.Attribute o "append" p2) [e] [] p3) pos) (sAppP I i fp f) := by
  obtain ⟨te, pe, se⟩ := he.ex
  obtain ⟨to, po, so⟩ := ho.ex
  refine ⟨_, ps_expr (pe_bm PySem.F.plainAttrs_list PySem.F.slot_list_append PySem.F.type_list_append mt_append po (pa_cons pe pa_nil hs) hbase hfew hline hs hpl) hsw, fun ρ R B H σ δ a F Z w os q => ?_⟩
  unfold sAppP at q
  cases c0 : δ[i]? with
  | none =>
    rw [c0] at q
    exact q.elim
  | some o0 =>
    rw [c0] at q
    cases o0 with
    | none => exact q.elim
    | some mo =>
      dsimp only at q
      cases c1 : fp δ with
      | none =>
        rw [c1] at q
        exact q.elim
      | some js =>
        rw [c1] at q
        dsimp only at q
        cases c2 : focL js mo with
        | none =>
          rw [c2] at q
          exact q.elim
        | some ms =>
          rw [c2] at q
          dsimp only at q
          obtain ⟨v0, Fi, Fr', pf, h0, o0, os2⟩ := OwnS.take os c0
          obtain ⟨pp, xs, Fm, Fr, g1, g2, g3, g4, g5⟩ := Own.foc o0 c2
          refine so ρ B H σ δ F js v0 pp _ os c1 h0 g1 ⟨.inl ⟨rfl, _, SqL.of g2⟩, ?_⟩
          refine hid_ok se w pf os2 q fun m δ1 a1 B1 H1 v F1 Fa w1 sm om os1 kp q1 => ?_
          by_cases c3 : ms.length < 100000 ∧ i < δ1.length
          · rw [if_pos c3] at q1
            have inI : ∀ q, q = pp ∨ q ∈ Fm → q ∈ Fi := fun q hq => g4.mem_iff.mpr (hq.elim (fun z => z ▸ List.mem_cons_self) fun z => List.mem_cons_of_mem _ (List.mem_append_left _ z))
            have hp1 : H1 pp = some (.lst xs) := (kp pp (inI pp (.inl rfl))).trans g2
            have hl : xs.length < sizeLine := by
              rw [sizeLine_eq, ← g3.len]
              omega
            refine ⟨pp, xs, v, rfl, rfl, hp1, hl, ?_⟩
            have ne := apart_at w1 g4
            have ow : Owns G B1 (upd H1 pp (.lst (xs ++ [v]))) ρ (ms ++ [m]) (xs ++ [v]) (Fm ++ F1) := Owns.snoc
              (Owns.mono sm ms xs Fm (fun q hq => (upd_ne (ne q (.inr (.inr (.inl hq))))).trans (kp q (inI q (.inr hq)))) g3) (Own.mono (Same.refl _) m v F1 (fun q hq => upd_ne (ne q (.inl hq))) om)
            obtain ⟨F3, w3, h3, k3⟩ := rewrite_at w1 sm os1 h0 c3.2 kp g4 g5 ⟨[], by rw [List.append_nil]⟩ ow
            exact q1 B1 _ σ F3 w3 (Same.refl _) k3 h3
          · rw [if_neg c3] at q1
            exact q1.elim
/-! ### xs[..][k] = e -/
def sSetP (I : List Nat) (i : Nat) (fp : QP) (fk : QI) (f : EM) : SM := fun δ a => (lift I f δ a).seq fun m δ1 a1 => match δ1[i]? with
  | some (some mo) => (match fp δ1 with
    | some js => (match focL js mo with
      | some ms => (match fk δ1 with
        | some k => (match ixN ms.length k with
          | some j => .nx (δ1.set i (some (putL js (ms.set j m) mo))) a1
          | none => .stuck)
        | none => .stuck)
      | none => .stuck)
    | none => .stuck)
  | _ => .stuck
theorem Owns.setAt {B H : Hp} {ρ : List Addr} {m : M} {v : V} {F1 : List Addr} (hm : Own G B H ρ m v F1) : ∀ {ms : List M} {xs : List V} {F : List Addr} {k : Nat}, Owns G B H ρ ms xs F → k < ms.length → ∃ Fo F', (F ++ F1).Perm (F' ++ Fo) ∧ Owns G B H ρ (ms.set k m) (xs.set k v) F'
  | [], xs, F, k, h, hk => absurd hk (Nat.not_lt_zero _)
  | m0 :: ms, xs, F, 0, h, hk => by
    obtain ⟨x, r, G1, G2, rfl, rfl, h3, h4⟩ := h
    refine ⟨G1, F1 ++ G2, ?_, v, r, F1, G2, rfl, rfl, hm, h4⟩
    have z : ((G1 ++ G2) ++ F1).Perm (G1 ++ (F1 ++ G2)) := by
      rw [List.append_assoc]
      exact List.Perm.append_left _ List.perm_append_comm
    exact z.trans List.perm_append_comm
  | m0 :: ms, xs, F, k + 1, h, hk => by
    obtain ⟨x, r, G1, G2, rfl, rfl, h3, h4⟩ := h
    obtain ⟨Fo, F', p1, o1⟩ := Owns.setAt (k := k) hm h4 (Nat.lt_of_succ_lt_succ hk)
    refine ⟨Fo, G1 ++ F', ?_, x, _, G1, F', rfl, rfl, h3, o1⟩
    rw [List.append_assoc, List.append_assoc]
    exact List.Perm.append_left _ p1
theorem ds_setP {e o e2 : Expr} {i : Nat} {fp : QP} {fk : QI} {f : EM} {tpos pos : Pos} (I : List Nat) (he : DM X G W e f) (ho : DPt X G o i fp) (hk : DQ X G e2 fk)
    (hs : swapsWithSole [.Subscript o e2 tpos] e pos.line X.env = pure false := by rfl) (hw : swappedStores [.Subscript o e2 tpos] e X.env = pure none := by rfl)
    (h1 : (assignEach [.Subscript o e2 tpos] X.env).map (·.2) = [assign (.Subscript o e2 tpos) X.env] := by rfl)
    (ha : SubF X o e2 tpos := by intro _; rfl) : DS X G W (.Assign [.Subscript o e2 tpos] e pos) (sSetP I i fp fk f) := by
  obtain ⟨te, pe, se⟩ := he.ex
  obtain ⟨to, po, so⟩ := ho.ex
  obtain ⟨tk, pk, sk⟩ := hk.ex
  refine ⟨_, ps_asg pe (pg_sub po pk set_list ha) hs hw h1, fun ρ R B H σ δ a F Z w os q => ?_⟩
  refine lift_ok se w os (Ox.fin q fun m δ1 a1 B1 H1 v F1 Fa w1 om os1 q1 => ?_)
  cases c0 : δ1[i]? with
  | none =>
    rw [c0] at q1
    exact q1.elim
  | some o0 =>
    rw [c0] at q1
    cases o0 with
    | none => exact q1.elim
    | some mo =>
      dsimp only at q1
      cases c1 : fp δ1 with
      | none =>
        rw [c1] at q1
        exact q1.elim
      | some js =>
        rw [c1] at q1
        dsimp only at q1
        cases c2 : focL js mo with
        | none =>
          rw [c2] at q1
          exact q1.elim
        | some ms =>
          rw [c2] at q1
          dsimp only at q1
          cases c3 : fk δ1 with
          | none =>
            rw [c3] at q1
            exact q1.elim
          | some k =>
            rw [c3] at q1
            dsimp only at q1
            cases c4 : ixN ms.length k with
            | none =>
              rw [c4] at q1
              exact q1.elim
            | some j =>
              rw [c4] at q1
              obtain ⟨v0, Fi, Fr', pf, h0, o0, os2⟩ := OwnS.take os1 c0
              obtain ⟨pp, xs, Fm, Fr, g1, g2, g3, g4, g5⟩ := Own.foc o0 c2
              refine so ρ B1 H1 σ δ1 Fa js v0 pp _ os1 c1 h0 g1 (sk ρ B1 H1 σ δ1 Fa k _ os1 c3 ?_)
              have hj : ixN xs.length k = some j := by
                rw [← g3.len]
                exact c4
              refine ⟨pp, xs, k, j, rfl, rfl, g2, hj, ?_⟩
              have w2 : Wd G B1 H1 ρ a1 (F1 ++ (Fr' ++ (Fi ++ R))) := by
                refine w1.perm (List.Perm.append_left F1 ?_)
                have z := List.Perm.append_right R (pf.trans List.perm_append_comm)
                rw [List.append_assoc] at z
                exact z
              have ne := apart_at w2 g4
              have om' : Own G B1 (upd H1 pp (.lst (xs.set j v))) ρ m v F1 := Own.mono (Same.refl _) m v F1 (fun q hq => upd_ne (ne q (.inl hq))) om
              have ow' : Owns G B1 (upd H1 pp (.lst (xs.set j v))) ρ ms xs Fm := Owns.mono (Same.refl _) ms xs Fm (fun q hq => upd_ne (ne q (.inr (.inr (.inl hq))))) g3
              obtain ⟨Fo, Fm', p1, ow⟩ := Owns.setAt om' ow' (ixN_seq c4).2.1
              have hi : i < (δ1.set i none).length := by
                rw [List.length_set]
                exact (List.getElem?_eq_some_iff.mp c0).1
              obtain ⟨F3, w3, h3, k3⟩ := rewrite_at w2 (Same.refl B1) os2 h0 hi (fun q hq => rfl) g4 g5 ⟨Fo, p1⟩ ow
              rw [List.set_set] at h3
              exact q1 B1 _ σ F3 w3 (Same.refl _) k3 h3
end
end DL

namespace DL
open PySem PySem.Spec PyProof.Rows L2

/-! ## all, any, sum, sorted, divmod; split; f-strings -/
def blsD : List D → Option (List Bool)
  | [] => some []
  | .bl b :: r => (blsD r).map fun l => b :: l
  | _ => none
def intsD : List D → Option (List Int)
  | [] => some []
  | .int i :: r => (intsD r).map fun l => i :: l
  | _ => none
theorem blsD_map : ∀ bs : List Bool, blsD (bs.map D.bl) = some bs
  | [] => rfl
  | b :: bs => by
    show (blsD (bs.map D.bl)).map _ = _
    rw [blsD_map bs]
    rfl
theorem intsD_map : ∀ ns : List Int, intsD (ns.map D.int) = some ns
  | [] => rfl
  | n :: ns => by
    show (intsD (ns.map D.int)).map _ = _
    rw [intsD_map ns]
    rfl
theorem strsD_map : ∀ ys : List Str, strsD (ys.map D.str) = some ys
  | [] => rfl
  | n :: ns => by
    show (strsD (ns.map D.str)).map _ = _
    rw [strsD_map ns]
    rfl
theorem blsD_eq : ∀ {ds : List D} {bs : List Bool}, blsD ds = some bs → ds = bs.map D.bl
  | [], bs, h => by
    cases h
    rfl
  | d :: r, bs, h => by
    cases d with
    | bl b =>
      have h' : (blsD r).map (fun l => b :: l) = some bs := h
      obtain ⟨l, h1, h2⟩ := Option.map_eq_some_iff.mp h'
      rw [← h2, blsD_eq h1]
      rfl
    | _ => cases h
theorem intsD_eq : ∀ {ds : List D} {ns : List Int}, intsD ds = some ns → ds = ns.map D.int
  | [], ns, h => by
    cases h
    rfl
  | d :: r, ns, h => by
    cases d with
    | int i =>
      have h' : (intsD r).map (fun l => i :: l) = some ns := h
      obtain ⟨l, h1, h2⟩ := Option.map_eq_some_iff.mp h'
      rw [← h2, intsD_eq h1]
      rfl
    | _ => cases h
/-! ### in order -/
section
variable {α : Type} (le : α → α → Bool)
def insO (x : α) : List α → List α
  | [] => [x]
  | y :: r => if le x y = true then x :: y :: r else y :: insO x r
def sortO : List α → List α
  | [] => []
  | x :: r => insO le x (sortO r)
theorem insO_perm (x : α) : ∀ l : List α, (insO le x l).Perm (x :: l)
  | [] => List.Perm.refl _
  | y :: r => by
    unfold insO
    split
    · exact List.Perm.refl _
    · exact (List.Perm.cons y (insO_perm x r)).trans (List.Perm.swap x y r)
theorem sortO_perm : ∀ l : List α, (sortO le l).Perm l
  | [] => List.Perm.refl _
  | x :: r => (insO_perm le x _).trans (List.Perm.cons x (sortO_perm r))
theorem insO_pw {le : α → α → Bool} (tot : ∀ a b, le a b = false → le b a = true) (tr : ∀ a b c, le a b = true → le b c = true → le a c = true) (x : α) : ∀ l : List α, l.Pairwise (fun a b => le a b = true) → (insO le x l).Pairwise (fun a b => le a b = true)
  | [], _ => List.pairwise_singleton _ _
  | y :: r, h => by
    obtain ⟨h1, h2⟩ := List.pairwise_cons.mp h
    unfold insO
    split
    · rename_i c
      exact List.pairwise_cons.mpr ⟨fun z hz => (List.mem_cons.mp hz).elim (fun e => e ▸ c) fun m => tr _ _ _ c (h1 z m), h⟩
    · rename_i c
      refine List.pairwise_cons.mpr ⟨fun z hz => ?_, insO_pw tot tr x r h2⟩
      rcases List.mem_cons.mp ((insO_perm le x r).mem_iff.mp hz) with rfl | m
      · exact tot _ _ (by simpa using c)
      · exact h1 z m
theorem sortO_pw {le : α → α → Bool} (tot : ∀ a b, le a b = false → le b a = true) (tr : ∀ a b c, le a b = true → le b c = true → le a c = true) : ∀ l : List α, (sortO le l).Pairwise (fun a b => le a b = true)
  | [] => List.Pairwise.nil
  | x :: r => insO_pw tot tr x _ (sortO_pw tot tr r)
end
def leI (i j : Int) : Bool := decide (i ≤ j)
/-- a text's place among texts: sign by sign -/
def leS (x y : Str) : Bool := !ltCps y.cps.toList x.cps.toList
theorem leI_sort {ns ms : List Int} (p : ms.Perm ns) (s : ms.Pairwise (· ≤ ·)) : ms = sortO leI ns := by
  refine List.Perm.eq_of_pairwise (le := fun a b : Int => a ≤ b) (fun a b _ _ h1 h2 => Int.le_antisymm h1 h2) s ?_ (p.trans (sortO_perm leI ns).symm)
  refine (sortO_pw (le := leI) (fun a b h => ?_) (fun a b c h1 h2 => ?_) ns).imp fun h => of_decide_eq_true h
  · have z := of_decide_eq_false h
    exact decide_eq_true (by omega)
  · have z1 := of_decide_eq_true h1
    have z2 := of_decide_eq_true h2
    exact decide_eq_true (by omega)
theorem ltCps_irr : ∀ x : List Nat, ltCps x x = false
  | [] => rfl
  | a :: r => by
    have z := ltCps_irr r
    simp [ltCps, z]
theorem ltCps_tri : ∀ x y : List Nat, ltCps x y = false → ltCps y x = false → x = y
  | [], [], _, _ => rfl
  | [], b :: s, h, _ => by simp [ltCps] at h
  | a :: r, [], _, h => by simp [ltCps] at h
  | a :: r, b :: s, h1, h2 => by
    simp only [ltCps, Bool.or_eq_false_iff, Bool.and_eq_false_iff, decide_eq_false_iff_not, beq_eq_false_iff_ne] at h1 h2
    have e : a = b := by omega
    subst e
    have z1 : ltCps r s = false := h1.2.resolve_left (fun z => z rfl)
    have z2 : ltCps s r = false := h2.2.resolve_left (fun z => z rfl)
    rw [ltCps_tri r s z1 z2]
theorem ltCps_tr : ∀ x y z : List Nat, ltCps x y = true → ltCps y z = true → ltCps x z = true
  | [], [], z, h, _ => by simp [ltCps] at h
  | [], b :: s, [], _, h => by simp [ltCps] at h
  | [], b :: s, c :: t, _, _ => rfl
  | a :: r, [], z, h, _ => by simp [ltCps] at h
  | a :: r, b :: s, [], _, h => by simp [ltCps] at h
  | a :: r, b :: s, c :: t, h1, h2 => by
    simp only [ltCps, Bool.or_eq_true, Bool.and_eq_true, decide_eq_true_eq, beq_iff_eq] at h1 h2 ⊢
    rcases h1 with h1 | ⟨h1, h3⟩
    · rcases h2 with h2 | ⟨h2, h4⟩
      · exact .inl (by omega)
      · exact .inl (by omega)
    · rcases h2 with h2 | ⟨h2, h4⟩
      · exact .inl (by omega)
      · exact .inr ⟨h1.trans h2, ltCps_tr r s t h3 h4⟩
theorem leS_tot (x y : Str) (h : leS x y = false) : leS y x = true := by
  unfold leS at *
  have h1 : ltCps y.cps.toList x.cps.toList = true := by simpa using h
  cases c : ltCps x.cps.toList y.cps.toList with
  | false => rfl
  | true =>
    have z := ltCps_tr _ _ _ h1 c
    rw [ltCps_irr] at z
    cases z
theorem leS_tr (x y z : Str) (h1 : leS x y = true) (h2 : leS y z = true) : leS x z = true := by
  unfold leS at *
  have g1 : ltCps y.cps.toList x.cps.toList = false := by simpa using h1
  have g2 : ltCps z.cps.toList y.cps.toList = false := by simpa using h2
  cases c : ltCps z.cps.toList x.cps.toList with
  | false => rfl
  | true =>
    by_cases e : x.cps.toList = y.cps.toList
    · rw [e, g2] at c
      cases c
    · have g3 : ltCps x.cps.toList y.cps.toList = true := by
        cases d : ltCps x.cps.toList y.cps.toList with
        | true => rfl
        | false => exact absurd (ltCps_tri _ _ d g1) e
      have q := ltCps_tr _ _ _ c g3
      rw [g2] at q
      cases q
theorem leS_anti (x y : Str) (h1 : leS x y = true) (h2 : leS y x = true) : x = y := by
  unfold leS at *
  have g1 : ltCps y.cps.toList x.cps.toList = false := by simpa using h1
  have g2 : ltCps x.cps.toList y.cps.toList = false := by simpa using h2
  have e := ltCps_tri _ _ g2 g1
  obtain ⟨⟨a⟩⟩ := x
  obtain ⟨⟨b⟩⟩ := y
  have e' : a = b := e
  rw [e']
theorem rising_pw : ∀ (l : List Str) (p : Str), risingS p l = true → (p :: l).Pairwise (fun a b => leS a b = true)
  | [], p, _ => List.pairwise_singleton _ _
  | x :: r, p, h => by
    have h' : (!ltCps x.cps.toList p.cps.toList && risingS x r) = true := h
    obtain ⟨h1, h2⟩ := Bool.and_eq_true_iff.mp h'
    have ih := rising_pw r x h2
    refine List.pairwise_cons.mpr ⟨fun z hz => ?_, ih⟩
    rcases List.mem_cons.mp hz with rfl | m
    · exact h1
    · exact leS_tr _ _ _ h1 ((List.pairwise_cons.mp ih).1 z m)
theorem leS_sort {xs ys : List Str} (p : ys.Perm xs) (s : sortedS ys = true) : ys = sortO leS xs := by
  have pw : ys.Pairwise (fun a b => leS a b = true) := by
    cases ys with
    | nil => exact List.Pairwise.nil
    | cons y r => exact rising_pw r y s
  exact List.Perm.eq_of_pairwise (le := fun a b => leS a b = true) (fun a b _ _ h1 h2 => leS_anti a b h1 h2) pw (sortO_pw leS_tot leS_tr xs) (p.trans (sortO_perm leS xs).symm)
/-! ### as data -/
theorem CallR.two {X : Cx} {f : Value} {r r' : List V → Hp → VK → Prop} (h : CallR X f r) (h' : CallR X f r') : CallR X f (fun vs H Q => r vs H Q ∨ r' vs H Q) := fun pins s σ H xs us Q I rv q => q.elim (h pins s σ H xs us Q I rv) (h' pins s σ H xs us Q I rv)
def gAll (_ : Sto) : D → Option New
  | .lst ds => (blsD ds).map fun bs => .val (.bl (bs.all id))
  | _ => none
def gAny (_ : Sto) : D → Option New
  | .lst ds => (blsD ds).map fun bs => .val (.bl (bs.any id))
  | _ => none
def gSum (_ : Sto) : D → Option New
  | .lst ds => (intsD ds).map fun ns => .val (.int ns.sum)
  | .scr ns => some (.val (.int ns.sum))
  | _ => none
def gSort (_ : Sto) : D → Option New
  | .lst ds => (match intsD ds with
    | some ns => some (.lst ((sortO leI ns).map D.int))
    | none => (match strsD ds with
      | some ys => if ys.length < 64 then some (.lst ((sortO leS ys).map D.str)) else none
      | none => none))
  | _ => none
def gDm (_ : Sto) : D → D → Option New
  | .int i, .int j => if 0 < j ∧ j < 1073741824 then some (.tup [.int (i / j), .int (i % j)]) else none
  | _, _ => none
section
variable {G : Gx}
theorem c_all : CallN G (rAll G.K) (un1 gAll) := .un fun ρ R B H a d nw x Q w r e q => by
  cases d with
  | lst ds =>
    obtain ⟨bs, h1, rfl⟩ := Option.map_eq_some_iff.mp (show (blsD ds).map _ = some nw from e)
    obtain ⟨p, xs, rfl, h2, h3⟩ := r
    rw [blsD_eq h1] at h3
    rw [Reps.bls.mp h3] at h2
    exact ⟨p, bs, rfl, SqL.of (w.ex _ _ h2), q _ rfl⟩
  | _ => cases e
theorem c_any : CallN G (rAny G.K) (un1 gAny) := .un fun ρ R B H a d nw x Q w r e q => by
  cases d with
  | lst ds =>
    obtain ⟨bs, h1, rfl⟩ := Option.map_eq_some_iff.mp (show (blsD ds).map _ = some nw from e)
    obtain ⟨p, xs, rfl, h2, h3⟩ := r
    rw [blsD_eq h1] at h3
    rw [Reps.bls.mp h3] at h2
    exact ⟨p, bs, rfl, SqL.of (w.ex _ _ h2), q _ rfl⟩
  | _ => cases e
theorem c_sum : CallN G (rSum G.K) (un1 gSum) := .un fun ρ R B H a d nw x Q w r e q => by
  cases d with
  | lst ds =>
    obtain ⟨ns, h1, rfl⟩ := Option.map_eq_some_iff.mp (show (intsD ds).map _ = some nw from e)
    obtain ⟨p, xs, rfl, h2, h3⟩ := r
    rw [intsD_eq h1] at h3
    rw [Reps.ints.mp h3] at h2
    exact ⟨p, ns, rfl, SqL.of (w.ex _ _ h2), q _ rfl⟩
  | scr ns =>
    cases e
    obtain ⟨p, rfl, h2⟩ := r
    exact ⟨p, ns, rfl, w.ex.seq h2, q _ rfl⟩
  | _ => cases e
theorem c_sort : CallN G (fun vs H Q => rSortedI G.K vs H Q ∨ rSortedS G.K vs H Q) (un1 gSort) := .un fun ρ R B H a d nw x Q w r e q => by
  cases d with
  | lst ds =>
    dsimp only [gSort] at e
    obtain ⟨p, xs, rfl, h2, h3⟩ := r
    cases c1 : intsD ds with
    | some ns =>
      rw [c1] at e
      cases e
      rw [intsD_eq c1] at h3
      rw [Reps.ints.mp h3] at h2
      exact .inl ⟨p, ns, rfl, SqL.of (w.ex _ _ h2), fun ns' p' pm sr hp => q p' _ hp (by rw [leI_sort pm sr]; exact Reps.ints.mpr rfl)⟩
    | none =>
      rw [c1] at e
      dsimp only at e
      cases c2 : strsD ds with
      | none =>
        rw [c2] at e
        cases e
      | some ys =>
        rw [c2] at e
        dsimp only at e
        by_cases c3 : ys.length < 64
        · rw [if_pos c3] at e
          cases e
          rw [strsD_eq c2] at h3
          rw [Reps.strs.mp h3] at h2
          exact .inr ⟨p, ys, rfl, SqL.of (w.ex _ _ h2), c3, fun ns' p' pm sr hp => q p' _ hp (by rw [leS_sort pm sr]; exact Reps.strs.mpr rfl)⟩
        · rw [if_neg c3] at e
          cases e
  | _ => cases e
theorem c_dm : CallN G (fun xs H Q => ∃ i j, xs = [V.int i, V.int j] ∧ CDiv i j ∧ ∀ p, H p = none → Q (.ref p) (upd H p (.tup [.int (i / j), .int (i % j)]))) (bi2 gDm) := .bi fun ρ R B H a d d' nw x y Q w r1 r2 e q => by
  cases d with
  | int i =>
    cases d' with
    | int j =>
      dsimp only [gDm] at e
      by_cases c : 0 < j ∧ j < 1073741824
      · rw [if_pos c] at e
        cases e
        have e1 : x = .int i := r1
        have e2 : y = .int j := r2
        subst e1 e2
        exact ⟨i, j, rfl, c, fun p hp => q p _ hp (Reps.cons rfl (Reps.cons rfl Reps.nil))⟩
      · rw [if_neg c] at e
        cases e
    | _ => cases e
  | _ => cases e
end
section
variable {X : Cx} {G : Gx} {W : WX} {e : Expr} {es : List Expr} {ga : EA} {p pos : Pos}
theorem dv_all (hK : G.K = X.K) (hc : X.calm = true) (hm : X.mg "all" = none) (ha : DA X G W (e :: es) ga) (hg : Gl X "all" := by rfl) (he : HeadP X e es := by rfl) (hpl : RestP X pos es := by rfl) : DV X G W (.Call (.Name "all" p) (e :: es) [] pos) (cV (un1 gAll) ga) :=
  dv_callB (cr_all hc) (by have z := c_all (G := G); rw [hK] at z; exact z) hg hm PyProof.Rows.boot_all ha (by decide) (by decide) he hpl
theorem dv_any (hK : G.K = X.K) (hc : X.calm = true) (hm : X.mg "any" = none) (ha : DA X G W (e :: es) ga) (hg : Gl X "any" := by rfl) (he : HeadP X e es := by rfl) (hpl : RestP X pos es := by rfl) : DV X G W (.Call (.Name "any" p) (e :: es) [] pos) (cV (un1 gAny) ga) :=
  dv_callB (cr_any hc) (by have z := c_any (G := G); rw [hK] at z; exact z) hg hm PyProof.Rows.boot_any ha (by decide) (by decide) he hpl
theorem dv_sum (hK : G.K = X.K) (hc : X.calm = true) (hm : X.mg "sum" = none) (ha : DA X G W (e :: es) ga) (hg : Gl X "sum" := by rfl) (he : HeadP X e es := by rfl) (hpl : RestP X pos es := by rfl) : DV X G W (.Call (.Name "sum" p) (e :: es) [] pos) (cV (un1 gSum) ga) :=
  dv_callB (cr_sum hc) (by have z := c_sum (G := G); rw [hK] at z; exact z) hg hm PyProof.Rows.boot_sum ha (by decide) (by decide) he hpl
theorem dv_sort (hK : G.K = X.K) (hm : X.mg "sorted" = none) (ha : DA X G W (e :: es) ga) (hg : Gl X "sorted" := by rfl) (he : HeadP X e es := by rfl) (hpl : RestP X pos es := by rfl) : DV X G W (.Call (.Name "sorted" p) (e :: es) [] pos) (cV (un1 gSort) ga) :=
  dv_callB (DL.CallR.two cr_sortedI cr_sortedS) (by have z := c_sort (G := G); rw [hK] at z; exact z) hg hm PyProof.Rows.boot_sorted ha (by decide) (by decide) he hpl
theorem dm_sort (hK : G.K = X.K) (hm : X.mg "sorted" = none) (ha : DA X G W (e :: es) ga) (hg : Gl X "sorted" := by rfl) (he : HeadP X e es := by rfl) (hpl : RestP X pos es := by rfl) : DM X G W (.Call (.Name "sorted" p) (e :: es) [] pos) (cN (un1 gSort) ga) :=
  dm_callB (DL.CallR.two cr_sortedI cr_sortedS) (by have z := c_sort (G := G); rw [hK] at z; exact z) hg hm PyProof.Rows.boot_sorted ha (by decide) (by decide) he hpl
theorem dv_divmod (hm : X.mg "divmod" = none) (ha : DA X G W (e :: es) ga) (hg : Gl X "divmod" := by rfl) (he : HeadP X e es := by rfl) (hpl : RestP X pos es := by rfl) : DV X G W (.Call (.Name "divmod" p) (e :: es) [] pos) (cV (bi2 gDm) ga) :=
  dv_callB call_divmod c_dm hg hm PyProof.Rows.boot_divmod ha (by decide) (by decide) he hpl
/-! ### a text's method that makes a list -/
def bmV (g : Str → List D → Option New) (fo : EV) (fa : EA) : EV := fun δ a => (fo δ a).bind fun o a1 => match o with
  | .str s => (fa δ a1).bind fun ds a2 => (match g s ds with | some nw => .ok nw.d a2 | none => .stuck)
  | _ => .stuck
def bmM (g : Str → List D → Option New) (fo : EV) (fa : EA) : EM := fun δ a => (fo δ a).bind fun o a1 => match o with
  | .str s => (fa δ a1).bind fun ds a2 => (match g s ds with | some nw => .ok nw.m a2 | none => .stuck)
  | _ => .stuck
def BmL (G : Gx) (r : V → List V → Hp → VK → Prop) (g : Str → List D → Option New) : Prop := ∀ (B H : Hp) (ρ : List Addr) (s : Str) (ds : List D) (nw : New) (vs : List V) (Q : VK), Same B H → Reps G B ρ ds vs → g s ds = some nw → NewK G B H ρ nw Q → r (.str s) vs H Q
theorem VOk.bmL {r : V → List V → Hp → VK → Prop} {g : Str → List D → Option New} {to : TE} {ta : TA} {fo : EV} {fa : EA} (o : BmL G r g) (so : VOk G W to fo) (sa : AOk G W ta fa) : VOk G W (tBM X.K "str" r to ta) (bmV g fo fa) := fun ρ R B H σ δ a Q w sl q =>
  so ρ R B H σ δ a _ w sl (Fin.imp (Fin.seq q) fun d a1 B1 H1 w1 s1 k1 q1 x r1 => by
    cases d with
    | str s =>
      have ex : x = .str s := r1
      subst ex
      refine ⟨rfl, sa ρ R B1 H1 σ δ a1 _ w1 (sl.mono s1) (Fin.imp (Fin.seq q1) fun ds a2 B2 H2 w2 s2 k2 q2 vs r2 => ?_)⟩
      cases c : g s ds with
      | none =>
        rw [c] at q2
        exact q2.elim
      | some nw =>
        rw [c] at q2
        exact o B2 H2 ρ s ds nw vs Q w2.ex r2 c (Fin.new w2 q2)
    | _ => exact q1.elim)
theorem MOk.bmL {r : V → List V → Hp → VK → Prop} {g : Str → List D → Option New} {to : TE} {ta : TA} {fo : EV} {fa : EA} (o : BmL G r g) (so : VOk G W to fo) (sa : AOk G W ta fa) : MOk G W (tBM X.K "str" r to ta) (bmM g fo fa) := fun ρ R B H σ δ a Q w sl q =>
  so ρ R B H σ δ a _ w sl (Fin.imp (Fin.seqM q) fun d a1 B1 H1 w1 s1 k1 q1 x r1 => by
    cases d with
    | str s =>
      have ex : x = .str s := r1
      subst ex
      refine ⟨rfl, sa ρ R B1 H1 σ δ a1 _ w1 (sl.mono s1) (Fin.imp (Fin.seqM q1) fun ds a2 B2 H2 w2 s2 k2 q2 vs r2 => ?_)⟩
      cases c : g s ds with
      | none =>
        rw [c] at q2
        exact q2.elim
      | some nw =>
        rw [c] at q2
        exact o B2 H2 ρ s ds nw vs Q w2.ex r2 c (FinM.new w2 q2)
    | _ => exact q1.elim)
def gSplit (s : Str) : List D → Option New
  | [.str t] => if t.length ≠ 0 ∧ s.length ≤ 99998 then some (.lst ((Txt.split s t).map D.str)) else none
  | _ => none
theorem b_split : BmL G (fun x xs H Q => ∃ a b, x = V.str a ∧ xs = [V.str b] ∧ (b.length == 0) = false ∧ a.length + 2 ≤ sizeLine ∧ rNewStrs (Txt.split a b) H Q) gSplit := fun B H ρ s ds nw vs Q sm r e q => by
  match ds, e, r with
  | [.str t], e, r =>
    obtain ⟨x, rfl, rx⟩ := r.one
    have ex : x = .str t := rx
    subst ex
    dsimp only [gSplit] at e
    by_cases c : t.length ≠ 0 ∧ s.length ≤ 99998
    · rw [if_pos c] at e
      cases e
      exact ⟨s, t, rfl, rfl, beq_eq_false_iff_ne.mpr c.1, lim (by omega), fun p hp => q p _ hp (Reps.strs.mpr rfl)⟩
    · rw [if_neg c] at e
      cases e
theorem dv_split {o : Expr} {apos cpos : Pos} {fo : EV} (ho : DV X G W o fo) (ha : DA X G W (e :: es) ga)
    (hbase : NoSup X o "split" := by rfl) (hfew : FewA X cpos (e :: es) := by rfl) (hline : OneRow apos cpos := by rfl) (hs : HeadP X e es := by rfl) (hpl : RestP X cpos es := by rfl) : DV X G W (.Call (.Attribute o "split" apos) (e :: es) [] cpos) (bmV gSplit fo ga) := by
  obtain ⟨to, po, so⟩ := ho.ex
  obtain ⟨ta, pa, sa⟩ := ha.ex
  exact ⟨_, pe_bm PySem.F.plainAttrs_str PySem.F.slot_str_split PySem.F.type_str_split mt_split po pa hbase hfew hline hs hpl, VOk.bmL b_split so sa⟩
theorem dm_split {o : Expr} {apos cpos : Pos} {fo : EV} (ho : DV X G W o fo) (ha : DA X G W (e :: es) ga)
    (hbase : NoSup X o "split" := by rfl) (hfew : FewA X cpos (e :: es) := by rfl) (hline : OneRow apos cpos := by rfl) (hs : HeadP X e es := by rfl) (hpl : RestP X cpos es := by rfl) : DM X G W (.Call (.Attribute o "split" apos) (e :: es) [] cpos) (bmM gSplit fo ga) := by
  obtain ⟨to, po, so⟩ := ho.ex
  obtain ⟨ta, pa, sa⟩ := ha.ex
  exact ⟨_, pe_bm PySem.F.plainAttrs_str PySem.F.slot_str_split PySem.F.type_str_split mt_split po pa hbase hfew hline hs hpl, MOk.bmL b_split so sa⟩
/-! ### f'..' -/
def gFmt : D → Option D
  | .str y => if y.length ≤ 100000 then some (.str y) else none
  | .int i => if i.natAbs.log2 < 1920 then some (.str (Str.ofString (toString i))) else none
  | _ => none
theorem dv_fmt {f : EV} (h : DV X G W e f) : DV X G W (.FormattedValue e (-1) none pos) (ev1 gFmt f) := by
  obtain ⟨t, p, s⟩ := h.ex
  refine ⟨_, pe_fmt p, fun ρ R B H σ δ a Q w sl q => s ρ R B H σ δ a _ w sl (Fin.imp (Fin.seqo q) fun d a1 B1 H1 w1 s1 k1 q1 x r => ?_)⟩
  obtain ⟨d', e1, q2⟩ := q1
  cases d with
  | str y =>
    dsimp only [gFmt] at e1
    by_cases c : y.length ≤ 100000
    · rw [if_pos c] at e1
      cases e1
      exact .inl ⟨y, r, lim c, q2 _ rfl⟩
    · rw [if_neg c] at e1
      cases e1
  | int i =>
    dsimp only [gFmt] at e1
    by_cases c : i.natAbs.log2 < 1920
    · rw [if_pos c] at e1
      cases e1
      exact .inr ⟨i, r, c, q2 _ rfl⟩
    · rw [if_neg c] at e1
      cases e1
  | _ => cases e1
abbrev EJ := Str → Sw → Sto → Out D
def jNil : EJ := fun acc _ a => .ok (.str acc) a
def jCons (f : EV) (g : EJ) : EJ := fun acc δ a => (f δ a).bind fun d a1 => match d with
  | .str y => if (acc ++ y).length ≤ 100000 then g (acc ++ y) δ a1 else .stuck
  | _ => .stuck
structure DJ (X : Cx) (G : Gx) (W : WX) (es : List Expr) (g : EJ) : Prop where
  ex : ∃ ts, PJ X es ts ∧ ∀ (ρ R : List Addr) (B H : Hp) (σ : L2.St) (δ : Sw) (a : Sto) (acc : Str) (Q : Str → Hp → Prop), Wd G B H ρ a R → Sls G B ρ δ σ →
    Fin G W ρ R B H σ (g acc δ a) (fun d _ _ H' => ∀ y, d = .str y → Q y H') → tJs ts acc σ H Q
theorem dj_nil : DJ X G W [] jNil := ⟨[], .nil, fun ρ R B H σ δ a acc Q w sl q => q.here w acc rfl⟩
theorem dj_cons {f : EV} {g : EJ} (h : DV X G W e f) (k : DJ X G W es g) : DJ X G W (e :: es) (jCons f g) := by
  obtain ⟨t, p, s⟩ := h.ex
  obtain ⟨ts, ps, ss⟩ := k.ex
  refine ⟨t :: ts, .cons p ps, fun ρ R B H σ δ a acc Q w sl q => s ρ R B H σ δ a _ w sl (Fin.imp (Fin.seq q) fun d a1 B1 H1 w1 s1 k1 q1 x r => ?_)⟩
  cases d with
  | str y =>
    dsimp only at q1
    by_cases c : (acc ++ y).length ≤ 100000
    · rw [if_pos c] at q1
      exact ⟨y, r, lim c, ss ρ R B1 H1 σ δ a1 (acc ++ y) Q w1 (sl.mono s1) q1⟩
    · rw [if_neg c] at q1
      exact q1.elim
  | _ => exact q1.elim
def eJoi (g : EJ) : EV := fun δ a => (g Str.empty δ a).opt fun d => match d with
  | .str y => some (.str y)
  | _ => none
theorem dv_joined {v1 v2 : Expr} {rest : List Expr} {g : EJ} (h : DJ X G W (v1 :: v2 :: rest) g) : DV X G W (.JoinedStr (v1 :: v2 :: rest) pos) (eJoi g) := by
  obtain ⟨ts, p, s⟩ := h.ex
  refine ⟨_, pe_joined p, fun ρ R B H σ δ a Q w sl q => s ρ R B H σ δ a Str.empty _ w sl (Fin.imp (Fin.seqo q) fun d a1 B1 H1 w1 s1 k1 q1 y e => ?_)⟩
  subst e
  obtain ⟨r, e1, q2⟩ := q1
  cases e1
  exact q2 _ rfl
theorem dv_joined1 {f : EV} (h : DV X G W e f) : DV X G W (.JoinedStr [e] pos) f := by
  obtain ⟨t, p, s⟩ := h.ex
  exact ⟨t, pe_joined1 p, s⟩
end
end DL

namespace DL
open PySem PySem.Spec PyProof.Rows L2

/-! ## str(x), len(x), y in x, x + y by own methods -/
structure SpcD (P : Program) (w : World) (K : PySem.W.Frag) (mg : Str → Option Value) (base : Heap) (G : Gx) (m : Str) (k n : Nat) (p : Nat × FM) : Prop where
  ex : ∃ (f : Addr) (fd : FuncData) (ps : List Str), FnOk P w K mg base (L2.CX P w) k f fd ps (spD G p.2 n) ∧ PySem.W.findIn K (.ref (G.T p.1)) m = some (some (.ref f)) ∧ PySem.W.isFn K (.ref f) = true ∧ Binds K fd ps []
theorem spcD_mono {P : Program} {w : World} {K : PySem.W.Frag} {mg : Str → Option Value} {base : Heap} {G : Gx} {m : Str} {k j n : Nat} {p : Nat × FM} (h : SpcD P w K mg base G m k n p) (hk : k ≤ j) : SpcD P w K mg base G m j n p := by
  obtain ⟨f, fd, ps, F, r⟩ := h.ex
  exact ⟨f, fd, ps, F.mono hk, r⟩
theorem spcD_own {P : Program} {w : World} {K : PySem.W.Frag} {mg : Str → Option Value} {base : Heap} {G : Gx} {m : Str} {k : Nat} {p : Nat × FM} (h : OwnD P w K mg base G m k p) : SpcD P w K mg base G m k 2 p := ⟨h.ex⟩
section
variable {X : Cx} {G : Gx} {W : WX} {k : Nat} {T : List (Nat × FM)}
abbrev noX : XK := fun _ _ _ => False
/-- such a def's code run further in -/
theorem own_run {A : Around} {E : Value → Shared → Prop} {s : Shared} {pins : List (Addr × Obj)} {σ : L2.St} {H : Hp} {f : Addr} {fd : FuncData} {ps : List Str} {sp : Sp} {us : List Value} {vs : List V} {Q : VK} (F : FnOk X.prog X.w X.K X.mg X.base (L2.CX X.prog X.w) k f fd ps sp) (hr : Room k A) (I : Inv X pins σ H s) (e0 : Env0 X.prog X.w X.K X.mg X.base A X.stack s H) (bi : Binds X.K fd ps []) (r : Vals vs us) (q : sp vs H Q noX) :
    wpAny (model X.prog X.w) A (call (.ref f) us) (fun u s' => ∃ v H', Inv X pins σ H' s' ∧ RelV v u ∧ Q v H') E s :=
  wpAny_call (codeAny_mono (code_fn F hr e0 I.kIn bi r q) fun out s' z => match out, z with
    | .error _, z => (cx_no z).elim
    | .ok (.ret _), z =>
      have ⟨v, H', I3, rv, z3⟩ := I.after z
      ⟨v, H', I3, rv, z3⟩
    | .ok .next, z => z.elim
    | .ok .brk, z => z.elim
    | .ok .cont, z => z.elim)
def AtC (G : Gx) (H : Hp) (c : Nat) (v : V) : Prop := ∃ a dx fs, v = .ref a ∧ H a = some (.ins (G.T c) dx fs)
/-! ### str -/
def rStrO (G : Gx) (T : List (Nat × FM)) : List V → Hp → VK → Prop := fun xs H Q => ∃ p ∈ T, ∃ x, xs = [x] ∧ AtC G H p.1 x ∧ spD G p.2 1 [x] H (fun v H' => ∃ y : Str, v = .str y ∧ Q (.str y) H') noX
theorem call_strO (F : ∀ p ∈ T, SpcD X.prog X.w X.K X.mg X.base G "__str__" k 1 p) (hr : Room (k + 2) X.A) : CallR X (.type "str") (rStrO G T) := by
  rintro pins s σ H xs us Q I rv ⟨p, hp, x, rfl, ⟨a, dx, fs, rfl, ha⟩, q⟩
  obtain ⟨f, fd, ps, FF, hs, hf, bi⟩ := (F p hp).ex
  obtain ⟨mA, J, _⟩ := ins_get I.hok ha
  obtain ⟨od, J, _⟩ := J.look
  rw [Vals.ref1 rv]
  refine PySem.W.kso_call hr.in1.in1.units0 I.kIn J hs hf (wpAny_mono (own_run FF hr.in1.in1 I I.env0.in1.in1 bi (us := [.ref a]) (vs := [.ref a]) (.cons rfl .nil) q) (fun u s' z => ?_) fun _ _ z => z)
  obtain ⟨v, H', I', rv', y, rfl, q'⟩ := z
  obtain ⟨t, rfl⟩ := rv'
  exact ⟨.str y, H', I', ⟨t, rfl⟩, q'⟩
/-! ### len -/
def rLenO (G : Gx) (T : List (Nat × FM)) : List V → Hp → VK → Prop := fun xs H Q => ∃ p ∈ T, ∃ x, xs = [x] ∧ AtC G H p.1 x ∧ spD G p.2 1 [x] H (fun v H' => ∃ n : Int, v = .int n ∧ 0 ≤ n ∧ n < 2 ^ 63 ∧ Q (.int n) H') noX
theorem call_lenO (F : ∀ p ∈ T, SpcD X.prog X.w X.K X.mg X.base G "__len__" k 1 p) (hr : Room (k + 1) X.A) : CallR X (.builtin "len") (rLenO G T) := by
  rintro pins s σ H xs us Q I rv ⟨p, hp, x, rfl, ⟨a, dx, fs, rfl, ha⟩, q⟩
  obtain ⟨f, fd, ps, FF, hs, hf, bi⟩ := (F p hp).ex
  obtain ⟨mA, J, _⟩ := ins_get I.hok ha
  obtain ⟨od, J, _⟩ := J.look
  obtain ⟨fm, hF⟩ := I.fr
  rw [Vals.ref1 rv]
  refine PySem.W.len_K hF I.ok.mod.kin J hs hf (wpAny_mono (own_run FF hr.in1 I I.env0.in1 bi (us := [.ref a]) (vs := [.ref a]) (.cons rfl .nil) q) (fun u s' z => ?_) fun _ _ z => z)
  obtain ⟨v, H', I', rv', n, rfl, h0, h1, q'⟩ := z
  obtain ⟨t, rfl⟩ := rv'
  exact ⟨⟨h0, h1⟩, .int n, H', I'.tok _, ⟨_, rfl⟩, q'⟩
/-! ### y in x -/
def rInO (G : Gx) (T : List (Nat × FM)) (neg : Bool) : R2 := fun y x H Q => ∃ p ∈ T, AtC G H p.1 x ∧ spD G p.2 2 [x, y] H (fun v H' => ∃ b, v = .bl b ∧ Q (.bl (b != neg)) H') noX
theorem op_inO (F : ∀ p ∈ T, SpcD X.prog X.w X.K X.mg X.base G "__contains__" k 2 p) (hr : Room k X.A) : OpR X (compareOp .In) (rInO G T false) := by
  rintro pins s σ H y x u v Q I ry rx ⟨p, hp, ⟨a, dx, fs, rfl, ha⟩, q⟩
  cases rx
  obtain ⟨f, fd, ps, FF, hs, hf, bi⟩ := (F p hp).ex
  obtain ⟨mA, J, _⟩ := ins_get I.hok ha
  obtain ⟨od, J, _⟩ := J.look
  obtain ⟨fm, hF⟩ := I.fr
  refine PySem.W.in_K hF I.ok.mod.kin J hs hf (wpAny_mono (own_run FF hr I I.env0 bi (us := [.ref a, u]) (vs := [.ref a, y]) (.cons rfl (.cons ry .nil)) q) (fun u s' z => ?_) fun _ _ z => z)
  obtain ⟨v, H', I', rv', b, rfl, q'⟩ := z
  cases rv'
  exact wpAny_truthy_bool ⟨.bl b, H', I', rfl, by simpa using q'⟩
theorem op_notInO (F : ∀ p ∈ T, SpcD X.prog X.w X.K X.mg X.base G "__contains__" k 2 p) (hr : Room k X.A) : OpR X (compareOp .NotIn) (rInO G T true) := by
  rintro pins s σ H y x u v Q I ry rx ⟨p, hp, ⟨a, dx, fs, rfl, ha⟩, q⟩
  cases rx
  obtain ⟨f, fd, ps, FF, hs, hf, bi⟩ := (F p hp).ex
  obtain ⟨mA, J, _⟩ := ins_get I.hok ha
  obtain ⟨od, J, _⟩ := J.look
  obtain ⟨fm, hF⟩ := I.fr
  refine PySem.W.notIn_K hF I.ok.mod.kin J hs hf (wpAny_mono (own_run FF hr I I.env0 bi (us := [.ref a, u]) (vs := [.ref a, y]) (.cons rfl (.cons ry .nil)) q) (fun u s' z => ?_) fun _ _ z => z)
  obtain ⟨v, H', I', rv', b, rfl, q'⟩ := z
  cases rv'
  exact wpAny_truthy_bool ⟨.bl (!b), H', I', rfl, by simpa using q'⟩
end
/-! ### as data -/
def strOf : Out M → Out D
  | .ok (.val (.str y)) a => .ok (.str y) a
  | _ => .stuck
def lenOf : Out M → Out D
  | .ok (.val (.int n)) a => if 0 ≤ n ∧ n < 2 ^ 62 then .ok (.int n) a else .stuck
  | _ => .stuck
/-- an instance's class -/
def clsOf : D → Option Nat
  | .obj c _ _ => some c
  | _ => none
def one1 : List D → Option D
  | [d] => some d
  | _ => none
/-- f(x): by a method of x's class, else plainly -/
def callW (T : List (Nat × FM)) (h : Out M → Out D) (g : Sto → List D → Option New) (fa : EA) : EV := fun δ a => (fa δ a).bind fun ds a1 => match (one1 ds).bind clsOf with
  | some c => (match T.lookup c with
    | some f => h (f ds a1)
    | none => .stuck)
  | none => (match g a1 ds with
    | some nw => .ok nw.d a1
    | none => .stuck)
section
variable {X : Cx} {G : Gx} {W : WX} {k : Nat} {T : List (Nat × FM)}
theorem clsOf_at {d : D} {c : Nat} {B H : Hp} {ρ : List Addr} {x : V} (e : clsOf d = some c) (s : Same B H) (r : Rep G B ρ d x) : AtC G H c x := by
  cases d with
  | obj c' ns l =>
    cases e
    obtain ⟨p, dx, xs, rfl, h, _⟩ := r
    exact ⟨p, dx, _, rfl, s _ _ h⟩
  | _ => cases e
theorem one1_eq {ds : List D} {c : Nat} (h : (one1 ds).bind clsOf = some c) : ∃ d, ds = [d] ∧ clsOf d = some c := by
  match ds, h with
  | [d], h => exact ⟨d, rfl, h⟩
theorem VOk.callW {ta : TA} {fa : EA} {r0 r1 : List V → Hp → VK → Prop} {h : Out M → Out D} {g : Sto → List D → Option New} (o : CallN G r0 g)
    (ho : ∀ (ρ R : List Addr) (B H : Hp) (a : Sto) (d : D) (x : V) (p : Nat × FM) (σ : L2.St) (Q : VK), p ∈ T → Wd G B H ρ a R → Rep G B ρ d x → AtC G H p.1 x → Fin G W ρ R B H σ (h (p.2 [d] a)) (fun d _ B' H' => ∀ v, Rep G B' ρ d v → Q v H') → r1 [x] H Q)
    (ha : AOk G W ta fa) : VOk G W (fun σ H Q => ta σ H fun vs H1 => r0 vs H1 Q ∨ r1 vs H1 Q) (callW T h g fa) := fun ρ R B H σ δ a Q w sl q =>
  ha ρ R B H σ δ a _ w sl (Fin.imp (Fin.seq q) fun ds a1 B1 H1 w1 s1 k1 q1 vs rs => by
    cases c : (one1 ds).bind clsOf with
    | none =>
      rw [c] at q1
      dsimp only at q1
      cases e : g a1 ds with
      | none =>
        rw [e] at q1
        exact q1.elim
      | some nw =>
        rw [e] at q1
        exact .inl (o ρ R B1 H1 a1 ds nw vs Q w1 rs e (Fin.new w1 q1))
    | some cc =>
      rw [c] at q1
      dsimp only at q1
      obtain ⟨d, rfl, hd⟩ := one1_eq c
      obtain ⟨x, rfl, rx⟩ := rs.one
      cases e : T.lookup cc with
      | none =>
        rw [e] at q1
        exact q1.elim
      | some f =>
        rw [e] at q1
        exact .inr (ho ρ R B1 H1 a1 d x (cc, f) σ Q (mem_look e) w1 rx (clsOf_at hd w1.ex rx) q1))
theorem strO_ok (ρ R : List Addr) (B H : Hp) (a : Sto) (d : D) (x : V) (p : Nat × FM) (σ : L2.St) (Q : VK) (hp : p ∈ T) (w : Wd G B H ρ a R) (r : Rep G B ρ d x) (c : AtC G H p.1 x) (q : Fin G W ρ R B H σ (strOf (p.2 [d] a)) (fun d _ B' H' => ∀ v, Rep G B' ρ d v → Q v H')) : rStrO G T [x] H Q := by
  refine ⟨p, hp, x, rfl, c, rfl, ρ, R, B, [d], a, w, Reps.cons r Reps.nil, ?_⟩
  cases co : p.2 [d] a with
  | stuck =>
    rw [co] at q
    exact q.elim
  | exc _ _ _ _ =>
    rw [co] at q
    exact q.elim
  | ok m a3 =>
    rw [co] at q
    cases m with
    | val d' =>
      cases d' with
      | str y =>
        intro B' H' v F w' sm kp om
        obtain ⟨rfl, ev⟩ := om
        exact ⟨y, ev, q B' H' w' sm kp _ rfl⟩
      | _ => exact q.elim
    | _ => exact q.elim
theorem lenO_ok (ρ R : List Addr) (B H : Hp) (a : Sto) (d : D) (x : V) (p : Nat × FM) (σ : L2.St) (Q : VK) (hp : p ∈ T) (w : Wd G B H ρ a R) (r : Rep G B ρ d x) (c : AtC G H p.1 x) (q : Fin G W ρ R B H σ (lenOf (p.2 [d] a)) (fun d _ B' H' => ∀ v, Rep G B' ρ d v → Q v H')) : rLenO G T [x] H Q := by
  refine ⟨p, hp, x, rfl, c, rfl, ρ, R, B, [d], a, w, Reps.cons r Reps.nil, ?_⟩
  cases co : p.2 [d] a with
  | stuck =>
    rw [co] at q
    exact q.elim
  | exc _ _ _ _ =>
    rw [co] at q
    exact q.elim
  | ok m a3 =>
    rw [co] at q
    cases m with
    | val d' =>
      cases d' with
      | int n =>
        intro B' H' v F w' sm kp om
        obtain ⟨rfl, ev⟩ := om
        have q' : Fin G W ρ R B H σ (if 0 ≤ n ∧ n < 2 ^ 62 then Out.ok (D.int n) a3 else Out.stuck) (fun d _ B' H' => ∀ v, Rep G B' ρ d v → Q v H') := q
        by_cases cn : 0 ≤ n ∧ n < 2 ^ 62
        · rw [if_pos cn] at q'
          exact ⟨n, ev, cn.1, by omega, q' B' H' w' sm kp _ rfl⟩
        · rw [if_neg cn] at q'
          exact q'.elim
      | _ => exact q.elim
    | _ => exact q.elim
/-- y in x, by x's own method, else plainly -/
def inW (T : List (Nat × FM)) (neg : Bool) (h : D → D → Option D) (fa fb : EV) : EV := fun δ a => (fa δ a).bind fun d a1 => (fb δ a1).bind fun e a2 => match clsOf e with
  | some c => (match T.lookup c with
    | some f => ownB neg (f [e, d] a2)
    | none => .stuck)
  | none => (match h d e with
    | some r => .ok r a2
    | none => .stuck)
theorem VOk.inW {ta tb : TE} {fa fb : EV} {r0 : R2} {h : D → D → Option D} {neg : Bool} (o : Op2 G r0 h) (ha : VOk G W ta fa) (hb : VOk G W tb fb) : VOk G W (tOp (fun x y H Q => r0 x y H Q ∨ rInO G T neg x y H Q) ta tb) (inW T neg h fa fb) := fun ρ R B H σ δ a Q w sl q =>
  ha ρ R B H σ δ a _ w sl (Fin.imp (Fin.seq q) fun d1 a1 B1 H1 w1 s1 k1 q1 x r1 =>
    hb ρ R B1 H1 σ δ a1 _ w1 (sl.mono s1) (Fin.imp (Fin.seq q1) fun d2 a2 B2 H2 w2 s2 k2 q2 y r2 => by
      have r1' := Rep.mono s2 d1 x r1
      cases c : clsOf d2 with
      | none =>
        rw [c] at q2
        dsimp only at q2
        cases c1 : h d1 d2 with
        | none =>
          rw [c1] at q2
          exact q2.elim
        | some d =>
          rw [c1] at q2
          exact .inl (o B2 H2 ρ d1 d2 d x y Q w2.ex r1' r2 c1 (q2.here w2))
      | some cc =>
        rw [c] at q2
        dsimp only at q2
        cases e : T.lookup cc with
        | none =>
          rw [e] at q2
          exact q2.elim
        | some f =>
          rw [e] at q2
          dsimp only at q2
          refine .inr ⟨(cc, f), mem_look e, clsOf_at c w2.ex r2, rfl, ρ, R, B2, [d2, d1], a2, w2, Reps.cons r2 (Reps.cons r1' Reps.nil), ?_⟩
          show FinM G _ ρ R B2 H2 [] (f [d2, d1] a2) _
          cases co : f [d2, d1] a2 with
          | stuck =>
            rw [co] at q2
            exact q2.elim
          | exc _ _ _ _ =>
            rw [co] at q2
            exact q2.elim
          | ok m a3 =>
            rw [co] at q2
            cases m with
            | val d =>
              cases d with
              | bl b =>
                intro B' H' v F w' sm kp om
                obtain ⟨rfl, ev⟩ := om
                exact ⟨b, ev, q2 B' H' w' sm kp _ rfl⟩
              | _ => exact q2.elim
            | _ => exact q2.elim))
variable {e e1 e2 : Expr} {es : List Expr} {fa fb : EV} {ga : EA} {p pos : Pos}
theorem dv_tostrW (F : ∀ p ∈ T, SpcD X.prog X.w X.K X.mg X.base G "__str__" k 1 p) (hr : Room (k + 2) X.A) (hm : X.mg "str" = none) (ha : DA X G W (e :: es) ga) (hg : Gl X "str" := by rfl) (he : HeadP X e es := by rfl) (hpl : RestP X pos es := by rfl) : DV X G W (.Call (.Name "str" p) (e :: es) [] pos) (callW T strOf (un1 gStr) ga) := by
  obtain ⟨ta, pa, sa⟩ := ha.ex
  exact ⟨_, pe_callTy (DL.CallR.two call_strA (call_strO F hr)) hg hm boot_str pa (by decide) (by decide) he hpl, VOk.callW c_str strO_ok sa⟩
theorem dv_lenW (hK : G.K = X.K) (F : ∀ p ∈ T, SpcD X.prog X.w X.K X.mg X.base G "__len__" k 1 p) (hr : Room (k + 1) X.A) (hm : X.mg "len" = none) (ha : DA X G W (e :: es) ga) (hg : Gl X "len" := by rfl) (he : HeadP X e es := by rfl) (hpl : RestP X pos es := by rfl) : DV X G W (.Call (.Name "len" p) (e :: es) [] pos) (callW T lenOf (un1 gLen) ga) := by
  obtain ⟨ta, pa, sa⟩ := ha.ex
  exact ⟨_, pe_callB (DL.CallR.two call_len (call_lenO F hr)) hg hm PySem.boot_len pa (by decide) (by decide) he hpl, VOk.callW (by have z := c_len (G := G); rw [hK] at z; exact z) lenO_ok sa⟩
theorem dv_inW (hK : G.K = X.K) (F : ∀ p ∈ T, SpcD X.prog X.w X.K X.mg X.base G "__contains__" k 2 p) (hr : Room k X.A) (ha : DV X G W e1 fa) (hb : DV X G W e2 fb) (hi : behindInMarks .In e2 = false := by rfl) : DV X G W (.Compare e1 [.In] [e2] pos) (inW T false dIn fa fb) := by
  obtain ⟨ta, pa, sa⟩ := ha.ex
  obtain ⟨tb, pb, sb⟩ := hb.ex
  exact ⟨_, pe_cmpR (orOp (op_inA (hu65 hr)) (op_inO F hr)) pa pb hi, VOk.inW (by have z := o_in (G := G); rw [hK] at z; exact z) sa sb⟩
theorem dv_notInW (hK : G.K = X.K) (F : ∀ p ∈ T, SpcD X.prog X.w X.K X.mg X.base G "__contains__" k 2 p) (hr : Room k X.A) (ha : DV X G W e1 fa) (hb : DV X G W e2 fb) (hi : behindInMarks .NotIn e2 = false := by rfl) : DV X G W (.Compare e1 [.NotIn] [e2] pos) (inW T true dNotIn fa fb) := by
  obtain ⟨ta, pa, sa⟩ := ha.ex
  obtain ⟨tb, pb, sb⟩ := hb.ex
  exact ⟨_, pe_cmpR (orOp (op_notInA (hu65 hr)) (op_notInO F hr)) pa pb hi, VOk.inW (by have z := o_notIn (G := G); rw [hK] at z; exact z) sa sb⟩
theorem dt_inW (hK : G.K = X.K) (F : ∀ p ∈ T, SpcD X.prog X.w X.K X.mg X.base G "__contains__" k 2 p) (hr : Room k X.A) (ha : DV X G W e1 fa) (hb : DV X G W e2 fb) (hi : behindInMarks .In e2 = false := by rfl) : DT X G W (.Compare e1 [.In] [e2] pos) (tV (inW T false dIn fa fb)) := by
  obtain ⟨ta, pa, sa⟩ := ha.ex
  obtain ⟨tb, pb, sb⟩ := hb.ex
  exact ⟨_, pt_cmpR (orOp (op_inA (hu65 hr)) (op_inO F hr)) pa pb hi, TOk.ofV (VOk.inW (by have z := o_in (G := G); rw [hK] at z; exact z) sa sb)⟩
theorem dt_notInW (hK : G.K = X.K) (F : ∀ p ∈ T, SpcD X.prog X.w X.K X.mg X.base G "__contains__" k 2 p) (hr : Room k X.A) (ha : DV X G W e1 fa) (hb : DV X G W e2 fb) (hi : behindInMarks .NotIn e2 = false := by rfl) : DT X G W (.Compare e1 [.NotIn] [e2] pos) (tV (inW T true dNotIn fa fb)) := by
  obtain ⟨ta, pa, sa⟩ := ha.ex
  obtain ⟨tb, pb, sb⟩ := hb.ex
  exact ⟨_, pt_cmpR (orOp (op_notInA (hu65 hr)) (op_notInO F hr)) pa pb hi, TOk.ofV (VOk.inW (by have z := o_notIn (G := G); rw [hK] at z; exact z) sa sb)⟩
end
end DL

namespace DL
open PySem PySem.Spec PyProof.Rows L2

/-! ## names within a comprehension -/
def visB (sc : Scope) (x : Str) : Bool := match sc.names.lookup x with
  | some .local => true
  | some .cell => true
  | some .free => true
  | _ => false
theorem vis_b {sc : Scope} {x : Str} (h : visB sc x = true) : Vis sc x := by
  unfold visB at h
  split at h
  · rename_i e
    exact .inl e
  · rename_i e
    exact .inr (.inl e)
  · rename_i e
    exact .inr (.inr e)
  · cases h
theorem vis_rows {env : Env} {x : Str} : ∀ {l : List (Str × NameKind)} {k : NameKind}, l.lookup x = some k → (k = .local ∨ k = .cell ∨ k = .free) →
    ∃ k', (l.map fun (n, k) => if (k == NameKind.free && env.scope.kind == .function && env.kindOf n == some .cell) then (n, NameKind.cell) else (n, k)).lookup x = some k' ∧ (k' = .local ∨ k' = .cell ∨ k' = .free)
  | [], k, h, _ => by cases h
  | (n, k0) :: r, k, h, hk => by
    rw [List.lookup_cons] at h
    rw [List.map_cons]
    cases c : x == n with
    | true =>
      rw [c] at h
      cases h
      dsimp only
      split
      · exact ⟨.cell, by rw [List.lookup_cons, c], .inr (.inl rfl)⟩
      · exact ⟨k0, by rw [List.lookup_cons, c], hk⟩
    | false =>
      rw [c] at h
      obtain ⟨k', h1, h2⟩ := vis_rows (env := env) h hk
      refine ⟨k', ?_, h2⟩
      dsimp only
      split
      · rw [List.lookup_cons, c]
        exact h1
      · rw [List.lookup_cons, c]
        exact h1
theorem vis_blk {X : Cx} {s : Shared} {H : Hp} {scope : Scope} {cl : List (Str × Addr)} {C : Addr} {fp : List Addr} {x : Str} (h : visB scope x = true) : Vis ((X.blk s H scope (compEnvC scope cl C X.env) fp).env.scope) x := by
  have z : ∃ k, scope.names.lookup x = some k ∧ (k = .local ∨ k = .cell ∨ k = .free) := by
    rcases vis_b h with e | e | e
    · exact ⟨_, e, .inl rfl⟩
    · exact ⟨_, e, .inr (.inl rfl)⟩
    · exact ⟨_, e, .inr (.inr rfl)⟩
  obtain ⟨k, e, hk⟩ := z
  obtain ⟨k', h1, h2⟩ := vis_rows (env := X.env) e hk
  rcases h2 with rfl | rfl | rfl
  · exact .inl h1
  · exact .inr (.inl h1)
  · exact .inr (.inr h1)
/-! ## y = [..], given to the ground at once -/
theorem MOk.vm {G : Gx} {W : WX} {t : TE} {f : EM} (s : MOk G W t f) : MOk G W t (mV (vM f)) := fun ρ R B H σ δ a Q w sl q => s ρ R B H σ δ a Q w sl (by
  unfold mV vM at q
  cases e : f δ a with
  | ok m a' =>
    rw [e] at q
    exact fun B' H' v F w' s' k' o => q (ov B' H' F) H' v [] w'.absorb (s'.trans w'.sameOv) k' ⟨rfl, Own.froze w'.sameOv m v F (fun p hp => ov_in hp) o⟩
  | exc c ns ds a' =>
    rw [e] at q
    exact q
  | stuck =>
    rw [e] at q
    exact q)
section
variable {X : Cx} {G : Gx} {W : WX}
theorem ds_setLcV {i : Nat} {y : Str} {py : Pos} {elt tg iter : Expr} {ifs : List Expr} {scope : Scope} {own : List (Str × Nat)} {pos spos : Pos} {it : EI} {fr : Bool} {gt : D → Sw → Option Sw} {ft : ET} {fe : EM} (I : List Nat) (hc : X.calm = true) (hN : X.N.Nodup) (hy : X.N[i]? = some y) (hyl : X.env.scope.names.lookup y = some .local)
    (hsw : swapsWith (.ListComp elt [⟨tg, iter, ifs, 0⟩] scope pos) (some (.Name y py)) spos.line X.env = pure true) (hi : DI X G W tg iter fr it) (ok : BlkOk X.N X.env.scope scope own)
    (hg : ∀ (s : Shared) (H : Hp) (C : Addr) (cl : List (Str × Addr)) (fp : List Addr), DGx (X.blk s H scope (compEnvC scope cl C X.env) fp) G (own.map (·.2)) tg gt)
    (ht : ∀ (s : Shared) (H : Hp) (C : Addr) (cl : List (Str × Addr)) (fp : List Addr), DPs (X.blk s H scope (compEnvC scope cl C X.env) fp) G W0 ifs ft)
    (he : ∀ (s : Shared) (H : Hp) (C : Addr) (cl : List (Str × Addr)) (fp : List Addr), DM (X.blk s H scope (compEnvC scope cl C X.env) fp) G W0 elt fe) (hs : ∀ x, foldedSetIterable iter X.env x = pure x := by intro _; rfl) :
    DS X G W (.Assign [.Name y py] (.ListComp elt [⟨tg, iter, ifs, 0⟩] scope pos) spos) (sSet i I (mV (vM (lcM (own.map (·.2)) it gt ft fe)))) := by
  obtain ⟨wi, pi, si⟩ := hi.ex
  exact ⟨_, ps_setLc hc hN hy hyl hsw pi ok (fun s H C cl fp => can_g (hg s H C cl fp)) (fun s H C cl fp => can_t (ht s H C cl fp)) (fun s H C cl fp => can_m (he s H C cl fp)) hs, SOk.set (MOk.vm (MOk.lc si))⟩
end
end DL

namespace DL
open PySem PySem.Spec PyProof.Rows L2

/-! ## def f(a, .., *v): what is left over is a tuple -/
/-- a promise for any number of values -/
def spA (G : Gx) (g : FM) : Sp := fun vs H Q E => ∃ (ρ R : List Addr) (B : Hp) (ds : List D) (a : Sto), Wd G B H ρ a R ∧ Reps G B ρ ds vs ∧ FinM G (fun cls d _ H => E cls d H) ρ R B H [] (g ds a) (fun _ _ _ H' v _ => Q v H')
def gSt (n : Nat) (g : FM) : FM := fun ds a => if n ≤ ds.length ∧ ds.length ≤ 1000 then g (ds.take n ++ [.tup (ds.drop n)]) a else .stuck
theorem fn_stars {P : Program} {w : World} {K : PySem.W.Frag} {mg : Str → Option Value} {base : Heap} {G : Gx} {x qual pv : Str} {st : Stmt} {f : Addr} {fd : FuncData} {N ps : List Str} {k : Nat} {g : SM} (F : Fun K x qual st f fd) (S : FnScope N (ps ++ [pv]) (defScope st))
    (hbd : ∀ (kV doc pm : Value) (an : Option Addr) (cdv ct : Value) (us rest : List Value), us.length = ps.length → bindArgs (PySem.W.fnOf x qual (defArgs st) (defBody st) (defScope st) .none kV doc pm an cdv ct) ⟨us ++ rest, []⟩ = (newTuple rest >>= fun t => pure (ps.zip us ++ [(pv, t)])))
    (hb : ∀ (cdv : Value) (A : Around) (outer : List Env) (s : Shared) (H : Hp) (E : XK), Room k (A.deeper (envOfC qual (defScope st) s.heap.objs.size f cdv)) →
      DSs (cxOf (L2.CX P w) P w K mg base N qual (defScope st) f cdv A outer s H E) G (fun cls d _ H => E cls d H) (defBody st) g) :
    FnR P w K mg base (L2.CX P w) (k + 1) f (spA G (gSt ps.length (bodyM (ps.length + 1) N.length g))) := by
  obtain ⟨oc, od, kV, doc, pm, an, cdv, ct, osl, rfl, lk, hcd⟩ := F.ex
  refine FnR.imp (StX.fn_star (sp := spD G (bodyM (ps.length + 1) N.length g) (ps.length + 1)) lk hcd S StX.cxUp (hbd kV doc pm an cdv ct) fun A outer s H vs Q E hr h => ?_) fun vs H Q E h => ?_
  · obtain ⟨t, p, so⟩ := (hb cdv A outer s H E hr).ex
    refine ⟨t, p, ?_⟩
    obtain ⟨hl, ρ, R, B, ds, a, w, r, q⟩ := h
    have len := r.len
    unfold bodyM at q
    rw [if_pos (by rw [len]; exact hl)] at q
    have os : OwnS G B H ρ (ent N.length ds) (L2.start N vs) [] := by
      unfold ent L2.start
      rw [len]
      exact OwnS.ent r
    refine so ρ R B H (L2.start N vs) (ent N.length ds) a [] _ w os ?_
    cases c : g (ent N.length ds) a with
    | nx δ a' =>
      rw [c] at q
      exact fun B' H' σ' F' w' sm kp os' => q B' H' .non [] w'.drop sm kp ⟨rfl, rfl⟩
    | rt m a' =>
      rw [c] at q
      exact fun B' H' v F' w' sm kp om => q B' H' v F' w' sm kp om
    | exc cc ns es δ a' =>
      rw [c] at q
      exact fun B' H' σ' dd F' w' sm kp x os' => q B' H' dd w'.drop sm kp x
    | bk δ a' =>
      rw [c] at q
      exact q.elim
    | ct δ a' =>
      rw [c] at q
      exact q.elim
    | stuck =>
      rw [c] at q
      exact q.elim
  · obtain ⟨ρ, R, B, ds, a, w, r, q⟩ := h
    unfold gSt at q
    by_cases hc : ps.length ≤ ds.length ∧ ds.length ≤ 1000
    · rw [if_pos hc] at q
      have len := r.len
      refine ⟨vs.take ps.length, vs.drop ps.length, (List.take_append_drop _ _).symm, by rw [List.length_take]; omega, Nat.le_of_lt (small1000 (by rw [List.length_drop]; omega)), fun p hp => ?_⟩
      have sm := same_new (o := HO.tup (vs.drop ps.length)) (w.noneB hp)
      refine ⟨by rw [List.length_append, List.length_take, List.length_singleton]; omega, ρ, R, upd B p (.tup (vs.drop ps.length)), ds.take ps.length ++ [.tup (ds.drop ps.length)], a, w.new hp, Reps.append (Reps.mono sm _ _ (Reps.take ps.length r)) (Reps.cons (show Rep G _ ρ (.tup (ds.drop ps.length)) (.ref p) from ⟨p, _, rfl, SqT.of upd_same, Reps.mono sm _ _ (Reps.drop ps.length r)⟩) Reps.nil), ?_⟩
      exact FinM.base q sm (kp_new w hp)
    · rw [if_neg hc] at q
      exact q.elim
/-- how they bind, with nothing ahead of the star -/
theorem bind_star0 {B : List Value → Sem (List (Str × Value))} {pv : Str} (h0 : B [] = (newTuple [] >>= fun t => pure [(pv, t)])) (h1 : ∀ r rs, B (r :: rs) = (newTuple (r :: rs) >>= fun t => pure [(pv, t)])) :
    ∀ us rest : List Value, us.length = ([] : List Str).length → B (us ++ rest) = (newTuple rest >>= fun t => pure (([] : List Str).zip us ++ [(pv, t)]))
  | [], [], _ => h0
  | [], r :: rs, _ => h1 r rs
/-! ## calls with a star -/
def aStar (fe : EV) (fa : EA) : EA := fun δ a => (fe δ a).bind fun d a1 => match d with
  | .tup l => (fa δ a1).map fun ds => l ++ ds
  | .lst l => (fa δ a1).map fun ds => l ++ ds
  | _ => .stuck
section
variable {X : Cx} {G : Gx} {W : WX} {x : Str} {c k : Nat} {g : FM} {e : Expr} {es : List Expr} {p pos sp_ : Pos}
theorem AOk.star {te : TE} {t : TA} {fe : EV} {fa : EA} (hK : G.K = X.K) (so : VOk G W te fe) (s : AOk G W t fa) : AOk G W (StX.tStar X.K te t) (aStar fe fa) := fun ρ R B H σ δ a Q w sl q =>
  so ρ R B H σ δ a _ w sl (Fin.imp (Fin.seq q) fun d a1 B1 H1 w1 s1 k1 q1 v r => by
    have go : ∀ (l : List D) (p : Addr) (xs : List V), v = .ref p → (SqT X.K H1 p xs ∨ SqL X.K H1 p xs) → Reps G B1 ρ l xs → Fin G W ρ R B1 H1 σ ((fa δ a1).map fun ds => l ++ ds) (fun ds a2 B2 H2 => ∀ vs, Reps G B2 ρ ds vs → Q vs H2) → ∃ p xs, v = V.ref p ∧ (SqT X.K H1 p xs ∨ SqL X.K H1 p xs) ∧ t σ H1 fun ys H2 => Q (xs ++ ys) H2 := fun l p xs ev hx rl q2 =>
      ⟨p, xs, ev, hx, s ρ R B1 H1 σ δ a1 _ w1 (sl.mono s1) (Fin.imp (Fin.seq q2) fun ds a2 B2 H2 w2 s2 k2 q3 ys rv => q3.here w2 _ (Reps.append (Reps.mono s2 _ _ rl) rv))⟩
    cases d with
    | tup l =>
      obtain ⟨p, xs, ev, h2, h3⟩ := Rep.mono w1.ex _ _ r
      obtain ⟨p', xs', ev', h2', h3'⟩ := r
      have hx : SqT X.K H1 p' xs' := by
        rw [← hK]
        rcases h2' with (z | ⟨o, z⟩) | z
        · exact .inl (.inl (w1.ex _ _ z))
        · exact .inl (.inr ⟨o, w1.ex _ _ z⟩)
        · exact .inr z
      exact go l p' xs' ev' (.inl hx) h3' q1
    | lst l =>
      obtain ⟨p', xs', ev', h2', h3'⟩ := r
      exact go l p' xs' ev' (.inr (SqL.of (w1.ex _ _ h2'))) h3' q1
    | _ => exact q1.elim)
theorem da_star {fe : EV} {fa : EA} (hK : G.K = X.K) (he : DV X G W e fe) (k : DA X G W es fa) (hs : starEach (.Starred e p :: es) X.env = (true, eval e X.env) :: starEach es X.env := by rfl) : DA X G W (.Starred e p :: es) (aStar fe fa) := by
  obtain ⟨te, pe, so⟩ := he.ex
  obtain ⟨t, pa, s⟩ := k.ex
  exact ⟨_, StX.pa_star pe pa hs, AOk.star hK so s⟩
/-- the callee runs -/
theorem run_fnRS {f : Addr} {sp : Sp} {pins : List (Addr × Obj)} {σ : L2.St} {H : Hp} {s : Shared} {Q : VK} {us : List Value} {vs : List V} (F : FnR X.prog X.w X.K X.mg X.base (L2.CX X.prog X.w) k f sp) (hr : Room k X.A) (tk : Takes X W)
    (I : Inv X pins σ H s) (r : Vals vs us) (h : sp vs H Q (WE W σ)) : wpAny (model X.prog X.w) X.A (call (.ref f) us) (EP X pins σ Q) X.xe s :=
  wpAny_call (codeAny_mono (F X.A X.stack s H us vs Q (WE W σ) hr I.env0 r h) fun out s' z => match out, z with
    | .error x, z => passAt tk σ pins _ _ x s' I z
    | .ok (.ret _), z => I.after z
    | .ok .next, z => z.elim
    | .ok .brk, z => z.elim
    | .ok .cont, z => z.elim)
/-! ### a class whose __init__ has a star -/
structure InitS (P : Program) (w : World) (K : PySem.W.Frag) (mg : Str → Option Value) (base : Heap) (G : Gx) (x : Str) (c k : Nat) (g : FM) : Prop where
  ex : ∃ f : Addr, FnR P w K mg base (L2.CX P w) k f (spA G g) ∧ mg x = some (.ref (G.T c)) ∧ Mk K (G.T c) f
def mkS (c : Nat) (g : FM) (fa : EA) : EM := fun δ a => (fa δ a).bind fun ds a1 => mkEnd c a1.length (g (.loc a1.length :: ds) (a1 ++ [.obj c [] []]))
theorem MOk.makeS {t : TA} {fa : EA} (s : AOk G W t fa) : MOk G W (tMakeSD (G.T c) (spA G g) (WE W) t) (mkS c g fa) := fun ρ R B H σ δ a Q w sl q =>
  s ρ R B H σ δ a _ w sl (Fin.imp (Fin.seqM q) fun ds a1 B1 H1 w1 s1 k1 q1 vs r x dx hx hd hne => by
    have w2 := w1.push (c := c) hx hd hne
    refine ⟨ρ ++ [x], R, B1, .loc a1.length :: ds, _, w2, Reps.cons ⟨x, by rw [← w1.len, List.getElem?_append_right (Nat.le_refl _), Nat.sub_self]; rfl, rfl⟩ (Reps.ext [x] ds vs r), ?_⟩
    have kpR : ∀ {H' : Hp}, Kp R (upd (upd H1 dx (.own x)) x (.ins (G.T c) dx [])) H' → Kp R H1 H' := fun kp y hy => by
      have y1 : y ≠ x := w1.ne hx (List.mem_append_right _ hy)
      have y2 : y ≠ dx := w1.ne hd (List.mem_append_right _ hy)
      rw [kp y hy, upd_ne y1, upd_ne y2]
    rw [← w1.len] at q1
    rw [← w1.len]
    cases co : g (.loc ρ.length :: ds) (a1 ++ [.obj c [] []]) with
    | stuck =>
      rw [co] at q1
      exact q1.elim
    | ok m a2 =>
      rw [co] at q1
      cases m with
      | val d =>
        cases d with
        | non =>
          intro B' H' v F w' sm kp om
          obtain ⟨rfl, ev⟩ := om
          have ev' : v = .non := ev
          refine ⟨ev', ?_⟩
          unfold mkEnd at q1
          dsimp only at q1
          cases cp : popO ρ.length a2 with
          | none =>
            rw [cp] at q1
            exact q1.elim
          | some z =>
            obtain ⟨a3, c', ns, es⟩ := z
            rw [cp] at q1
            dsimp only at q1
            by_cases hc : c' = c
            · rw [if_pos hc] at q1
              subst hc
              obtain ⟨dy, w3, o3⟩ := Wd.pop w' cp
              exact q1 B' H' (.ref x) _ w3 sm (kpR kp) o3
            · rw [if_neg hc] at q1
              exact q1.elim
        | _ => exact q1.elim
      | _ => exact q1.elim
    | exc kk ns es a2 =>
      rw [co] at q1
      intro B' H' dd w' sm kp xx
      unfold mkEnd at q1
      dsimp only at q1
      cases cp : popO ρ.length a2 with
      | none =>
        rw [cp] at q1
        exact q1.elim
      | some z =>
        obtain ⟨a3, c', ns', es'⟩ := z
        rw [cp] at q1
        dsimp only at q1
        by_cases hc : noLocs ρ.length es = true
        · rw [if_pos hc] at q1
          obtain ⟨dy, w3, o3⟩ := Wd.pop w' cp
          refine q1 B' H' dd w3.drop sm (kpR kp) ?_
          rcases xx with xx | ⟨d, xs, x1, x2, x3, x4⟩
          · exact .inl xx
          · exact .inr ⟨d, xs, x1, x2, x3, Reps.less es xs hc x4⟩
        · rw [if_neg hc] at q1
          exact q1.elim)
theorem call_makeRS {C f : Addr} {sp : Sp} {pins : List (Addr × Obj)} {σ : L2.St} {H : Hp} {s : Shared} {Q : VK} {us : List Value} {vs : List V} (M : Mk X.K C f) (F : FnR X.prog X.w X.K X.mg X.base (L2.CX X.prog X.w) k f sp) (hr : Room (k + 1) X.A) (tk : Takes X W)
    (I : Inv X pins σ H s) (r : Vals vs us) (h : ∀ y dx, H y = none → H dx = none → dx ≠ y → sp (.ref y :: vs) (upd (upd H dx (.own y)) y (.ins C dx [])) (fun v H2 => v = .non ∧ Q (.ref y) H2) (WE W σ)) : wpAny (model X.prog X.w) X.A (call (.ref C) us) (EP X pins σ Q) X.xe s :=
  have born := Inv.made (C := C) I
  have q := h _ _ (I.hok.fresh (Nat.le_succ _)) (I.hok.fresh (Nat.le_refl _)) (Nat.ne_of_lt (Nat.lt_succ_self _))
  wpAny_call (make_map (f := f) I.kIn M.makes M.init (beq_iff_eq.mp M.fn) (codeAny_mono (F _ X.stack _ _ (.ref (s.heap.objs.size + 1) :: us) (.ref (s.heap.objs.size + 1) :: vs) _ _ (hr.make C us []) (born.env0.make C us []) (.cons rfl r) q) fun out s' z => match out, z with
    | .error x, z => passAt tk σ pins _ _ x s' born z
    | .ok (.ret _), z =>
      have ⟨_, H', I3, rv, e, z3⟩ := born.after z
      ⟨by cases e; exact rv, V.ref (s.heap.objs.size + 1), H', I3, rfl, z3⟩
    | .ok .next, z => z.elim
    | .ok .brk, z => z.elim
    | .ok .cont, z => z.elim))
theorem dm_makeS {fa : EA} (N : InitS X.prog X.w X.K X.mg X.base G x c k g) (hr : Room (k + 1) X.A) (tk : Takes X W) (ha : DA X G W (e :: es) fa) (hg : Gl X x := by rfl)
    (hdb : NotDbg x := by decide) (he : HeadP X e es := by rfl) (hpl : RestP X pos es := by rfl) :
    DM X G W (.Call (.Name x p) (e :: es) [] pos) (mkS c g fa) := by
  obtain ⟨t, pa, s⟩ := ha.ex
  obtain ⟨f, FF, hm, M⟩ := N.ex
  refine ⟨_, ⟨fun pins s0 σ H Q I h => wpAny_Call_Name_kw (ld_glob I hg hm ?_ hdb)⟩, MOk.makeS s⟩
  exact PySem.W.callWith_K (h₀ := X.base) I.ok.mod.kin M.kp (thn (pa.run pos pins s0 σ H _ I h) fun us s1 ⟨vs, H1, I1, r, q⟩ => ⟨I1.kIn, call_makeRS M FF hr tk I1 r q⟩) he hpl
theorem dm_makeS0 (N : InitS X.prog X.w X.K X.mg X.base G x c k g) (hr : Room (k + 1) X.A) (tk : Takes X W) (hg : Gl X x := by rfl) (hdb : NotDbg x := by decide) :
    DM X G W (.Call (.Name x p) [] [] pos) (mkS c g aNil) := by
  obtain ⟨f, FF, hm, M⟩ := N.ex
  refine ⟨_, ⟨fun pins s0 σ H Q I h => wpAny_Call_Name_kw (ld_glob I hg hm ?_ hdb)⟩, MOk.makeS (t := tNil) AOk.nil⟩
  exact PySem.W.callWith_K0 I.kIn M.kp (call_makeRS (us := []) M FF hr tk I .nil h)
/-- C( *xs) -/
theorem dm_makeSx {fe : EV} (N : InitS X.prog X.w X.K X.mg X.base G x c k g) (hK : G.K = X.K) (hr : Room (k + 1) X.A) (tk : Takes X W) (he : DV X G W e fe) (hg : Gl X x := by rfl) (hdb : NotDbg x := by decide)
    (hst : starEach [.Starred e sp_] X.env = [(true, eval e X.env)] := by rfl) :
    DM X G W (.Call (.Name x p) [.Starred e sp_] [] pos) (mkS c g (aStar fe aNil)) := by
  obtain ⟨te, pe, so⟩ := he.ex
  obtain ⟨f, FF, hm, M⟩ := N.ex
  refine ⟨_, ⟨fun pins s0 σ H Q I h => wpAny_Call_Name_kw (ld_glob I hg hm ?_ hdb)⟩, MOk.makeS (AOk.star hK so AOk.nil)⟩
  refine PySem.W.callWith_S (h₀ := X.base) I.ok.mod.kin M.kp (thn (pe.run pins s0 σ H _ I h) fun v s1 ⟨y, H1, I1, ry, a, xs, ey, hxs, q⟩ => ?_) hst
  subst ey
  obtain rfl : v = Value.ref a := ry
  exact StX.star_any I1 hxs fun us s2 I2 rv => ⟨I2.kIn, call_makeRS M FF hr tk I2 rv (by
    have q' : ∀ x dx, H1 x = none → H1 dx = none → dx ≠ x → spA G g (.ref x :: (xs ++ [])) _ _ _ := q
    rw [List.append_nil] at q'
    exact q')⟩
end
end DL

namespace DL
open PySem PySem.Spec PyProof.Rows L2

/-! ## x + y, x | y, x & y and x[y] by own methods that may raise -/
structure BinD (P : Program) (w : World) (K : PySem.W.Frag) (mg : Str → Option Value) (base : Heap) (G : Gx) (op : Operator) (k : Nat) (p : Nat × FM) : Prop where
  ex : ∃ (f : Addr) (fd : FuncData) (ps : List Str), FnOk P w K mg base (L2.CX P w) k f fd ps (spD G p.2 2) ∧ PySem.W.findIn K (.ref (G.T p.1)) (PySem.dunder op.info.2) = some (some (.ref f)) ∧ PySem.W.isFn K (.ref f) = true ∧ Binds K fd ps []
  first : PySem.W.selfFirst K (G.T p.1) = true
  right : ∃ rc fo ro, PySem.W.findIn K (.ref (G.T p.1)) (PySem.dunderR op.info.2) = some rc ∧ (rc = none ∨ ∃ g : Addr, rc = some (.ref g)) ∧ PySem.W.findIn K (.type "int") (PySem.dunder op.info.2) = some fo ∧ PySem.W.findIn K (.type "int") (PySem.dunderR op.info.2) = some ro ∧ PySem.W.subIn K (.type "int") (.ref (G.T p.1)) = some false
/-- the second one may be an int or of the same class -/
def okArg (c : Nat) : D → Bool
  | .int _ => true
  | .obj c' _ _ => decide (c' = c)
  | _ => false
def argV (G : Gx) (c : Nat) (H : Hp) (y : V) : Prop := (∃ i : Int, y = .int i) ∨ AtC G H c y
theorem okArg_v {G : Gx} {c : Nat} {d : D} {B H : Hp} {ρ : List Addr} {y : V} (h : okArg c d = true) (s : Same B H) (r : Rep G B ρ d y) : argV G c H y := by
  cases d with
  | int i => exact .inl ⟨i, r⟩
  | obj c' ns l =>
    obtain rfl : c' = c := of_decide_eq_true h
    exact .inr (clsOf_at rfl s r)
  | _ => cases h
abbrev RS := L2.St → V → V → Hp → VK → Prop
def rBin (G : Gx) (W : WX) (T : List (Nat × FM)) : RS := fun σ x y H Q => ∃ p ∈ T, AtC G H p.1 x ∧ argV G p.1 H y ∧ spD G p.2 2 [x, y] H Q (WE W σ)
def rItm (G : Gx) (W : WX) (T : List (Nat × FM)) : RS := fun σ x y H Q => ∃ p ∈ T, AtC G H p.1 x ∧ spD G p.2 2 [x, y] H Q (WE W σ)
def tOpS (r : RS) (ta tb : TE) : TE := fun σ H Q => ta σ H fun x H1 => tb σ H1 fun y H2 => r σ x y H2 Q
section
variable {X : Cx} {G : Gx} {W : WX} {k : Nat} {T : List (Nat × FM)}
theorem rel_back {v : V} {u : Value} {Q : Value → Shared → Prop} {s' : Shared} (r : RelV v u) (q : Q u s') : PySem.W.CmpBack Q u s' := by
  cases v with
  | non => cases r; exact q
  | bl b => cases r; exact q
  | int i => obtain ⟨t, rfl⟩ := r; exact q
  | str i => obtain ⟨t, rfl⟩ := r; exact q
  | byt i => obtain ⟨t, rfl⟩ := r; exact q
  | flt i => obtain ⟨t, rfl⟩ := r; exact q
  | ref a => cases r; exact q
  | ty n => cases r; exact q
theorem op_bin {op : Operator} (F : ∀ p ∈ T, BinD X.prog X.w X.K X.mg X.base G op k p) (hr : Room k X.A) (tk : Takes X W) (pins : List (Addr × Obj)) (s : Shared) (σ : L2.St) (H : Hp) (x y : V) (v u : Value) (Q : VK)
    (I : Inv X pins σ H s) (rx : RelV x v) (ry : RelV y u) (h : rBin G W T σ x y H Q) : wpAny (model X.prog X.w) X.A (binaryOp op v u) (EP X pins σ Q) X.xe s := by
  obtain ⟨p, hp, ⟨a, dx, fs, rfl, ha⟩, hy, q⟩ := h
  cases rx
  have D := F p hp
  obtain ⟨f, fd, ps, FF, hs, hf, bi⟩ := D.ex
  obtain ⟨mA, J, _⟩ := ins_get I.hok ha
  obtain ⟨od, J, _⟩ := J.look
  obtain ⟨fm, hF⟩ := I.fr
  have run : wpAny (model X.prog X.w) X.A (call (.ref f) [.ref a, u]) (PySem.W.CmpBack (EP X pins σ Q)) X.xe s := by
    refine wpAny_mono (run_fnSD (E := WE W) (us := [.ref a, u]) (vs := [.ref a, y]) (dvs := []) FF hr bi .nil (passAt tk σ) I (.cons rfl (.cons ry .nil)) q) (fun r s' z => ?_) fun _ _ e => e
    obtain ⟨vv, H', I', rv, q'⟩ := z
    exact rel_back rv ⟨vv, H', I', rv, q'⟩
  rcases hy with ⟨i, rfl⟩ | ⟨b, dy, gs, rfl, hb⟩
  · obtain ⟨t, rfl⟩ := ry
    obtain ⟨rc, fo, ro, h1, h2, h3, h4, h5⟩ := D.right
    exact PySem.W.ksp_binT (T := "int") hF I.ok.mod.kin J rfl D.first hs hf h1 h2 h3 h4 h5 run
  · cases ry
    obtain ⟨mB, J2, _⟩ := ins_get I.hok hb
    obtain ⟨od2, J2, _⟩ := J2.look
    exact PySem.W.binop_K hF I.ok.mod.kin J J2.type D.first hs hf run
theorem pe_bin {op : Operator} {e1 e2 : Expr} {pos : Pos} {ta tb : TE} (F : ∀ p ∈ T, BinD X.prog X.w X.K X.mg X.base G op k p) (hr : Room k X.A) (tk : Takes X W) {r0 : R2} (ho : OpR X (binaryOp op) r0) (ha : PE X e1 ta) (hb : PE X e2 tb) :
    PE X (.BinOp e1 op e2 pos) (tOpS (fun σ x y H Q => r0 x y H Q ∨ rBin G W T σ x y H Q) ta tb) :=
  ⟨fun pins s σ H Q I h => wpAny_BinOp (binT ha hb I h fun v u s2 x y H2 I2 rx ry q => q.elim (ho pins s2 σ H2 x y v u Q I2 rx ry) (op_bin F hr tk pins s2 σ H2 x y v u Q I2 rx ry))⟩
/-! ### x[y] -/
structure ItmD (P : Program) (w : World) (K : PySem.W.Frag) (mg : Str → Option Value) (base : Heap) (G : Gx) (k : Nat) (p : Nat × FM) : Prop where
  ex : ∃ (f : Addr) (fd : FuncData) (ps : List Str), FnOk P w K mg base (L2.CX P w) k f fd ps (spD G p.2 2) ∧ PySem.W.findIn K (.ref (G.T p.1)) "__getitem__" = some (some (.ref f)) ∧ PySem.W.fnIn K f = true ∧ PySem.W.isFn K (.ref f) = true ∧ Binds K fd ps []
theorem ix_own (F : ∀ p ∈ T, ItmD X.prog X.w X.K X.mg X.base G k p) (hr : Room (k + 1) X.A) (tk : Takes X W) (value slice : Expr) (pins : List (Addr × Obj)) (s : Shared) (σ : L2.St) (H : Hp) (x y : V) (v u : Value) (Q : VK)
    (I : Inv X pins σ H s) (rx : RelV x v) (ry : RelV y u) (h : rItm G W T σ x y H Q)
    (hsl : ∀ a, subscripted slice true (.ref a) u = runValue (.builtin "lifetime.subscript" ⟨[.ref a, u], []⟩)) : wpAny (model X.prog X.w) X.A (subscriptTail value slice v u) (EP X pins σ Q) X.xe s := by
  obtain ⟨p, hp, ⟨a, dx, fs, rfl, ha⟩, q⟩ := h
  cases rx
  obtain ⟨f, fd, ps, FF, hs, hfn, hf, bi⟩ := (F p hp).ex
  obtain ⟨mA, J, _⟩ := ins_get I.hok ha
  obtain ⟨od, J, _⟩ := J.look
  obtain ⟨fm, hF⟩ := I.fr
  refine PySem.W.sub_K hF I.ok.mod.kin J hs hfn hf ?_ (hsl a)
  exact wpAny_call (codeAny_mono (code_fn FF hr.in1 I.env0.in1 I.kIn bi (us := [.ref a, u]) (vs := [.ref a, y]) (.cons rfl (.cons ry .nil)) q) fun out s' z => match out, z with
    | .error x, z => passAt tk σ pins _ _ x s' I z
    | .ok (.ret _), z => I.after z
    | .ok .next, z => z.elim
    | .ok .brk, z => z.elim
    | .ok .cont, z => z.elim)
theorem pe_itm {e1 e2 : Expr} {pos : Pos} {ta tb : TE} (F : ∀ p ∈ T, ItmD X.prog X.w X.K X.mg X.base G k p) (hr : Room (k + 1) X.A) (tk : Takes X W) {r0 : R2} (ho : IxR X r0) (ha : PE X e1 ta) (hb : PE X e2 tb) (hs : PlainIx e2)
    (hsl : ∀ u a, subscripted e2 true (.ref a) u = runValue (.builtin "lifetime.subscript" ⟨[.ref a, u], []⟩)) :
    PE X (.Subscript e1 e2 pos) (tOpS (fun σ x y H Q => r0 x y H Q ∨ rItm G W T σ x y H Q) ta tb) :=
  ⟨fun pins s σ H Q I h => Subscript_ (binT ha hb I h fun v u s2 x y H2 I2 rx ry q => q.elim (fun q => ho e1 e2 pins s2 σ H2 x y v u Q I2 rx ry q (hs _ _)) fun q => ix_own F hr tk e1 e2 pins s2 σ H2 x y v u Q I2 rx ry q (hsl u))⟩
/-! ### as data -/
def opO (T : List (Nat × FM)) (ok : Nat → D → Bool) (h : Sto → D → D → Option New) (fa fb : EV) : EM := fun δ a => (fa δ a).bind fun d a1 => (fb δ a1).bind fun e a2 => match clsOf d with
  | some c => (match T.lookup c with
    | some f => if ok c e = true then f [d, e] a2 else .stuck
    | none => .stuck)
  | none => (match h a2 d e with
    | some nw => .ok nw.m a2
    | none => .stuck)
theorem MOk.opO {ta tb : TE} {fa fb : EV} {r0 : R2} {r1 : RS} {ok : Nat → D → Bool} {h : Sto → D → D → Option New} (o : OpS G r0 h)
    (ho : ∀ (B H : Hp) (ρ : List Addr) (d e : D) (x y : V) (p : Nat × FM) (σ : L2.St) (Q : VK), p ∈ T → Same B H → Rep G B ρ e y → ok p.1 e = true → AtC G H p.1 x → spD G p.2 2 [x, y] H Q (WE W σ) → r1 σ x y H Q)
    (ha : VOk G W ta fa) (hb : VOk G W tb fb) : MOk G W (tOpS (fun σ x y H Q => r0 x y H Q ∨ r1 σ x y H Q) ta tb) (opO T ok h fa fb) := fun ρ R B H σ δ a Q w sl q =>
  ha ρ R B H σ δ a _ w sl (Fin.imp (Fin.seqM q) fun d a1 B1 H1 w1 s1 k1 q1 x r1 =>
    hb ρ R B1 H1 σ δ a1 _ w1 (sl.mono s1) (Fin.imp (Fin.seqM q1) fun e a2 B2 H2 w2 s2 k2 q2 y r2 => by
      have r1' := Rep.mono s2 d x r1
      cases c : clsOf d with
      | none =>
        rw [c] at q2
        dsimp only at q2
        cases e2 : h a2 d e with
        | none =>
          rw [e2] at q2
          exact q2.elim
        | some nw =>
          rw [e2] at q2
          exact .inl (o ρ R B2 H2 a2 d e nw x y Q w2 r1' r2 e2 (FinM.new w2 q2))
      | some cc =>
        rw [c] at q2
        dsimp only at q2
        cases e2 : T.lookup cc with
        | none =>
          rw [e2] at q2
          exact q2.elim
        | some f =>
          rw [e2] at q2
          dsimp only at q2
          by_cases hk : ok cc e = true
          · rw [if_pos hk] at q2
            refine .inr (ho B2 H2 ρ d e x y (cc, f) σ Q (mem_look e2) w2.ex r2 hk (clsOf_at c w2.ex r1') ?_)
            exact ⟨rfl, ρ, R, B2, [d, e], a2, w2, Reps.cons r1' (Reps.cons r2 Reps.nil), FinM.wx q2 fun c d H z => z⟩
          · rw [if_neg hk] at q2
            exact q2.elim))
theorem dm_binO {op : Operator} {e1 e2 : Expr} {pos : Pos} {fa fb : EV} {r0 : R2} {h : D → D → Option New} (o : OpN G r0 h) (ho : OpR X (binaryOp op) r0) (F : ∀ p ∈ T, BinD X.prog X.w X.K X.mg X.base G op k p) (hr : Room k X.A) (tk : Takes X W)
    (ha : DV X G W e1 fa) (hb : DV X G W e2 fb) : DM X G W (.BinOp e1 op e2 pos) (opO T okArg (fun _ => h) fa fb) := by
  obtain ⟨ta, pa, sa⟩ := ha.ex
  obtain ⟨tb, pb, sb⟩ := hb.ex
  exact ⟨_, pe_bin (W := W) F hr tk ho pa pb, MOk.opO (fun ρ R B H a => o ρ R B H a) (fun B H ρ d e x y p σ Q hp s r2 hk hx q => ⟨p, hp, hx, okArg_v hk s r2, q⟩) sa sb⟩
theorem dm_itm {e1 e2 : Expr} {pos : Pos} {fa fb : EV} (hK : G.K = X.K) (F : ∀ p ∈ T, ItmD X.prog X.w X.K X.mg X.base G k p) (hr : Room (k + 1) X.A) (tk : Takes X W)
    (ha : DV X G W e1 fa) (hb : DV X G W e2 fb) (hs : PlainIx e2) (hsl : ∀ u a, subscripted e2 true (.ref a) u = runValue (.builtin "lifetime.subscript" ⟨[.ref a, u], []⟩) := by intro _ _; with_unfolding_all rfl) : DM X G W (.Subscript e1 e2 pos) (opO T (fun _ _ => true) dIx fa fb) := by
  obtain ⟨ta, pa, sa⟩ := ha.ex
  obtain ⟨tb, pb, sb⟩ := hb.ex
  exact ⟨_, pe_itm (W := W) F hr tk ix_seq pa pb hs hsl, MOk.opO (by rw [← hK]; exact o_ix) (fun B H ρ d e x y p σ Q hp s r2 hk hx q => ⟨p, hp, hx, q⟩) sa sb⟩
end
end DL

namespace DL
open PySem PySem.Spec PyProof.Rows L2

/-! ## a list of ints within an owned list, shared for a while: ys = xs[k] .. ys[j] = e -/
mutual
def noLocM (n : Nat) : M → Bool
  | .val d => noLoc n d
  | .lst ms => noLocMs n ms
  | .tup ms => noLocMs n ms
  | .obj _ _ ms => noLocMs n ms
def noLocMs (n : Nat) : List M → Bool
  | [] => true
  | m :: ms => noLocM n m && noLocMs n ms
end
def noLocS (n : Nat) : SlM → Bool
  | [] => true
  | none :: r => noLocS n r
  | some m :: r => noLocM n m && noLocS n r
section
variable {G : Gx} {B H : Hp} {ρ R : List Addr} {x : Addr}
mutual
theorem Own.less : ∀ (m : M) (v : V) (F : List Addr), noLocM ρ.length m = true → Own G B H (ρ ++ [x]) m v F → Own G B H ρ m v F
  | .val d, v, F, c, h => ⟨h.1, Rep.less d v c h.2⟩
  | .lst ms, v, F, c, h => by
    obtain ⟨p, xs, F1, h1, h2, h3, h4⟩ := h
    exact ⟨p, xs, F1, h1, h2, h3, Owns.less ms xs F1 c h4⟩
  | .tup ms, v, F, c, h => by
    obtain ⟨p, xs, F1, h1, h2, h3, h4⟩ := h
    exact ⟨p, xs, F1, h1, h2, h3, Owns.less ms xs F1 c h4⟩
  | .obj _ ns ms, v, F, c, h => by
    obtain ⟨p, dx, xs, F1, h1, h2, h3, h5, h6, h4⟩ := h
    exact ⟨p, dx, xs, F1, h1, h2, h3, h5, h6, Owns.less ms xs F1 c h4⟩
theorem Owns.less : ∀ (ms : List M) (xs : List V) (F : List Addr), noLocMs ρ.length ms = true → Owns G B H (ρ ++ [x]) ms xs F → Owns G B H ρ ms xs F
  | [], xs, F, c, h => h
  | m :: ms, xs, F, c, h => by
    obtain ⟨y, r, F1, F2, h1, h2, h3, h4⟩ := h
    have c' : (noLocM ρ.length m && noLocMs ρ.length ms) = true := c
    obtain ⟨c1, c2⟩ := Bool.and_eq_true_iff.mp c'
    exact ⟨y, r, F1, F2, h1, h2, Own.less m y F1 c1 h3, Owns.less ms r F2 c2 h4⟩
end
theorem OwnS.less : ∀ (δ : SlM) (σ : L2.St) (F : List Addr), noLocS ρ.length δ = true → OwnS G B H (ρ ++ [x]) δ σ F → OwnS G B H ρ δ σ F
  | [], σ, F, c, h => h
  | none :: δ, σ, F, c, h => by
    obtain ⟨o, r, h1, h2⟩ := h
    exact ⟨o, r, h1, OwnS.less δ r F c h2⟩
  | some m :: δ, σ, F, c, h => by
    obtain ⟨v, r, F1, F2, h1, h2, h3, h4⟩ := h
    have c' : (noLocM ρ.length m && noLocS ρ.length δ) = true := c
    obtain ⟨c1, c2⟩ := Bool.and_eq_true_iff.mp c'
    exact ⟨v, r, F1, F2, h1, h2, Own.less m v F1 c1 h3, OwnS.less δ r F2 c2 h4⟩
/-- the names of the shared place forgotten -/
def clS (n : Nat) : SlM → SlM
  | [] => []
  | some (.val (.loc k)) :: r => (if k = n then none else some (.val (.loc k))) :: clS n r
  | o :: r => o :: clS n r
theorem OwnS.clean (n : Nat) : ∀ (δ : SlM) (σ : L2.St) (F : List Addr), OwnS G B H ρ δ σ F → OwnS G B H ρ (clS n δ) σ F
  | [], σ, F, h => h
  | none :: δ, σ, F, h => by
    obtain ⟨o, r, h1, h2⟩ := h
    exact ⟨o, r, h1, OwnS.clean n δ r F h2⟩
  | some m :: δ, σ, F, h => by
    have keep : OwnS G B H ρ (some m :: clS n δ) σ F := by
      obtain ⟨v, r, F1, F2, h1, h2, h3, h4⟩ := h
      exact ⟨v, r, F1, F2, h1, h2, h3, OwnS.clean n δ r F2 h4⟩
    cases m with
    | val d =>
      cases d with
      | loc k =>
        show OwnS G B H ρ ((if k = n then none else some (.val (.loc k))) :: clS n δ) σ F
        by_cases e : k = n
        · rw [if_pos e]
          obtain ⟨v, r, F1, F2, h1, rfl, ⟨rfl, h3⟩, h4⟩ := h
          exact ⟨some v, r, h1, OwnS.clean n δ r F2 h4⟩
        · rw [if_neg e]
          exact keep
      | _ => exact keep
    | _ => exact keep
theorem clS_len (n : Nat) : ∀ δ : SlM, (clS n δ).length = δ.length
  | [] => rfl
  | none :: δ => congrArg (· + 1) (clS_len n δ)
  | some (.lst _) :: δ => congrArg (· + 1) (clS_len n δ)
  | some (.tup _) :: δ => congrArg (· + 1) (clS_len n δ)
  | some (.obj _ _ _) :: δ => congrArg (· + 1) (clS_len n δ)
  | some (.val d) :: δ => by
    cases d <;> exact congrArg (· + 1) (clS_len n δ)
theorem clS_at {n j : Nat} {ms : List M} : ∀ {δ : SlM}, δ[j]? = some (some (.lst ms)) → (clS n δ)[j]? = some (some (.lst ms))
  | [], h => by simp at h
  | o :: δ, h => by
    cases j with
    | zero =>
      have e : o = some (.lst ms) := by simpa using h
      rw [e]
      rfl
    | succ j =>
      have ih := clS_at (n := n) (j := j) (δ := δ) (ms := ms) (by simpa using h)
      rcases o with _ | (d | _ | _ | _)
      · simpa [clS] using ih
      · cases d <;> simpa [clS] using ih
      · simpa [clS] using ih
      · simpa [clS] using ih
      · simpa [clS] using ih
/-- an owned list of ints as a shared place .. -/
theorem Wd.pushN {a : Sto} {p : Addr} {l : List Int} (w : Wd G B H ρ a (p :: R)) (hp : H p = some (.lst (l.map V.int))) : Wd G B H (ρ ++ [p]) (a ++ [.nums l]) R := by
  have pm : ((ρ ++ [p]) ++ R).Perm (ρ ++ p :: R) := by
    rw [List.append_assoc]
    exact List.Perm.refl _
  refine ⟨w.ex, by rw [List.length_append, List.length_append, w.len] <;> rfl, fun n q k h1 h2 => ?_, pm.nodup_iff.mpr w.nd, fun q hq => w.bn q (pm.mem_iff.mp hq), fun q hq => w.has q (pm.mem_iff.mp hq)⟩
  by_cases hn : n < ρ.length
  · rw [List.getElem?_append_left hn] at h1
    rw [List.getElem?_append_left (by rw [← w.len]; exact hn)] at h2
    have z := w.sto n q k h1 h2
    cases k with
    | nums l => exact z
    | obj cc ns ds =>
      obtain ⟨dy, ys, y1, y2, y3, y4, y5, y6⟩ := z
      exact ⟨dy, ys, y1, y2, y3, Reps.ext [p] ds ys y4, fun m => y5 (pm.mem_iff.mp m), y6⟩
  · have e1 : n = ρ.length := by
      have l1 := (List.getElem?_eq_some_iff.mp h1).1
      rw [List.length_append, List.length_singleton] at l1
      omega
    subst e1
    rw [List.getElem?_append_right (Nat.le_refl _), Nat.sub_self] at h1
    rw [w.len, List.getElem?_append_right (Nat.le_refl _), Nat.sub_self] at h2
    cases h1
    cases h2
    exact hp
def popN (n : Nat) (a : Sto) : Option (Sto × List Int) := match a[n]? with
  | some (.nums l) => if noLocA n (a.take n) = true then some (a.take n, l) else none
  | _ => none
/-- .. and owned again -/
theorem Wd.popN {a a3 : Sto} {p : Addr} {l : List Int} (w : Wd G B H (ρ ++ [p]) a R) (e : popN ρ.length a = some (a3, l)) : Wd G B H ρ a3 (p :: R) ∧ H p = some (.lst (l.map V.int)) := by
  have hl := w.len
  rw [List.length_append, List.length_singleton] at hl
  unfold DL.popN at e
  cases c1 : a[ρ.length]? with
  | none =>
    rw [c1] at e
    cases e
  | some cl =>
    rw [c1] at e
    cases cl with
    | obj c' ns' ds' => cases e
    | nums l' =>
      dsimp only at e
      by_cases c4 : noLocA ρ.length (a.take ρ.length) = true
      · rw [if_pos c4] at e
        cases e
        have hx : (ρ ++ [p])[ρ.length]? = some p := by
          rw [List.getElem?_append_right (Nat.le_refl _), Nat.sub_self]
          rfl
        have hp := w.sto ρ.length p _ hx c1
        have pm : ((ρ ++ [p]) ++ R).Perm (ρ ++ p :: R) := by
          rw [List.append_assoc]
          exact List.Perm.refl _
        refine ⟨⟨w.ex, by rw [List.length_take]; omega, fun n q k h1 h2 => ?_, pm.nodup_iff.mp w.nd, fun q hq => w.bn q (pm.mem_iff.mpr hq), fun q hq => w.has q (pm.mem_iff.mpr hq)⟩, hp⟩
        have hn : n < ρ.length := (List.getElem?_eq_some_iff.mp h1).1
        have h2' : a[n]? = some k := by
          rw [List.getElem?_take] at h2
          rw [if_pos hn] at h2
          exact h2
        have y := w.sto n q k (by rw [List.getElem?_append_left hn]; exact h1) h2'
        cases k with
        | nums l => exact y
        | obj cc ms es =>
          obtain ⟨dy, ys, y1, y2, y3, y4, y5, y6⟩ := y
          exact ⟨dy, ys, y1, y2, y3, Reps.less es ys (noLocA_at c4 h2) y4, fun m => y5 (pm.mem_iff.mpr m), y6⟩
      · rw [if_neg c4] at e
        cases e
end
/-! ### the statement -/
def shOut (j k n : Nat) : OutS → OutS
  | .nx δ a => (match popN n a with
    | some (a3, l) => (match (clS n δ)[j]? with
      | some (some (.lst ms)) => (match ms[k]? with
        | some (.val (.loc m)) => if m = n ∧ noLocS n ((clS n δ).set j (some (.lst (ms.set k (.lst ((l.map D.int).map M.val)))))) = true then .nx ((clS n δ).set j (some (.lst (ms.set k (.lst ((l.map D.int).map M.val)))))) a3 else .stuck
        | _ => .stuck)
      | _ => .stuck)
    | none => .stuck)
  | _ => .stuck
/-- the k-th list of the slot j is a shared place while f runs -/
def sWith (j k : Nat) (f : SM) : SM := fun δ a => match δ[j]? with
  | some (some (.lst ms)) => (match ms[k]? with
    | some (.lst is) => (match intsM is with
      | some l => shOut j k a.length (f (δ.set j (some (.lst (ms.set k (.val (.loc a.length)))))) (a ++ [.nums l]))
      | none => .stuck)
    | _ => .stuck)
  | _ => .stuck
section
variable {G : Gx} {W : WX} {t : TS} {f : SM} {j k : Nat}
/-- an owned list with another element -/
theorem OwnS.elem {B H : Hp} {ρ F : List Addr} {δ : SlM} {σ : L2.St} {ms : List M} {m : M} (os : OwnS G B H ρ δ σ F) (hj : δ[j]? = some (some (.lst ms))) (hk : ms[k]? = some m) :
    ∃ x F1 Fr, Own G B H ρ m x F1 ∧ F.Perm (F1 ++ Fr) ∧ (∃ p0 xs, σ[j]? = some (some (.ref p0)) ∧ H p0 = some (.lst xs) ∧ xs[k]? = some x) ∧ ∀ (m' : M) (F1' : List Addr), Own G B H ρ m' x F1' → ∃ F' Fd, (F1' ++ Fr).Perm (Fd ++ F') ∧ OwnS G B H ρ (δ.set j (some (.lst (ms.set k m')))) σ F' := by
  obtain ⟨v, Fi, Fr, pf, h1, ⟨p0, xs, F0, rfl, hp0, rfl, ow⟩, h3⟩ := OwnS.take os hj
  obtain ⟨x, F1, Fr1, g1, g2, g3, g4⟩ := Owns.split ow hk
  have hlt : j < δ.length := (List.getElem?_eq_some_iff.mp hj).1
  refine ⟨x, F1, p0 :: (Fr1 ++ Fr), g2, ?_, ⟨p0, xs, h1, hp0, g1⟩, fun m' F1' o => ?_⟩
  · refine List.perm_iff_count.mpr fun q => ?_
    have e1 := List.perm_iff_count.mp pf q
    have e2 := List.perm_iff_count.mp g3 q
    simp only [List.count_append, List.count_cons] at *
    omega
  · obtain ⟨F2, p2, o2⟩ := g4 B H m' F1' (Same.refl _) (fun _ _ => rfl) o
    obtain ⟨Fi', Fr', F3, y1, y2, y3⟩ := OwnS.set (i := j) (m := .lst (ms.set k m')) (v := .ref p0) (Fm := p0 :: F2) ⟨p0, xs, F2, rfl, hp0, rfl, o2⟩ h3 (by rw [List.length_set]; exact hlt)
    rw [List.set_set] at y3
    have es : σ.set j (some (.ref p0)) = σ := by
      obtain ⟨hlt, e⟩ := List.getElem?_eq_some_iff.mp h1
      rw [← e]
      exact List.set_getElem_self hlt
    rw [es] at y3
    refine ⟨F3, Fi', ?_, y3⟩
    refine List.perm_iff_count.mpr fun q => ?_
    have e1 := List.perm_iff_count.mp p2 q
    have e2 := List.perm_iff_count.mp y1 q
    have e3 := List.perm_iff_count.mp y2 q
    simp only [List.count_append, List.count_cons] at *
    omega
theorem Wd.swap {B H : Hp} {ρ R F Fd F' F0 : List Addr} {a : Sto} (w : Wd G B H ρ a (F ++ R)) (h : F.Perm (F0 ++ (Fd ++ F'))) : Wd G B H ρ a (F0 ++ (F' ++ R)) := by
  have z : Wd G B H ρ a (Fd ++ (F0 ++ (F' ++ R))) := w.perm (by
    refine List.perm_iff_count.mpr fun q => ?_
    have e1 := List.perm_iff_count.mp h q
    simp only [List.count_append] at *
    omega)
  exact z.drop
theorem SOk.with (s : SOk G W t f) : SOk G W t (sWith j k f) := fun ρ R B H σ δ a F Z w os q => by
  unfold sWith at q
  cases c1 : δ[j]? with
  | none =>
    rw [c1] at q
    exact q.elim
  | some o1 =>
    rw [c1] at q
    rcases o1 with _ | (_ | ms | _ | _)
    · exact q.elim
    · exact q.elim
    · dsimp only at q
      cases c2 : ms[k]? with
      | none =>
        rw [c2] at q
        exact q.elim
      | some m =>
        rw [c2] at q
        rcases m with _ | is | _ | _
        · exact q.elim
        · dsimp only at q
          cases c3 : intsM is with
          | none =>
            rw [c3] at q
            exact q.elim
          | some l =>
            rw [c3] at q
            dsimp only at q
            obtain ⟨x, F1, Fr, ⟨p, ys, F0, rfl, hp, rfl, ow⟩, pf, ⟨p0, xs, k1, k2, k3⟩, _⟩ := OwnS.elem os c1 c2
            obtain ⟨rfl, rfl⟩ := intsM_own c3 ow
            have w1 : Wd G B H ρ a (p :: (Fr ++ R)) := w.perm (by
              refine List.perm_iff_count.mpr fun q => ?_
              have e1 := List.perm_iff_count.mp pf q
              simp only [List.count_append, List.count_cons, List.count_nil] at *
              omega)
            have more : ∀ (n : Nat) (q : Addr), ρ[n]? = some q → (ρ ++ [p])[n]? = some q := fun n q e => by
              rw [List.getElem?_append_left (List.getElem?_eq_some_iff.mp e).1]
              exact e
            have hloc : (ρ ++ [p])[a.length]? = some p := by
              rw [← w.len, List.getElem?_append_right (Nat.le_refl _), Nat.sub_self]
              rfl
            obtain ⟨x', F1', Fr', ow', pf', ⟨p0', xs', k1', k2', k3'⟩, re⟩ := OwnS.elem (OwnS.more more δ σ F os) c1 c2
            have ex : x' = .ref p := by
              rw [k1] at k1'
              cases k1'
              rw [k2] at k2'
              cases k2'
              rw [k3] at k3'
              cases k3'
              rfl
            subst ex
            obtain ⟨p', ys', F0', e1, hp', rfl, ow'⟩ := ow'
            cases e1
            obtain ⟨_, rfl⟩ := intsM_own c3 ow'
            obtain ⟨F2, Fd, pd, os2⟩ := re (.val (.loc a.length)) [] ⟨rfl, p, hloc, rfl⟩
            have pfr : Fr.Perm Fr' := by
              refine List.perm_iff_count.mpr fun q => ?_
              have e1 := List.perm_iff_count.mp pf q
              have e2 := List.perm_iff_count.mp pf' q
              simp only [List.count_append, List.count_cons, List.count_nil] at *
              omega
            have w2 := (Wd.swap (F0 := [p]) (Fd := Fd) (F' := F2) (R := R) (F := p :: Fr) w1 (List.Perm.cons p (pfr.trans pd))).pushN hp
            refine s (ρ ++ [p]) R B H σ _ _ F2 Z w2 os2 ?_
            cases co : f (δ.set j (some (.lst (ms.set k (.val (.loc a.length)))))) (a ++ [.nums l]) with
            | nx δ2 a2 =>
              rw [co] at q
              intro B' H' σ' F' w' sm kp os'
              unfold shOut at q
              dsimp only at q
              cases d1 : popN a.length a2 with
              | none =>
                rw [d1] at q
                exact q.elim
              | some z =>
                obtain ⟨a3, l'⟩ := z
                rw [d1] at q
                dsimp only at q
                cases d2 : (clS a.length δ2)[j]? with
                | none =>
                  rw [d2] at q
                  exact q.elim
                | some o2 =>
                  rw [d2] at q
                  rcases o2 with _ | (_ | ms2 | _ | _)
                  · exact q.elim
                  · exact q.elim
                  · dsimp only at q
                    cases d3 : ms2[k]? with
                    | none =>
                      rw [d3] at q
                      exact q.elim
                    | some m2 =>
                      rw [d3] at q
                      rcases m2 with d | _ | _ | _
                      · cases d with
                        | loc m =>
                          dsimp only at q
                          by_cases hc : m = a.length ∧ noLocS a.length ((clS a.length δ2).set j (some (.lst (ms2.set k (.lst ((l'.map D.int).map M.val)))))) = true
                          · rw [if_pos hc] at q
                            obtain ⟨rfl, hn⟩ := hc
                            obtain ⟨y, G1, Gr, ⟨rfl, p2, hp2, rfl⟩, pg, _, re2⟩ := OwnS.elem (OwnS.clean a.length δ2 σ' F' os') d2 d3
                            rw [hloc] at hp2
                            cases hp2
                            rw [← w.len] at d1
                            obtain ⟨w3, hp3⟩ := Wd.popN w' d1
                            obtain ⟨F3, Fd3, pd3, os3⟩ := re2 (.lst ((l'.map D.int).map M.val)) [p] ⟨p, l'.map V.int, [], rfl, hp3, rfl, Owns.vals (Reps.ints.mpr rfl)⟩
                            refine q B' H' σ' F3 (Wd.swap (F0 := []) (Fd := Fd3) (F := p :: F') w3 (by
                              refine List.perm_iff_count.mpr fun q => ?_
                              have e1 := List.perm_iff_count.mp pd3 q
                              have e2 := List.perm_iff_count.mp pg q
                              simp only [List.count_append, List.count_cons, List.count_nil] at *
                              omega)) sm kp (OwnS.less _ _ _ (by rw [w.len]; exact hn) os3)
                          · rw [if_neg hc] at q
                            exact q.elim
                        | _ => exact q.elim
                      · exact q.elim
                      · exact q.elim
                      · exact q.elim
                  · exact q.elim
                  · exact q.elim
            | rt m a2 =>
              rw [co] at q
              exact q.elim
            | bk δ2 a2 =>
              rw [co] at q
              exact q.elim
            | ct δ2 a2 =>
              rw [co] at q
              exact q.elim
            | exc cc ns es δ2 a2 =>
              rw [co] at q
              exact q.elim
            | stuck =>
              rw [co] at q
              exact q.elim
        · exact q.elim
        · exact q.elim
    · exact q.elim
    · exact q.elim
theorem ds_with {X : Cx} {st : Stmt} (h : DS X G W st f) : DS X G W st (sWith j k f) := by
  obtain ⟨t, p, s⟩ := h.ex
  exact ⟨t, p, SOk.with s⟩
end
end DL

namespace DL
open PySem PySem.Spec PyProof.Rows L2

/-! ## ys[j] = e, ys a shared list of ints -/
def sStoQ (I : List Nat) (fe : EM) (ko : Nat) (fk : QI) : SM := fun δ a => (lift I fe δ a).seq fun m δ1 a1 => match m, δ1[ko]?, fk δ1 with
  | .val (.int v), some (some (.val (.loc n))), some k => (match a1[n]? with
    | some (.nums l) => (match ixN l.length k with
      | some j => .nx δ1 (a1.set n (.nums (l.set j v)))
      | none => .stuck)
    | _ => .stuck)
  | _, _, _ => .stuck
section
variable {X : Cx} {G : Gx} {W : WX}
theorem ds_stoQ {e e2 : Expr} {x : Str} {ko : Nat} {fk : QI} {fe : EM} {p1 tpos pos : Pos} (I : List Nat) (he : DM X G W e fe) (hk : DQ X G e2 fk) (hN : X.N[ko]? = some x) (hv : Vis X.env.scope x)
    (hd : NotDbg x := by decide) (hcd : (x == ("__classdict__" : Str)) = false := by decide)
    (hs : swapsWithSole [.Subscript (.Name x p1) e2 tpos] e pos.line X.env = pure false := by rfl) (hw : swappedStores [.Subscript (.Name x p1) e2 tpos] e X.env = pure none := by rfl)
    (h1 : (assignEach [.Subscript (.Name x p1) e2 tpos] X.env).map (·.2) = [assign (.Subscript (.Name x p1) e2 tpos) X.env] := by rfl)
    (ha : SubF X (.Name x p1) e2 tpos := by intro _; rfl) : DS X G W (.Assign [.Subscript (.Name x p1) e2 tpos] e pos) (sStoQ I fe ko fk) := by
  obtain ⟨te, pe, se⟩ := he.ex
  obtain ⟨tk, pk, sk⟩ := hk.ex
  refine ⟨_, ps_asg pe (pg_sub (pe_var hN hv hd hcd) pk set_list ha) hs hw h1, fun ρ R B H σ δ a F Z w os q => ?_⟩
  refine lift_ok se w os (Ox.fin q fun m δ1 a1 B1 H1 v F1 Fa w1 om os1 q1 => ?_)
  match m, om with
  | .val (.int i), om =>
    obtain ⟨rfl, rm⟩ := om
    have ev : v = .int i := rm
    subst ev
    cases c1 : δ1[ko]? with
    | none =>
      rw [c1] at q1
      exact q1.elim
    | some o1 =>
      rw [c1] at q1
      match o1 with
      | none => exact q1.elim
      | some (.val (.loc n)) =>
        obtain ⟨vo, Fi, Fr, _, h2, ⟨_, p, h3, rfl⟩, _⟩ := OwnS.take os1 c1
        cases c4 : fk δ1 with
        | none =>
          rw [c4] at q1
          exact q1.elim
        | some k =>
          rw [c4] at q1
          dsimp only at q1
          cases c2 : a1[n]? with
          | none =>
            rw [c2] at q1
            exact q1.elim
          | some cl =>
            rw [c2] at q1
            cases cl with
            | obj _ _ _ => exact q1.elim
            | nums l =>
              dsimp only at q1
              cases c3 : ixN l.length k with
              | none =>
                rw [c3] at q1
                exact q1.elim
              | some j =>
                rw [c3] at q1
                have w1' : Wd G B1 H1 ρ a1 (Fa ++ R) := w1
                refine ⟨.ref p, h2, sk ρ B1 H1 σ δ1 Fa k _ os1 c4 ⟨p, l.map V.int, k, j, rfl, rfl, w1.ints h3 c2, by rw [List.length_map]; exact c3, ?_⟩⟩
                rw [map_set']
                exact q1 B1 _ σ Fa (w1'.put h3) (Same.refl _) (fun z hz => upd_ne (w1'.put_ne h3 (List.mem_append_right _ hz))) (OwnS.mono (Same.refl _) δ1 σ Fa (fun z hz => upd_ne (w1'.put_ne h3 (List.mem_append_left _ hz))) os1)
      | some (.val .non) | some (.val (.bl _)) | some (.val (.int _)) | some (.val (.str _)) | some (.val (.tup _)) | some (.val (.lst _)) | some (.val (.obj _ _ _)) | some (.val (.exc _ _ _)) | some (.val (.scr _)) => exact q1.elim
      | some (.lst _) | some (.tup _) | some (.obj _ _ _) => exact q1.elim
  | .val .non, _ | .val (.bl _), _ | .val (.str _), _ | .val (.tup _), _ | .val (.lst _), _ | .val (.obj _ _ _), _ | .val (.exc _ _ _), _ | .val (.scr _), _ | .val (.loc _), _ | .lst _, _ | .tup _, _ | .obj _ _ _, _ => exact q1.elim
/-! ## the own operators in short -/
variable {k : Nat} {T : List (Nat × FM)} {e1 e2 : Expr} {pos : Pos} {fa fb : EV}
theorem dm_addO (hK : G.K = X.K) (F : ∀ p ∈ T, BinD X.prog X.w X.K X.mg X.base G .Add k p) (hr : Room k X.A) (tk : Takes X W) (ha : DV X G W e1 fa) (hb : DV X G W e2 fb) :
    DM X G W (.BinOp e1 .Add e2 pos) (opO T okArg (fun _ => dAdd) fa fb) := dm_binO (by have z := o_add (G := G); rw [hK] at z; exact z) op_addA F hr tk ha hb
theorem op_noR {f : Value → Value → Sem Value} : OpR X f (fun _ _ _ _ => False) := fun _ _ _ _ _ _ _ _ _ _ _ _ h => h.elim
theorem o_noR : OpN G (fun _ _ _ _ => False) (fun _ _ => none) := fun _ _ _ _ _ _ _ _ _ _ _ _ _ _ e => by cases e
theorem dm_orO (F : ∀ p ∈ T, BinD X.prog X.w X.K X.mg X.base G .BitOr k p) (hr : Room k X.A) (tk : Takes X W) (ha : DV X G W e1 fa) (hb : DV X G W e2 fb) :
    DM X G W (.BinOp e1 .BitOr e2 pos) (opO T okArg (fun _ _ _ => none) fa fb) := dm_binO o_noR op_noR F hr tk ha hb
theorem dm_andO (F : ∀ p ∈ T, BinD X.prog X.w X.K X.mg X.base G .BitAnd k p) (hr : Room k X.A) (tk : Takes X W) (ha : DV X G W e1 fa) (hb : DV X G W e2 fb) :
    DM X G W (.BinOp e1 .BitAnd e2 pos) (opO T okArg (fun _ _ _ => none) fa fb) := dm_binO o_noR op_noR F hr tk ha hb
theorem binD_mono {P : Program} {w : World} {K : PySem.W.Frag} {mg : Str → Option Value} {base : Heap} {G : Gx} {op : Operator} {k j : Nat} {p : Nat × FM} (h : BinD P w K mg base G op k p) (hk : k ≤ j) : BinD P w K mg base G op j p := by
  obtain ⟨f, fd, ps, F, r⟩ := h.ex
  exact ⟨⟨f, fd, ps, F.mono hk, r⟩, h.first, h.right⟩
end
end DL

namespace DL
open PySem PySem.Spec PyProof.Rows L2
/-! ## how the later mirrors run -/
section
variable {δ : Sw} {a : Sto}
theorem x_mkM (c n : Nat) (g : FM) (fa : EA) : mkM c n g fa δ a = (fa δ a).bind fun ds a1 => if ds.length + 1 = n then mkEnd c a1.length (g (.loc a1.length :: ds) (a1 ++ [.obj c [] []])) else .stuck := rfl
theorem x_evW (T : List (Nat × FM)) (neg : Bool) (h : D → D → Option D) (fa fb : EV) : evW T neg h fa fb δ a = (fa δ a).bind fun d a1 => (fb δ a1).bind fun e a2 => opW T neg h a2 d e := rfl
/-- by the class's own method, else plainly -/
def callWk (T : List (Nat × FM)) (h : Out M → Out D) (g : Sto → List D → Option New) (ds : List D) (a : Sto) : Out D := match (one1 ds).bind clsOf with
  | some c => (match T.lookup c with
    | some f => h (f ds a)
    | none => .stuck)
  | none => newV a (g a ds)
theorem x_callW (T : List (Nat × FM)) (h : Out M → Out D) (g : Sto → List D → Option New) (fa : EA) : callW T h g fa δ a = (fa δ a).bind fun ds a1 => callWk T h g ds a1 := by
  unfold callW callWk
  congr
theorem x_inW (T : List (Nat × FM)) (neg : Bool) (h : D → D → Option D) (fa fb : EV) : inW T neg h fa fb δ a = (fa δ a).bind fun d a1 => (fb δ a1).bind fun e a2 => match clsOf e with
  | some c => (match T.lookup c with
    | some f => ownB neg (f [e, d] a2)
    | none => .stuck)
  | none => optK a2 (h d e) := by
  unfold inW
  congr
  funext d a1
  congr
  funext e a2
  cases clsOf e with
  | some c => rfl
  | none =>
    dsimp only
    cases h d e <;> rfl
@[simp] theorem x_lcM (vs : List Nat) (it : EI) (gt : D → Sw → Option Sw) (ft : ET) (fe : EM) : lcM vs it gt ft fe δ a = (it δ a).bind fun ds a1 => (lcGo gt ft fe (wipeD δ vs) ds [] a1).map M.lst := rfl
@[simp] theorem x_iEn (f : EA) : iEn f δ a = (f δ a).opt gEn := rfl
@[simp] theorem x_iZp (f : EA) : iZp f δ a = (f δ a).opt gZp := rfl
@[simp] theorem x_bmV (g : Str → List D → Option New) (f : EV) (l : EA) : bmV g f l δ a = (f δ a).bind fun o a1 => match o with
  | .str s => (l δ a1).bind fun ds a2 => newV a2 (g s ds)
  | _ => .stuck := by
  unfold bmV
  congr
@[simp] theorem x_bmM (g : Str → List D → Option New) (f : EV) (l : EA) : bmM g f l δ a = (f δ a).bind fun o a1 => match o with
  | .str s => (l δ a1).bind fun ds a2 => newM a2 (g s ds)
  | _ => .stuck := by
  unfold bmM
  congr
@[simp] theorem x_eJoi (g : EJ) : eJoi g δ a = (g Str.empty δ a).opt fun d => match d with
  | .str y => some (.str y)
  | _ => none := rfl
@[simp] theorem x_jNil (acc : Str) : jNil acc δ a = .ok (.str acc) a := rfl
theorem x_jCons (f : EV) (g : EJ) (acc : Str) : jCons f g acc δ a = (f δ a).bind fun d a1 => match d with
  | .str y => if (acc ++ y).length ≤ 100000 then g (acc ++ y) δ a1 else .stuck
  | _ => .stuck := rfl
@[simp] theorem tT_e : tT δ a = .ok true a := rfl
@[simp] theorem gNm_e (i : Nat) (d : D) : gNm i d δ = some (δ.set i (some d)) := rfl
@[simp] theorem gxNil_e : gxNil [] δ = some δ := rfl
@[simp] theorem gxCons_e (g : D → Sw → Option Sw) (gs : List D → Sw → Option Sw) (d : D) (r : List D) : gxCons g gs (d :: r) δ = (g d δ).bind (gs r) := by
  unfold gxCons
  dsimp only
  cases g d δ <;> rfl
@[simp] theorem gxTup_e (n : Nat) (gs : List D → Sw → Option Sw) (l : List D) : gxTup n gs (.tup l) δ = if l.length = n then gs l δ else none := rfl
end
section
variable {δ : SlM} {a : Sto}
theorem x_sSelf (I : List Nat) (i c : Nat) (f : Str) (fe : EV) : sSelf I i c f fe δ a = (lift I (mV fe) δ a).seq fun m δ1 a1 => match m, δ1[i]? with
  | .val d, some (some (.val (.loc n))) => (match a1[n]? with
    | some (.obj c' ns ds) => if c' = c ∧ ns.length < 1000 then .nx δ1 (a1.set n (.obj c (putN f ns) (putD f d ns ds))) else .stuck
    | _ => .stuck)
  | _, _ => .stuck := rfl
theorem x_sTry (f : SM) (hs : List Hc) : sTry f hs δ a = match f δ a with
  | .exc c ns ds δ' a' => tryH hs c ns ds δ' a'
  | o => o := rfl
theorem x_sApp (I : List Nat) (i : Nat) (f : EM) : sApp I i f δ a = match δ[i]? with
  | some (some (.lst _)) => (lift I f δ a).seq fun m δ1 a1 => (match δ1[i]? with
    | some (some (.lst ms)) => if ms.length < 100000 then .nx (δ1.set i (some (.lst (ms ++ [m])))) a1 else .stuck
    | _ => .stuck)
  | _ => .stuck := rfl
@[simp] theorem gTp_e (n : Nat) (gs : List D → SlM → Option SlM) (l : List D) : gTp n gs (.tup l) δ = if l.length = n then gs l δ else none := rfl
@[simp] theorem gsNil_e : gsNil [] δ = some δ := rfl
end
/-! ## loops and comprehensions by what holds between their turns -/
theorem loop_inv {g : D → SlM → Option SlM} {f : SM} (Inv : SlM → Sto → Prop) : ∀ {ds : List D}, (∀ d ∈ ds, ∀ δ a, Inv δ a → ∃ δ1 δ2 a2, g d δ = some δ1 ∧ f δ1 a = .nx δ2 a2 ∧ Inv δ2 a2) →
    ∀ {δ : SlM} {a : Sto}, Inv δ a → ∃ δ' a', sLoop g f ds δ a = .nx δ' a' ∧ Inv δ' a'
  | [], _, δ, a, h => ⟨δ, a, rfl, h⟩
  | d :: ds, k, δ, a, h => by
    obtain ⟨δ1, δ2, a2, e1, e2, h2⟩ := k d List.mem_cons_self δ a h
    obtain ⟨δ', a', e3, h3⟩ := loop_inv Inv (fun d' hd => k d' (List.mem_cons_of_mem _ hd)) h2
    exact ⟨δ', a', by rw [loop_S e1, e2]; exact e3, h3⟩
/-- .. by the number of turns gone -/
theorem loop_ix {g : D → SlM → Option SlM} {f : SM} (Inv : Nat → SlM → Sto → Prop) : ∀ {ds : List D} {n : Nat}, (∀ i d, ds[i]? = some d → ∀ δ a, Inv (n + i) δ a → ∃ δ1 δ2 a2, g d δ = some δ1 ∧ f δ1 a = .nx δ2 a2 ∧ Inv (n + i + 1) δ2 a2) →
    ∀ {δ : SlM} {a : Sto}, Inv n δ a → ∃ δ' a', sLoop g f ds δ a = .nx δ' a' ∧ Inv (n + ds.length) δ' a'
  | [], n, _, δ, a, h => ⟨δ, a, rfl, h⟩
  | d :: ds, n, k, δ, a, h => by
    obtain ⟨δ1, δ2, a2, e1, e2, h2⟩ := k 0 d rfl δ a h
    obtain ⟨δ', a', e3, h3⟩ := loop_ix Inv (ds := ds) (n := n + 1) (fun i d' hd δ a hh => by
      have z := k (i + 1) d' (by simpa using hd) δ a (by rw [show n + (i + 1) = n + 1 + i by omega]; exact hh)
      rw [show n + (i + 1) + 1 = n + 1 + i + 1 by omega] at z
      exact z) h2
    refine ⟨δ', a', by rw [loop_S e1, e2]; exact e3, ?_⟩
    rw [List.length_cons, show n + (ds.length + 1) = n + 1 + ds.length by omega]
    exact h3
theorem lc_inv {gt : D → Sw → Option Sw} {ft : ET} {fe : EM} {δ : Sw} (Pm : M → Prop) (Inv : Sto → Prop) : ∀ {ds : List D}, (∀ d ∈ ds, ∀ a, Inv a → ∃ δ1 m a', gt d δ = some δ1 ∧ ft δ1 a = .ok true a ∧ fe δ1 a = .ok m a' ∧ Pm m ∧ Inv a') →
    ∀ {acc : List M} {a : Sto}, Inv a → acc.length + ds.length ≤ 100000 → ∃ ms a', lcGo gt ft fe δ ds acc a = .ok (acc ++ ms) a' ∧ ms.length = ds.length ∧ (∀ m ∈ ms, Pm m) ∧ Inv a'
  | [], _, acc, a, h, _ => ⟨[], a, by rw [List.append_nil]; rfl, rfl, (fun m hm => nomatch hm), h⟩
  | d :: ds, k, acc, a, h, hl => by
    obtain ⟨δ1, m, a1, e1, e2, e3, pm, h1⟩ := k d List.mem_cons_self a h
    rw [List.length_cons] at hl
    obtain ⟨ms, a', e4, h4, h5, h6⟩ := lc_inv Pm Inv (fun d' hd => k d' (List.mem_cons_of_mem _ hd)) (acc := acc ++ [m]) h1 (by rw [List.length_append, List.length_singleton]; omega)
    refine ⟨m :: ms, a', ?_, by rw [List.length_cons, List.length_cons, h4], fun x hx => (List.mem_cons.mp hx).elim (fun e => e ▸ pm) (h5 x), h6⟩
    unfold lcGo
    rw [e1]
    dsimp only
    rw [e2]
    dsimp only
    rw [e3]
    dsimp only
    rw [if_pos (by omega), e4, List.append_assoc]
    rfl
/-- .. where each turn's answer is told ahead and the store stays -/
theorem lc_map {gt : D → Sw → Option Sw} {ft : ET} {fe : EM} {δ : Sw} {a : Sto} (p : D → Bool) (F : D → M) : ∀ {ds : List D}, (∀ d ∈ ds, ∃ δ1, gt d δ = some δ1 ∧ ft δ1 a = .ok (p d) a ∧ (p d = true → fe δ1 a = .ok (F d) a)) →
    ∀ {acc : List M}, acc.length + ds.length ≤ 100000 → lcGo gt ft fe δ ds acc a = .ok (acc ++ (ds.filter p).map F) a
  | [], _, acc, _ => by
    rw [List.filter_nil, List.map_nil, List.append_nil]
    rfl
  | d :: ds, k, acc, hl => by
    obtain ⟨δ1, e1, e2, e3⟩ := k d List.mem_cons_self
    rw [List.length_cons] at hl
    unfold lcGo
    rw [e1]
    dsimp only
    rw [e2]
    cases c : p d with
    | true =>
      dsimp only
      rw [e3 c]
      dsimp only
      rw [if_pos (by omega), lc_map p F (fun d' hd => k d' (List.mem_cons_of_mem _ hd)) (by rw [List.length_append, List.length_singleton]; omega), List.filter_cons_of_pos (by rw [c]), List.map_cons, List.append_assoc]
      rfl
    | false =>
      dsimp only
      rw [lc_map p F (fun d' hd => k d' (List.mem_cons_of_mem _ hd)) (by omega), List.filter_cons_of_neg (by rw [c]; decide)]
/-! ## draws -/
def St4 (a : Sto) : Prop := ∃ p q u v : Int, a = [.nums [p, q, u, v]]
theorem St4.mk (p q u v : Int) : St4 [.nums [p, q, u, v]] := ⟨p, q, u, v, rfl⟩
theorem draw4 (ns : List Int) {lim : Int} (h : 0 < lim) (h2 : lim < 1073741824) {a : Sto} (ha : St4 a) : ∃ (r : Int) (a' : Sto), 0 ≤ r ∧ r < lim ∧ f_draw [.scr ns, .loc 0, .int lim] a = .ok (.val (.int r)) a' ∧ St4 a' := by
  obtain ⟨p, q, u, v, rfl⟩ := ha
  obtain ⟨r, a', b', c', d', h0, h1, e⟩ := draw_ok ns h h2 p q u v
  exact ⟨r, _, h0, h1, e, St4.mk _ _ _ _⟩
theorem clA_st {a : Sto} (h : St4 a) (k : Kd) : clA k a = true := by
  obtain ⟨p, q, u, v, rfl⟩ := h
  rfl
theorem kdMs_ints : ∀ is : List Int, kdMs (is.map fun i => M.val (.int i)) = .no
  | [] => rfl
  | i :: is => by
    show Kd.or .no (kdMs (is.map fun i => M.val (.int i))) = .no
    rw [kdMs_ints is]
    rfl
theorem kdMs_vals : ∀ ds : List D, kdMs (ds.map M.val) = .no
  | [] => rfl
  | d :: ds => by
    show Kd.or .no (kdMs (ds.map M.val)) = .no
    rw [kdMs_vals ds]
    rfl
theorem cls_ints (k : Kd) : ∀ is : List Int, cls k (is.map D.int) = true
  | [] => rfl
  | i :: is => by
    show (true && cls k (is.map D.int)) = true
    rw [cls_ints k is]
    rfl
theorem ints_of {ms : List M} {Pi : Int → Prop} (h : ∀ m ∈ ms, ∃ i, m = .val (.int i) ∧ Pi i) : ∃ is : List Int, ms = is.map (fun i => M.val (.int i)) ∧ ∀ i ∈ is, Pi i := by
  induction ms with
  | nil => exact ⟨[], rfl, fun i hi => nomatch hi⟩
  | cons m ms ih =>
    obtain ⟨is, e, hp⟩ := ih fun m' hm => h m' (List.mem_cons_of_mem _ hm)
    obtain ⟨i, rfl, hi⟩ := h m List.mem_cons_self
    exact ⟨i :: is, by rw [e]; rfl, fun j hj => (List.mem_cons.mp hj).elim (fun z => z ▸ hi) (hp j)⟩
theorem freezes_ints (is : List Int) : freezes (is.map fun i => M.val (.int i)) = is.map D.int := by
  rw [freezes_map, List.map_map]
  rfl
/-- [draw(.., lim) for k in range(n)], the draw in the slots' own way -/
theorem lc_draws {gt : D → Sw → Option Sw} {fe : EM} {δ : Sw} {ds : List D} {a : Sto} {lo hi : Int} (ha : St4 a) (hn : ds.length ≤ 100000)
    (h : ∀ d ∈ ds, ∃ δ1, gt d δ = some δ1 ∧ ∀ a, St4 a → ∃ (r : Int) (a' : Sto), lo ≤ r ∧ r < hi ∧ fe δ1 a = .ok (.val (.int r)) a' ∧ St4 a') :
    ∃ (is : List Int) (a' : Sto), lcGo gt tT fe δ ds [] a = .ok (is.map fun i => M.val (.int i)) a' ∧ is.length = ds.length ∧ (∀ i ∈ is, lo ≤ i ∧ i < hi) ∧ St4 a' := by
  obtain ⟨ms, a', e, hl, hp, h4⟩ := lc_inv (gt := gt) (ft := tT) (fe := fe) (δ := δ) (fun m => ∃ i, m = .val (.int i) ∧ (lo ≤ i ∧ i < hi)) St4 (ds := ds) (fun d hd a ha => by
    obtain ⟨δ1, e1, k⟩ := h d hd
    obtain ⟨r, a', h0, h1, e2, h4⟩ := k a ha
    exact ⟨δ1, _, a', e1, rfl, e2, ⟨r, rfl, h0, h1⟩, h4⟩) (acc := []) ha (by simpa using hn)
  obtain ⟨is, rfl, hi⟩ := ints_of hp
  exact ⟨is, a', by rw [e]; rfl, by rw [← hl, List.length_map], hi, h4⟩
end DL

namespace DL
open PySem PySem.Spec PyProof.Rows L2
/-! ## the program's own defs, alike in every law but for the classes' numbers -/
/-! ### numbers -/
def g_int : FM := bodyM 1 1 (sRet [] (mV (vAn (ev1 (dIsi (tabT [.int, .bl])) (eVar 0)) (vN (ev1 (dIsi (tabT [.bl])) (eVar 0))))))
def g_num (b : Nat) : FM := bodyM 4 4 (sSeq (sIf [] (tOn (tN (tV (vM (callM 1 g_int (aCons (eVar 1) aNil))))) (tOn (tV (ev2 (dI gLt) (eVar 1) (eVar 2))) (tV (ev2 (dI gGt) (eVar 1) (eVar 3))))) (sRaise [] (excM b ["what", "value"] (aCons (eVar 0) (aCons (eVar 1) aNil)))) sNil)
    (sRet [] (mV (eVar 1))))
/-- the values that the laws ask of -/
def plain : D → Bool
  | .str s => decide (s.length ≤ 100000)
  | .int _ => true
  | .non => true
  | .bl _ => true
  | _ => false
def intB : D → Bool
  | .int _ => true
  | _ => false
def okB (d : D) (low high : Int) : Bool :=
  match d with
  | .int i => decide (low ≤ i) && decide (i ≤ high)
  | _ => false
theorem ok_int (i low high : Int) : okB (.int i) low high = (decide (low ≤ i) && decide (i ≤ high)) := rfl
theorem ok_in {i low high : Int} (h : low ≤ i) (h2 : i ≤ high) : okB (.int i) low high = true := by
  rw [ok_int, decide_eq_true h, decide_eq_true h2]
  rfl
theorem ok_eq {d : D} {low high : Int} (h : okB d low high = true) : ∃ i, d = .int i ∧ low ≤ i ∧ i ≤ high := by
  cases d with
  | int i =>
    rw [ok_int, Bool.and_eq_true] at h
    exact ⟨i, rfl, of_decide_eq_true h.1, of_decide_eq_true h.2⟩
  | _ => cases h
theorem int_ok (d : D) (h : plain d = true) (a : Sto) : g_int [d] a = .ok (.val (.bl (intB d))) a := by
  unfold g_int
  cases d with
  | str s =>
    have e1 : dIsi (tabT [.int, .bl]) (.str s) = some (.bl false) := rfl
    simp [ent, e1, intB]
  | int i =>
    have e1 : dIsi (tabT [.int, .bl]) (.int i) = some (.bl true) := rfl
    have e2 : dIsi (tabT [.bl]) (.int i) = some (.bl false) := rfl
    simp [ent, e1, e2, intB]
  | non =>
    have e1 : dIsi (tabT [.int, .bl]) .non = some (.bl false) := rfl
    simp [ent, e1, intB]
  | bl b =>
    have e1 : dIsi (tabT [.int, .bl]) (.bl b) = some (.bl true) := rfl
    have e2 : dIsi (tabT [.bl]) (.bl b) = some (.bl true) := rfl
    simp [ent, e1, e2, intB]
  | _ => cases h
theorem num_all (b : Nat) (w : Str) (d : D) (h : plain d = true) (low high : Int) (a : Sto) : g_num b [.str w, d, .int low, .int high] a = if okB d low high = true then .ok (.val d) a else .exc b ["what", "value"] [.str w, d] a := by
  unfold g_num
  have e := int_ok d h a
  cases d with
  | int i =>
    by_cases c1 : i < low
    · have z : okB (.int i) low high = false := by
        rw [ok_int, decide_eq_false (show ¬ low ≤ i by omega)]
        rfl
      simp [ent, e, intB, freeze, c1, z]
    · by_cases c2 : high < i
      · have z : okB (.int i) low high = false := by
          rw [ok_int, decide_eq_false (show ¬ i ≤ high by omega), Bool.and_false]
        simp [ent, e, intB, freeze, c1, c2, z]
      · have z : okB (.int i) low high = true := ok_in (by omega) (by omega)
        simp [ent, e, intB, freeze, c1, c2, z]
  | str s => simp [ent, e, intB, freeze, okB]
  | non => simp [ent, e, intB, freeze, okB]
  | bl b => simp [ent, e, intB, freeze, okB]
  | _ => cases h
theorem num_in {b : Nat} {w : Str} {i low high : Int} {a : Sto} (h : low ≤ i) (h2 : i ≤ high) : g_num b [.str w, .int i, .int low, .int high] a = .ok (.val (.int i)) a := by
  rw [num_all b w (.int i) rfl low high a, if_pos (ok_in h h2)]
theorem num_out {b : Nat} {w : Str} {d : D} {low high : Int} {a : Sto} (hp : plain d = true) (h : okB d low high = false) : g_num b [.str w, d, .int low, .int high] a = .exc b ["what", "value"] [.str w, d] a := by
  rw [num_all b w d hp low high a, if_neg (by rw [h]; decide)]
/-! ### == of rows of numbers -/
theorem eqvDs_ints : ∀ ls ms : List Int, eqvDs (ls.map D.int) (ms.map D.int) = decide (ls = ms)
  | [], [] => rfl
  | [], m :: ms => by simp [eqvDs]
  | l :: ls, [] => by simp [eqvDs]
  | l :: ls, m :: ms => by
    show ((l == m) && eqvDs (ls.map D.int) (ms.map D.int)) = _
    rw [eqvDs_ints ls ms, Bool.eq_iff_iff]
    simp
theorem dd_ints (n : Nat) : ∀ ls : List Int, (ls.map D.int).all (dd n) = true
  | [] => rfl
  | l :: ls => by
    rw [List.map_cons, List.all_cons, dd_ints n ls]
    cases n <;> rfl
theorem dEq_tints (ls ms : List Int) : dEq (.tup (ls.map D.int)) (.tup (ms.map D.int)) = some (.bl (decide (ls = ms))) := by
  unfold dEq dEqB
  have z : scE (.tup (ls.map D.int)) (.tup (ms.map D.int)) = none := rfl
  rw [z]
  dsimp only
  rw [if_pos ⟨dd_ints 7 ls, dd_ints 7 ms⟩]
  show some (D.bl (eqvDs _ _)) = _
  rw [eqvDs_ints]
theorem dNe_tints (ls ms : List Int) : dNe (.tup (ls.map D.int)) (.tup (ms.map D.int)) = some (.bl (!decide (ls = ms))) := by
  unfold dNe dEqB
  have z : scE (.tup (ls.map D.int)) (.tup (ms.map D.int)) = none := rfl
  rw [z]
  dsimp only
  rw [if_pos ⟨dd_ints 7 ls, dd_ints 7 ms⟩]
  show some (D.bl (!eqvDs _ _)) = _
  rw [eqvDs_ints]
theorem dEq_lints (ls ms : List Int) : dEq (.lst (ls.map D.int)) (.lst (ms.map D.int)) = some (.bl (decide (ls = ms))) := by
  unfold dEq dEqB
  have z : scE (.lst (ls.map D.int)) (.lst (ms.map D.int)) = none := rfl
  rw [z]
  dsimp only
  rw [if_pos ⟨dd_ints 7 ls, dd_ints 7 ms⟩]
  show some (D.bl (eqvDs _ _)) = _
  rw [eqvDs_ints]
theorem dNe_lints (ls ms : List Int) : dNe (.lst (ls.map D.int)) (.lst (ms.map D.int)) = some (.bl (!decide (ls = ms))) := by
  unfold dNe dEqB
  have z : scE (.lst (ls.map D.int)) (.lst (ms.map D.int)) = none := rfl
  rw [z]
  dsimp only
  rw [if_pos ⟨dd_ints 7 ls, dd_ints 7 ms⟩]
  show some (D.bl (!eqvDs _ _)) = _
  rw [eqvDs_ints]
/-! ### texts -/
theorem cps_app (s t : Str) : (s ++ t).cps.toList = s.cps.toList ++ t.cps.toList := Array.toList_append
theorem join_cps : ∀ ys : List Str, (Str.join "" ys).cps.toList = (ys.map (·.cps.toList)).flatten
  | [] => rfl
  | [x] => by
    show x.cps.toList = _
    simp
  | x :: y :: r => by
    have ih := join_cps (y :: r)
    show (x ++ Str.ofString "" ++ Str.join "" (y :: r)).cps.toList = _
    rw [cps_app, cps_app, ih]
    simp only [List.map_cons, List.flatten_cons]
    rw [show (Str.ofString "").cps.toList = [] from rfl, List.append_nil]
theorem join_signs : ∀ cs : List Nat, (Str.join "" (cs.map fun c => (⟨#[c]⟩ : Str))).cps.toList = cs := fun cs => by
  rw [join_cps]
  induction cs with
  | nil => rfl
  | cons c cs ih =>
    rw [List.map_cons, List.map_cons, List.flatten_cons, ih]
    rfl
theorem txt_signs (cs : List Nat) : (Txt.join "" (cs.map fun c => (⟨#[c]⟩ : Str))).cps.toList = cs := by
  rw [TL.join_eq]
  exact join_signs cs
theorem ext_cps {s t : Str} (h : s.cps.toList = t.cps.toList) : s = t := by
  obtain ⟨⟨a⟩⟩ := s
  obtain ⟨⟨b⟩⟩ := t
  have e : a = b := h
  rw [e]
theorem ok_str {s : Str} (h : ∀ c ∈ s.cps.toList, c < 0x110000) : PySem.PyData.strOk s = true := by
  obtain ⟨⟨l⟩⟩ := s
  show Array.all _ _ = true
  rw [List.all_toArray]
  exact List.all_eq_true.mpr fun c hc => decide_eq_true (h c hc)
/-- data alike -/
theorem eqvDs_strs : ∀ ls ms : List Str, eqvDs (ls.map D.str) (ms.map D.str) = decide (ls = ms)
  | [], [] => rfl
  | [], m :: ms => by simp [eqvDs]
  | l :: ls, [] => by simp [eqvDs]
  | l :: ls, m :: ms => by
    show ((l == m) && eqvDs (ls.map D.str) (ms.map D.str)) = _
    rw [eqvDs_strs ls ms, Bool.eq_iff_iff]
    simp
theorem dEq_tup {ls ms : List D} (h1 : ls.all (dd 7) = true) (h2 : ms.all (dd 7) = true) : dEq (.tup ls) (.tup ms) = some (.bl (eqvDs ls ms)) := by
  unfold dEq dEqB
  have z : scE (.tup ls) (.tup ms) = none := rfl
  rw [z]
  dsimp only
  rw [if_pos ⟨h1, h2⟩]
  rfl
theorem dNe_tup {ls ms : List D} (h1 : ls.all (dd 7) = true) (h2 : ms.all (dd 7) = true) : dNe (.tup ls) (.tup ms) = some (.bl (!eqvDs ls ms)) := by
  unfold dNe dEqB
  have z : scE (.tup ls) (.tup ms) = none := rfl
  rw [z]
  dsimp only
  rw [if_pos ⟨h1, h2⟩]
  rfl
theorem dEq_lst {ls ms : List D} (h1 : ls.all (dd 7) = true) (h2 : ms.all (dd 7) = true) : dEq (.lst ls) (.lst ms) = some (.bl (eqvDs ls ms)) := by
  unfold dEq dEqB
  have z : scE (.lst ls) (.lst ms) = none := rfl
  rw [z]
  dsimp only
  rw [if_pos ⟨h1, h2⟩]
  rfl
theorem dNe_lst {ls ms : List D} (h1 : ls.all (dd 7) = true) (h2 : ms.all (dd 7) = true) : dNe (.lst ls) (.lst ms) = some (.bl (!eqvDs ls ms)) := by
  unfold dNe dEqB
  have z : scE (.lst ls) (.lst ms) = none := rfl
  rw [z]
  dsimp only
  rw [if_pos ⟨h1, h2⟩]
  rfl
/-! ### an instance under its __init__: the last place of the store -/
section
variable {a : Sto} {c : Nat} {ns : List Str} {ds : List D} {x y : Cell}
theorem sto_get : (a ++ [x])[a.length]? = some x := by
  rw [List.getElem?_append_right (Nat.le_refl _), Nat.sub_self]
  rfl
theorem sto_set : (a ++ [x]).set a.length y = a ++ [y] := by
  rw [List.set_append_right _ _ (Nat.le_refl _), Nat.sub_self]
  rfl
theorem noLoc_plain {n : Nat} {d : D} (h : plain d = true) : noLoc n d = true := by
  cases d with
  | str s => rfl
  | int i => rfl
  | non => rfl
  | bl b => rfl
  | _ => cases h
theorem noLocs_all {n : Nat} : ∀ {ds : List D}, (∀ d ∈ ds, noLoc n d = true) → noLocs n ds = true
  | [], _ => rfl
  | d :: ds, h => by
    show (noLoc n d && noLocs n ds) = true
    rw [h d List.mem_cons_self, noLocs_all fun d' hd => h d' (List.mem_cons_of_mem _ hd)]
    rfl
/-- a store that names none of its own end -/
def Fresh (a : Sto) : Prop := noLocA a.length a = true
theorem pop_last (ha : Fresh a) (hd : noLocs a.length ds = true) : popO a.length (a ++ [.obj c ns ds]) = some (a, c, ns, ds) := by
  unfold popO
  rw [sto_get, List.take_left]
  dsimp only
  rw [if_pos (by rw [hd, show noLocA a.length a = true from ha]; rfl)]
theorem end_ok (ha : Fresh a) (hd : noLocs a.length ds = true) : mkEnd c a.length (.ok (.val .non) (a ++ [.obj c ns ds])) = .ok (.obj c ns (ds.map M.val)) a := by
  unfold mkEnd
  dsimp only
  rw [pop_last ha hd]
  dsimp only
  rw [if_pos rfl]
theorem end_exc {b : Nat} {es : List D} {ms : List Str} (ha : Fresh a) (hd : noLocs a.length ds = true) (he : noLocs a.length es = true) : mkEnd c a.length (.exc b ms es (a ++ [.obj c ns ds])) = .exc b ms es a := by
  unfold mkEnd
  dsimp only
  rw [pop_last ha hd]
  dsimp only
  rw [if_pos he]
theorem fresh_nil : Fresh [] := rfl
theorem fresh_nums (l : List Int) : Fresh [.nums l] := rfl
theorem St4.fresh {a : Sto} (h : St4 a) : Fresh a := by
  obtain ⟨p, q, u, v, rfl⟩ := h
  rfl
/-- self.f = e, the instance being made at the end of the store -/
theorem self_put {I : List Nat} {i : Nat} {f : Str} {fe : EV} {δ : SlM} {d : D} (hI : I = []) (hl : fe (see [] 0 δ) (a ++ [.obj c ns ds]) = .ok d (a ++ [.obj c ns ds])) (hs : δ[i]? = some (some (.val (.loc a.length)))) (hn : ns.length < 1000) :
    sSelf I i c f fe δ (a ++ [.obj c ns ds]) = .nx δ (a ++ [.obj c (putN f ns) (putD f d ns ds)]) := by
  subst hI
  rw [x_sSelf]
  simp only [x_lift, x_mV, hl]
  have e : (Out.ok d (a ++ [Cell.obj c ns ds])).map M.val = .ok (.val d) (a ++ [Cell.obj c ns ds]) := rfl
  rw [e, k_ok]
  simp only [oseq_ok, hs, sto_get, sto_set]
  rw [if_pos ⟨trivial, hn⟩]
end
/-! ### for x in xs: check_number(w, x, lo, hi) -/
def bNum (b i : Nat) (w : Str) (lo hi : Int) : SM := sDrop [] (callM 4 (g_num b) (aCons (eC (.str w)) (aCons (eVar i) (aCons (eC (.int lo)) (aCons (eC (.int hi)) aNil)))))
def lastS (i : Nat) (ds : List D) (δ : SlM) : SlM := match ds.getLast? with
  | some d => δ.set i (some (.val d))
  | none => δ
theorem see_set (i n : Nat) (d : D) : ∀ δ : SlM, see [] n (δ.set i (some (.val d))) = (see [] n δ).set i (some d) := by
  induction i generalizing n with
  | zero =>
    intro δ
    match δ with
    | [] => rfl
    | none :: r => rfl
    | some (.val _) :: r => rfl
    | some (.lst _) :: r => simp
    | some (.tup _) :: r => simp
    | some (.obj _ _ _) :: r => rfl
  | succ i ih =>
    intro δ
    match δ with
    | [] => rfl
    | none :: r => exact congrArg _ (ih (n + 1) r)
    | some (.val _) :: r => exact congrArg _ (ih (n + 1) r)
    | some (.lst _) :: r => exact congrArg _ (ih (n + 1) r)
    | some (.tup _) :: r => exact congrArg _ (ih (n + 1) r)
    | some (.obj _ _ _) :: r => exact congrArg _ (ih (n + 1) r)
theorem var_set (i : Nat) (d : D) (s : Sw) (a : Sto) (h : i < s.length) : eVar i (s.set i (some d)) a = .ok d a := by
  rw [x_eVar, List.getElem?_set_self h]
theorem see_len (I : List Nat) : ∀ (n : Nat) (δ : SlM), (see I n δ).length = δ.length
  | n, [] => rfl
  | n, none :: r => congrArg (· + 1) (see_len I (n + 1) r)
  | n, some (.val _) :: r => congrArg (· + 1) (see_len I (n + 1) r)
  | n, some (.lst _) :: r => congrArg (· + 1) (see_len I (n + 1) r)
  | n, some (.tup _) :: r => congrArg (· + 1) (see_len I (n + 1) r)
  | n, some (.obj _ _ _) :: r => congrArg (· + 1) (see_len I (n + 1) r)
theorem bNum_e {b i : Nat} {w : Str} {lo hi : Int} {δ : SlM} {a : Sto} {d : D} (h : i < δ.length) (hp : plain d = true) : bNum b i w lo hi (δ.set i (some (.val d))) a = if okB d lo hi = true then .nx (δ.set i (some (.val d))) a else .exc b ["what", "value"] [.str w, d] (δ.set i (some (.val d))) a := by
  unfold bNum
  have e : ∀ a, eVar i (see [] 0 (δ.set i (some (.val d)))) a = .ok d a := fun a => by
    rw [see_set, var_set]
    rw [see_len]
    exact h
  have k := num_all b w d hp lo hi a
  cases c : okB d lo hi with
  | true =>
    rw [if_pos c] at k
    simp [e, k]
  | false =>
    rw [if_neg (by rw [c]; decide)] at k
    simp [e, k]
theorem num_loop {b i : Nat} {w : Str} {lo hi : Int} {a : Sto} : ∀ {ds : List D} {δ : SlM}, i < δ.length → (∀ d ∈ ds, plain d = true) → ds.find? (fun d => !okB d lo hi) = none → sLoop (gOne i) (bNum b i w lo hi) ds δ a = .nx (lastS i ds δ) a
  | [], δ, _, _, _ => rfl
  | d :: ds, δ, h, hp, hf => by
    have hd : okB d lo hi = true := by
      have z := List.find?_eq_none.mp hf d List.mem_cons_self
      simpa using z
    rw [loop_S (by rw [gOne_e, if_pos h]), bNum_e h (hp d List.mem_cons_self), if_pos hd, loopK_nx, num_loop (by rw [List.length_set]; exact h) (fun d' hd' => hp d' (List.mem_cons_of_mem _ hd')) (by
      rw [List.find?_cons_of_neg (by rw [hd]; decide)] at hf
      exact hf)]
    unfold lastS
    cases c : ds.getLast? with
    | none =>
      rw [List.getLast?_eq_none_iff.mp c]
      rfl
    | some e =>
      dsimp only
      rw [List.getLast?_cons, c]
      simp
theorem num_loopX {b i : Nat} {w : Str} {lo hi : Int} {a : Sto} {x : D} : ∀ {ds : List D} {δ : SlM}, i < δ.length → (∀ d ∈ ds, plain d = true) → ds.find? (fun d => !okB d lo hi) = some x → ∃ δ', sLoop (gOne i) (bNum b i w lo hi) ds δ a = .exc b ["what", "value"] [.str w, x] δ' a
  | [], δ, _, _, hf => by cases hf
  | d :: ds, δ, h, hp, hf => by
    rw [loop_S (by rw [gOne_e, if_pos h]), bNum_e h (hp d List.mem_cons_self)]
    cases hd : okB d lo hi with
    | true =>
      rw [List.find?_cons_of_neg (by rw [hd]; decide)] at hf
      rw [if_pos rfl, loopK_nx]
      exact num_loopX (by rw [List.length_set]; exact h) (fun d' hd' => hp d' (List.mem_cons_of_mem _ hd')) hf
    | false =>
      rw [List.find?_cons_of_pos (by rw [hd]; rfl)] at hf
      cases hf
      rw [if_neg (by decide), loopK_exc]
      exact ⟨_, rfl⟩
theorem lastS_5 (x0 x1 x2 x3 : Option M) (ds : List D) : ∃ o, lastS 4 ds [x0, x1, x2, x3, none] = [x0, x1, x2, x3, o] := by
  unfold lastS
  cases ds.getLast? with
  | none => exact ⟨_, rfl⟩
  | some d => exact ⟨_, rfl⟩
/-! ### standings -/
def g_stInit (b s : Nat) : FM := bodyM 4 5 (sSeq (sDrop [] (callM 4 (g_num b) (aCons (eC (.str "plots")) (aCons (cV (un1 gLen) (aCons (eVar 1) aNil)) (aCons (eC (.int 1)) (aCons (eC (.int 4)) aNil))))))
    (sSeq (sFor false [] (iSeq (eVar 1)) (gOne 4) (bNum b 4 "level" 0 8))
    (sSeq (sSelf [] 0 s "levels" (cV (un1 gTuple) (aCons (eVar 1) aNil)))
    (sSeq (sSelf [] 0 s "tank" (vM (callM 4 (g_num b) (aCons (eC (.str "tank")) (aCons (eVar 2) (aCons (eC (.int 0)) (aCons (eC (.int 8)) aNil)))))))
    (sSelf [] 0 s "mood" (vM (callM 4 (g_num b) (aCons (eC (.str "mood")) (aCons (eVar 3) (aCons (eC (.int 0)) (aCons (eC (.int 3)) aNil)))))))))))
abbrev stF : List Str := ["levels", "tank", "mood"]
def stO (b s : Nat) (ds : List D) (t m : D) (a : Sto) : Out M :=
  if okB (.int ds.length) 1 4 = true then (match ds.find? (fun d => !okB d 0 8) with
    | some d => .exc b ["what", "value"] [.str "level", d] a
    | none => if okB t 0 8 = true then (if okB m 0 3 = true then .ok (.obj s stF [.val (.tup ds), .val t, .val m]) a else .exc b ["what", "value"] [.str "mood", m] a) else .exc b ["what", "value"] [.str "tank", t] a)
  else .exc b ["what", "value"] [.str "plots", .int ds.length] a
/-- a row of data, a list or a tuple -/
def Row (L : D) (ds : List D) : Prop := L = .lst ds ∨ L = .tup ds
theorem Row.len {L : D} {ds : List D} (h : Row L ds) (a : Sto) : gLen a L = some (.val (.int ds.length)) := by
  rcases h with rfl | rfl <;> rfl
theorem Row.items {L : D} {ds : List D} (h : Row L ds) : items L = some ds := by
  rcases h with rfl | rfl <;> rfl
theorem Row.tuple {L : D} {ds : List D} (h : Row L ds) (a : Sto) : ∃ nw, gTuple a L = some nw ∧ nw.d = .tup ds := by
  rcases h with rfl | rfl
  · exact ⟨_, rfl, rfl⟩
  · exact ⟨_, rfl, rfl⟩
theorem pnS1 : putN "levels" [] = [("levels" : Str)] := rfl
theorem pnS2 : putN "tank" [("levels" : Str)] = [("levels" : Str), "tank"] := rfl
theorem pnS3 : putN "mood" [("levels" : Str), "tank"] = stF := rfl
theorem pdS1 (x : D) : putD "levels" x [] [] = [x] := rfl
theorem pdS2 (x y : D) : putD "tank" x ["levels"] [y] = [y, x] := rfl
theorem pdS3 (x y z : D) : putD "mood" x ["levels", "tank"] [y, z] = [y, z, x] := rfl
theorem st_init {b s : Nat} {L t m : D} {ds : List D} {a : Sto} (hL : Row L ds) (hp : ∀ d ∈ ds, plain d = true) (ht : plain t = true) (hm : plain m = true) (ha : Fresh a) :
    mkEnd s a.length (g_stInit b s [.loc a.length, L, t, m] (a ++ [.obj s [] []])) = stO b s ds t m a := by
  unfold g_stInit stO
  have e0 := fun a' => hL.len a'
  obtain ⟨nw, e1, e2⟩ := hL.tuple (a ++ [.obj s [] []])
  have nt : noLoc a.length (.tup ds) = true := noLocs_all fun d hd => noLoc_plain (hp d hd)
  have n1 : noLoc a.length t = true := noLoc_plain ht
  have n2 : noLoc a.length m = true := noLoc_plain hm
  cases c0 : okB (.int ds.length) 1 4 with
  | false =>
    have k : ∀ a', g_num b [.str "plots", .int ds.length, .int 1, .int 4] a' = _ := fun a' => num_out rfl c0
    simp [ent, e0, k]
    exact end_exc ha rfl rfl
  | true =>
    have k : ∀ a', g_num b [.str "plots", .int ds.length, .int 1, .int 4] a' = .ok (.val (.int ds.length)) a' := fun a' => by rw [num_all b _ _ rfl, if_pos c0]
    cases c1 : ds.find? (fun d => !okB d 0 8) with
    | some x =>
      have lp := num_loopX (b := b) (i := 4) (w := "level") (a := a ++ [Cell.obj s [] []]) (δ := [some (.val (.loc a.length)), some (.val L), some (.val t), some (.val m), none]) (by simp) hp c1
      obtain ⟨δ', lp⟩ := lp
      simp [ent, e0, k, hL.items, lp]
      refine end_exc ha rfl ?_
      have px := hp x (List.mem_of_find?_eq_some c1)
      show (true && (noLoc a.length x && true)) = true
      rw [noLoc_plain px]
      rfl
    | none =>
      have lp := num_loop (b := b) (i := 4) (w := "level") (a := a ++ [Cell.obj s [] []]) (δ := [some (.val (.loc a.length)), some (.val L), some (.val t), some (.val m), none]) (by simp) hp c1
      obtain ⟨o, ho⟩ := lastS_5 (some (.val (.loc a.length))) (some (.val L)) (some (.val t)) (some (.val m)) ds
      rw [ho] at lp
      have st1 : sDrop [] (callM 4 (g_num b) (aCons (eC (.str "plots")) (aCons (cV (un1 gLen) (aCons (eVar 1) aNil)) (aCons (eC (.int 1)) (aCons (eC (.int 4)) aNil))))) [some (.val (.loc a.length)), some (.val L), some (.val t), some (.val m), none] (a ++ [.obj s [] []]) = .nx [some (.val (.loc a.length)), some (.val L), some (.val t), some (.val m), none] (a ++ [.obj s [] []]) := by
        simp [e0, k]
      have st2 : sFor false [] (iSeq (eVar 1)) (gOne 4) (bNum b 4 "level" 0 8) [some (.val (.loc a.length)), some (.val L), some (.val t), some (.val m), none] (a ++ [.obj s [] []]) = .nx [some (.val (.loc a.length)), some (.val L), some (.val t), some (.val m), o] (a ++ [.obj s [] []]) := by
        simp [hL.items, lp]
      have st3 : sSelf [] 0 s "levels" (cV (un1 gTuple) (aCons (eVar 1) aNil)) [some (.val (.loc a.length)), some (.val L), some (.val t), some (.val m), o] (a ++ [.obj s [] []]) = .nx [some (.val (.loc a.length)), some (.val L), some (.val t), some (.val m), o] (a ++ [.obj s ["levels"] [.tup ds]]) :=
        self_put (ns := []) (ds := []) rfl (by simp [e1, e2]) rfl (by decide)
      show mkEnd s a.length (outF (sSeq _ _ [some (.val (.loc a.length)), some (.val L), some (.val t), some (.val m), none] _)) = _
      rw [seq_then st1, seq_then st2, seq_then st3]
      cases c2 : okB t 0 8 with
      | false =>
        have k2 : ∀ a', g_num b [.str "tank", t, .int 0, .int 8] a' = _ := fun a' => num_out ht c2
        have st4 : sSelf [] 0 s "tank" (vM (callM 4 (g_num b) (aCons (eC (.str "tank")) (aCons (eVar 2) (aCons (eC (.int 0)) (aCons (eC (.int 8)) aNil)))))) [some (.val (.loc a.length)), some (.val L), some (.val t), some (.val m), o] (a ++ [.obj s ["levels"] [.tup ds]]) = .exc b ["what", "value"] [.str "tank", t] [some (.val (.loc a.length)), some (.val L), some (.val t), some (.val m), o] (a ++ [.obj s ["levels"] [.tup ds]]) := by
          simp [x_sSelf, k2]
        rw [x_sSeq, st4, seq_exc, outF_exc]
        refine end_exc ha (by show (noLoc a.length (.tup ds) && true) = true; rw [nt]; rfl) (by show (true && (noLoc a.length t && true)) = true; rw [n1]; rfl)
      | true =>
        have k2 : ∀ a', g_num b [.str "tank", t, .int 0, .int 8] a' = .ok (.val t) a' := fun a' => by rw [num_all b _ _ ht, if_pos c2]
        have st4 : sSelf [] 0 s "tank" (vM (callM 4 (g_num b) (aCons (eC (.str "tank")) (aCons (eVar 2) (aCons (eC (.int 0)) (aCons (eC (.int 8)) aNil)))))) [some (.val (.loc a.length)), some (.val L), some (.val t), some (.val m), o] (a ++ [.obj s ["levels"] [.tup ds]]) = .nx [some (.val (.loc a.length)), some (.val L), some (.val t), some (.val m), o] (a ++ [.obj s ["levels", "tank"] [.tup ds, t]]) :=
          self_put (ns := ["levels"]) (ds := [.tup ds]) rfl (by simp [k2, freeze]) rfl (by decide)
        rw [seq_then st4]
        cases c3 : okB m 0 3 with
        | false =>
          have k3 : ∀ a', g_num b [.str "mood", m, .int 0, .int 3] a' = _ := fun a' => num_out hm c3
          have st5 : sSelf [] 0 s "mood" (vM (callM 4 (g_num b) (aCons (eC (.str "mood")) (aCons (eVar 3) (aCons (eC (.int 0)) (aCons (eC (.int 3)) aNil)))))) [some (.val (.loc a.length)), some (.val L), some (.val t), some (.val m), o] (a ++ [.obj s ["levels", "tank"] [.tup ds, t]]) = .exc b ["what", "value"] [.str "mood", m] [some (.val (.loc a.length)), some (.val L), some (.val t), some (.val m), o] (a ++ [.obj s ["levels", "tank"] [.tup ds, t]]) := by
            simp [x_sSelf, k3]
          rw [st5, outF_exc]
          refine end_exc ha (by show (noLoc a.length (.tup ds) && (noLoc a.length t && true)) = true; rw [nt, n1]; rfl) (by show (true && (noLoc a.length m && true)) = true; rw [n2]; rfl)
        | true =>
          have k3 : ∀ a', g_num b [.str "mood", m, .int 0, .int 3] a' = .ok (.val m) a' := fun a' => by rw [num_all b _ _ hm, if_pos c3]
          have st5 : sSelf [] 0 s "mood" (vM (callM 4 (g_num b) (aCons (eC (.str "mood")) (aCons (eVar 3) (aCons (eC (.int 0)) (aCons (eC (.int 3)) aNil)))))) [some (.val (.loc a.length)), some (.val L), some (.val t), some (.val m), o] (a ++ [.obj s ["levels", "tank"] [.tup ds, t]]) = .nx [some (.val (.loc a.length)), some (.val L), some (.val t), some (.val m), o] (a ++ [.obj s stF [.tup ds, t, m]]) :=
            self_put (ns := ["levels", "tank"]) (ds := [.tup ds, t]) rfl (by simp [k3, freeze]) rfl (by decide)
          rw [st5, outF_nx]
          exact end_ok ha (by show (noLoc a.length (.tup ds) && (noLoc a.length t && (noLoc a.length m && true))) = true; rw [nt, n1, n2]; rfl)
end DL

namespace DL
open PySem PySem.Spec PyProof.Rows L2
/-! ## standings: ==, <=, str -/
abbrev stD (s : Nat) (ls : List Int) (t m : Int) : D := .obj s stF [.tup (ls.map D.int), .int t, .int m]
section
variable {s : Nat} {ls ms : List Int} {t m u v : Int}
theorem fld_levels (xs : List Nat) : dFld [s] xs "levels" (stD s ls t m) = some (.tup (ls.map D.int)) := if_pos List.mem_cons_self
theorem fld_tank (xs : List Nat) : dFld [s] xs "tank" (stD s ls t m) = some (.int t) := if_pos List.mem_cons_self
theorem fld_mood (xs : List Nat) : dFld [s] xs "mood" (stD s ls t m) = some (.int m) := if_pos List.mem_cons_self
end
def g_stEq (s : Nat) (tab : Tg → Option Bool) : FM := bodyM 2 2 (sSeq (sIf [] (tN (tV (ev1 (dIsi tab) (eVar 1)))) sStuck sNil)
    (sRet [] (mV (vAn (ev2 dEq (ev1 (dFld [s] [] "levels") (eVar 0)) (ev1 (dFld [s] [] "levels") (eVar 1))) (vAn (ev2 dEq (ev1 (dFld [s] [] "tank") (eVar 0)) (ev1 (dFld [s] [] "tank") (eVar 1))) (ev2 dEq (ev1 (dFld [s] [] "mood") (eVar 0)) (ev1 (dFld [s] [] "mood") (eVar 1))))))))
def stEqB (ls : List Int) (t m : Int) (ms : List Int) (u v : Int) : Bool := decide (ls = ms) && (decide (t = u) && decide (m = v))
theorem stEq_ok {s : Nat} {tab : Tg → Option Bool} (h : tab (.obj s) = some true) (ls : List Int) (t m : Int) (ms : List Int) (u v : Int) (a : Sto) : g_stEq s tab [stD s ls t m, stD s ms u v] a = .ok (.val (.bl (stEqB ls t m ms u v))) a := by
  have i1 : dIsi tab (stD s ms u v) = some (.bl true) := by
    show (tab (.obj s)).map D.bl = _
    rw [h]
    rfl
  have e1 : ∀ i j : Int, (i == j) = decide (i = j) := fun i j => by rw [Bool.eq_iff_iff]; simp
  unfold g_stEq stEqB
  by_cases c1 : ls = ms
  · by_cases c2 : t = u
    · simp [ent, i1, fld_levels, fld_tank, fld_mood, dEq_tints, freeze, c1, c2, e1]
    · simp [ent, i1, fld_levels, fld_tank, fld_mood, dEq_tints, freeze, c1, c2, e1]
  · simp [ent, i1, fld_levels, fld_tank, fld_mood, dEq_tints, freeze, c1, e1]
/-! ### <= -/
def bLe (s : Nat) : SM := (sIf [] (tV (ev2 (dI gGt) (eVar 3) (vS dIx (ev1 (dFld [s] [] "levels") (eVar 1)) (eVar 2)))) (sRet [] (mV (eC (.bl false)))) sNil)
def g_stLe (s : Nat) (tab : Tg → Option Bool) : FM := bodyM 2 4 (sSeq (sIf [] (tN (tV (ev1 (dIsi tab) (eVar 1)))) sStuck sNil)
    (sSeq (sIf [] (tOn (tV (ev2 dNe (ev1 (dFld [s] [] "mood") (eVar 0)) (ev1 (dFld [s] [] "mood") (eVar 1)))) (tV (ev2 dNe (cV (un1 gLen) (aCons (ev1 (dFld [s] [] "levels") (eVar 0)) aNil)) (cV (un1 gLen) (aCons (ev1 (dFld [s] [] "levels") (eVar 1)) aNil))))) (sRet [] (mV (eC (.bl false)))) sNil)
    (sSeq (sFor false [] (iEn (aCons (ev1 (dFld [s] [] "levels") (eVar 0)) aNil)) (gTp 2 (gsCons (gOne 2) (gsCons (gOne 3) gsNil))) (bLe s))
    (sRet [] (mV (ev2 (dI gLe) (ev1 (dFld [s] [] "tank") (eVar 0)) (ev1 (dFld [s] [] "tank") (eVar 1))))))))
/-- each one at most its partner -/
def leL : List Int → List Int → Bool
  | [], [] => true
  | x :: xs, y :: ys => decide (x ≤ y) && leL xs ys
  | _, _ => false
theorem atI_nat' {α : Type} {l : List α} {n : Nat} {x : α} (h : l[n]? = some x) : L2.atI l (n : Int) = some x := by
  have hl : n < l.length := (List.getElem?_eq_some_iff.mp h).1
  unfold L2.atI ixN
  rw [if_pos (by omega), if_pos (by omega)]
  simpa using h
theorem le_loop {s : Nat} {a : Sto} {x0 : Option M} {ms : List Int} {u v : Int} : ∀ (ls : List Int) (n : Nat) (pre : List Int) (o2 o3 : Option D), ms.length = n + ls.length →
    (leL ls (ms.drop n) = true → ∃ o2' o3' : Option D, sLoop (gTp 2 (gsCons (gOne 2) (gsCons (gOne 3) gsNil))) (bLe s) (enumD n (ls.map D.int)) [x0, some (.val (stD s ms u v)), o2.map M.val, o3.map M.val] a = .nx [x0, some (.val (stD s ms u v)), o2'.map M.val, o3'.map M.val] a) ∧
    (leL ls (ms.drop n) = false → sLoop (gTp 2 (gsCons (gOne 2) (gsCons (gOne 3) gsNil))) (bLe s) (enumD n (ls.map D.int)) [x0, some (.val (stD s ms u v)), o2.map M.val, o3.map M.val] a = .rt (.val (.bl false)) a)
  | [], n, pre, o2, o3, h => by
    have e : ms.drop n = [] := List.drop_of_length_le (by simp at h; omega)
    rw [e]
    exact ⟨fun _ => ⟨o2, o3, rfl⟩, fun z => by cases z⟩
  | l :: ls, n, pre, o2, o3, h => by
    have hn : n < ms.length := by rw [h, List.length_cons]; omega
    have e : ms.drop n = ms[n] :: ms.drop (n + 1) := List.drop_eq_getElem_cons hn
    have ih := le_loop (s := s) (a := a) (x0 := x0) (u := u) (v := v) ls (n + 1) (pre ++ [l]) (some (.int n)) (some (.int l)) (by rw [h, List.length_cons]; omega)
    have ix : L2.atI (ms.map D.int) (n : Int) = some (.int ms[n]) := atI_nat' (by simp [hn])
    have st : sLoop (gTp 2 (gsCons (gOne 2) (gsCons (gOne 3) gsNil))) (bLe s) (enumD n ((l :: ls).map D.int)) [x0, some (.val (stD s ms u v)), o2.map M.val, o3.map M.val] a
        = if ms[n] < l then .rt (.val (.bl false)) a else sLoop (gTp 2 (gsCons (gOne 2) (gsCons (gOne 3) gsNil))) (bLe s) (enumD (n + 1) (ls.map D.int)) [x0, some (.val (stD s ms u v)), (some (D.int n)).map M.val, (some (D.int l)).map M.val] a := by
      rw [List.map_cons, enumD, loop_S (δ1 := [x0, some (.val (stD s ms u v)), some (.val (.int n)), some (.val (.int l))]) rfl]
      have body : bLe s [x0, some (.val (stD s ms u v)), some (.val (.int n)), some (.val (.int l))] a = if ms[n] < l then .rt (.val (.bl false)) a else .nx [x0, some (.val (stD s ms u v)), some (.val (.int n)), some (.val (.int l))] a := by
        unfold bLe
        have see : ∀ y0 : Option M, ∃ z0 : Option D, see [] 0 [y0, some (.val (stD s ms u v)), some (.val (.int n)), some (.val (.int l))] = [z0, some (stD s ms u v), some (.int n), some (.int l)] := fun y0 => by
          rcases y0 with _ | (_ | _ | _ | _) <;> exact ⟨_, rfl⟩
        obtain ⟨z0, hz⟩ := see x0
        rw [x_sIf, x_liftT, hz]
        by_cases c : ms[n] < l
        · rw [if_pos c]
          simp [fld_levels, ix, c]
        · rw [if_neg c]
          simp [fld_levels, ix, c]
      rw [body]
      by_cases c : ms[n] < l
      · rw [if_pos c, if_pos c]
        rfl
      · rw [if_neg c, if_neg c]
        rfl
    rw [st, e]
    by_cases c : ms[n] < l
    · rw [if_pos c]
      have z : leL (l :: ls) (ms[n] :: ms.drop (n + 1)) = false := by
        show (decide (l ≤ ms[n]) && _) = false
        rw [decide_eq_false (by omega), Bool.false_and]
      rw [z]
      exact ⟨fun y => Bool.noConfusion y, fun _ => rfl⟩
    · rw [if_neg c]
      have z : leL (l :: ls) (ms[n] :: ms.drop (n + 1)) = leL ls (ms.drop (n + 1)) := by
        show (decide (l ≤ ms[n]) && _) = _
        rw [decide_eq_true (by omega), Bool.true_and]
      rw [z]
      exact ih
def stLeB (ls : List Int) (t m : Int) (ms : List Int) (u v : Int) : Bool := decide (m = v) && (decide (ls.length = ms.length) && (leL ls ms && decide (t ≤ u)))
theorem stLe_ok {s : Nat} {tab : Tg → Option Bool} (h : tab (.obj s) = some true) (ls : List Int) (t m : Int) (ms : List Int) (u v : Int) (a : Sto) : g_stLe s tab [stD s ls t m, stD s ms u v] a = .ok (.val (.bl (stLeB ls t m ms u v))) a := by
  have i1 : dIsi tab (stD s ms u v) = some (.bl true) := by
    show (tab (.obj s)).map D.bl = _
    rw [h]
    rfl
  have e1 : ∀ i j : Int, (i == j) = decide (i = j) := fun i j => by rw [Bool.eq_iff_iff]; simp
  unfold g_stLe stLeB
  by_cases c1 : m = v
  · by_cases c2 : ls.length = ms.length
    · have lp := le_loop (s := s) (a := a) (x0 := some (.val (stD s ls t m))) (ms := ms) (u := u) (v := v) ls 0 [] none none (by omega)
      rw [List.drop_zero] at lp
      cases c3 : leL ls ms with
      | true =>
        obtain ⟨o2, o3, lp⟩ := lp.1 c3
        have lp' : sLoop (gTp 2 (gsCons (gOne 2) (gsCons (gOne 3) gsNil))) (bLe s) (enumD 0 (ls.map D.int)) [some (.val (stD s ls t m)), some (.val (stD s ms u v)), none, none] a = _ := lp
        have en : gEn [.tup (ls.map D.int)] = some (enumD 0 (ls.map D.int)) := rfl
        simp [ent, i1, fld_levels, fld_tank, fld_mood, c1, c2, e1, en, freeze]
        rw [c1] at lp'
        rw [lp']
        simp [fld_tank]
      | false =>
        have lp' : sLoop (gTp 2 (gsCons (gOne 2) (gsCons (gOne 3) gsNil))) (bLe s) (enumD 0 (ls.map D.int)) [some (.val (stD s ls t m)), some (.val (stD s ms u v)), none, none] a = _ := lp.2 c3
        have en : gEn [.tup (ls.map D.int)] = some (enumD 0 (ls.map D.int)) := rfl
        simp [ent, i1, fld_levels, fld_tank, fld_mood, c1, c2, e1, en, freeze]
        rw [c1] at lp'
        rw [lp']
        simp
    · have z : ¬ (ls.length : Int) = ms.length := by omega
      simp [ent, i1, fld_levels, fld_tank, fld_mood, c1, c2, z, e1, freeze]
  · simp [ent, i1, fld_levels, fld_tank, fld_mood, c1, e1, freeze]
/-! ### str -/
def sI (i : Int) : Str := Str.ofString (toString i)
theorem digit_cases {i : Int} (h : 0 ≤ i) (h2 : i < 10) : i = 0 ∨ i = 1 ∨ i = 2 ∨ i = 3 ∨ i = 4 ∨ i = 5 ∨ i = 6 ∨ i = 7 ∨ i = 8 ∨ i = 9 := by omega
theorem sI_len {i : Int} (h : 0 ≤ i) (h2 : i < 10) : (sI i).length = 1 := by
  rcases digit_cases h h2 with rfl | rfl | rfl | rfl | rfl | rfl | rfl | rfl | rfl | rfl <;> decide +kernel
theorem log_small {i : Int} (h : 0 ≤ i) (h2 : i < 10) : i.natAbs.log2 < 1920 := by
  rcases digit_cases h h2 with rfl | rfl | rfl | rfl | rfl | rfl | rfl | rfl | rfl | rfl <;> decide +kernel
theorem gStr_int {i : Int} (h : 0 ≤ i) (h2 : i < 10) (a : Sto) : gStr a (.int i) = some (.val (.str (sI i))) := by
  show (if i.natAbs.log2 < 1920 then some (New.val (.str (Str.ofString (toString i)))) else none) = _
  rw [if_pos (log_small h h2)]
  rfl
theorem gFmt_int {i : Int} (h : 0 ≤ i) (h2 : i < 10) : gFmt (.int i) = some (.str (sI i)) := by
  show (if i.natAbs.log2 < 1920 then some (D.str (Str.ofString (toString i))) else none) = _
  rw [if_pos (log_small h h2)]
  rfl
theorem gFmt_str {y : Str} (h : y.length ≤ 100000) : gFmt (.str y) = some (.str y) := if_pos h
def g_stStr (s : Nat) : FM := bodyM 1 3 (sSeq (sSet 1 [] (mV (bm1 gJoin (eC (.str " ")) (aCons (vM (lcM [2] (iSeq (ev1 (dFld [s] [] "levels") (eVar 0))) (gNm 2) tT (mV (cV (un1 gStr) (aCons (eVar 2) aNil))))) aNil))))
    (sRet [] (mV (eJoi (jCons (ev1 gFmt (ev1 (dFld [s] [] "mood") (eVar 0))) (jCons (eC (.str ": ")) (jCons (ev1 gFmt (eVar 1)) (jCons (eC (.str " / ")) (jCons (ev1 gFmt (ev1 (dFld [s] [] "tank") (eVar 0))) jNil)))))))))
def stText (ls : List Int) (t m : Int) : Str := ((((Str.empty ++ sI m) ++ ": ") ++ Txt.join " " (ls.map sI)) ++ " / ") ++ sI t
theorem len_cps (s : Str) : s.length = s.cps.toList.length := rfl
theorem sp_cps : (" " : Str).cps.toList = [32] := by decide +kernel
theorem join_sp : ∀ (x : Str) (r : List Str), (Txt.join " " (x :: r)).cps.toList = x.cps.toList ++ (r.map fun y => 32 :: y.cps.toList).flatten := by
  intro x r
  rw [TL.join_eq]
  induction r generalizing x with
  | nil =>
    show x.cps.toList = _
    simp
  | cons y r ih =>
    have e : Str.join " " (x :: y :: r) = x ++ " " ++ Str.join " " (y :: r) := rfl
    rw [e, cps_app, cps_app, ih y, sp_cps]
    simp
theorem sum_len1 {ls : List Int} (h : ∀ i ∈ ls, 0 ≤ i ∧ i < 10) : ((ls.map sI).map (·.length)).sum = ls.length := by
  induction ls with
  | nil => rfl
  | cons l ls ih =>
    simp only [List.map_cons, List.sum_cons, List.length_cons]
    rw [ih fun i hi => h i (List.mem_cons_of_mem _ hi), sI_len (h l List.mem_cons_self).1 (h l List.mem_cons_self).2]
    omega
theorem flat_len : ∀ {r : List Int}, (∀ i ∈ r, 0 ≤ i ∧ i < 10) → (((r.map sI).map fun y => 32 :: y.cps.toList).flatten).length = 2 * r.length
  | [], _ => rfl
  | x :: r, h => by
    have z := sI_len (h x List.mem_cons_self).1 (h x List.mem_cons_self).2
    rw [len_cps] at z
    rw [List.map_cons, List.map_cons, List.flatten_cons, List.length_append, List.length_cons, z, flat_len fun i hi => h i (List.mem_cons_of_mem _ hi), List.length_cons]
    omega
theorem join_len {ls : List Int} (h : ∀ i ∈ ls, 0 ≤ i ∧ i < 10) (hl : ls.length ≤ 4) : (Txt.join " " (ls.map sI)).length ≤ 8 := by
  cases ls with
  | nil => decide +kernel
  | cons x r =>
    rw [List.map_cons, len_cps, join_sp, List.length_append, flat_len fun i hi => h i (List.mem_cons_of_mem _ hi)]
    have z := sI_len (h x List.mem_cons_self).1 (h x List.mem_cons_self).2
    rw [len_cps] at z
    rw [List.length_cons] at hl
    omega
theorem stStr_ok {s : Nat} {ls : List Int} {t m : Int} (h : ∀ i ∈ ls, 0 ≤ i ∧ i < 10) (hl : ls.length ≤ 4) (ht : 0 ≤ t ∧ t < 10) (hm : 0 ≤ m ∧ m < 10) (a : Sto) : g_stStr s [stD s ls t m] a = .ok (.val (.str (stText ls t m))) a := by
  have lp := lc_map (gt := gNm 2) (ft := tT) (fe := mV (cV (un1 gStr) (aCons (eVar 2) aNil))) (δ := [some (stD s ls t m), none, none]) (a := a) (fun _ => true) (fun d => match d with | .int i => .val (.str (sI i)) | _ => .val .non) (ds := ls.map D.int) (fun d hd => by
    obtain ⟨i, hi, rfl⟩ := List.mem_map.mp hd
    refine ⟨_, rfl, rfl, fun _ => ?_⟩
    simp [gStr_int (h i hi).1 (h i hi).2]) (acc := []) (by simp; omega)
  have fl : ((ls.map D.int).filter fun _ => true) = ls.map D.int := List.filter_eq_self.mpr fun _ _ => rfl
  rw [fl, List.map_map, List.nil_append] at lp
  have fz : freezes (ls.map ((fun d => match d with | D.int i => M.val (.str (sI i)) | _ => M.val .non) ∘ D.int)) = (ls.map sI).map D.str := by
    rw [freezes_map, List.map_map, List.map_map]
    rfl
  have jn : gJoin " " [.lst ((ls.map sI).map D.str)] = some (.str (Txt.join " " (ls.map sI))) := by
    show joinD _ _ = _
    unfold joinD
    rw [strsD_map]
    dsimp only
    rw [if_pos]
    rw [sum_len1 h, List.length_map]
    show ls.length + ls.length * 1 ≤ _
    omega
  have k1 := join_len h hl
  have k2 := sI_len hm.1 hm.2
  have k3 := sI_len ht.1 ht.2
  have n1 : (Str.empty ++ sI m).length = 1 := by
    rw [len_app, k2]
    rfl
  have n2 : ((Str.empty ++ sI m) ++ (": " : Str)).length = 3 := by
    rw [len_app, n1]
    rfl
  have n3 : (((Str.empty ++ sI m) ++ (": " : Str)) ++ Txt.join " " (ls.map sI)).length ≤ 11 := by
    rw [len_app, n2]
    omega
  have n4 : ((((Str.empty ++ sI m) ++ (": " : Str)) ++ Txt.join " " (ls.map sI)) ++ (" / " : Str)).length ≤ 14 := by
    rw [len_app]
    have z : (" / " : Str).length = 3 := rfl
    omega
  have n5 : (stText ls t m).length ≤ 15 := by
    unfold stText
    rw [len_app]
    omega
  unfold stText at n5 ⊢
  unfold g_stStr
  rw [List.map_map] at jn fz
  have m1 : (Str.empty ++ sI m).length ≤ 100000 := by omega
  have m2 : ((Str.empty ++ sI m) ++ (": " : Str)).length ≤ 100000 := by omega
  have m3 : (((Str.empty ++ sI m) ++ (": " : Str)) ++ Txt.join " " (ls.map sI)).length ≤ 100000 := by omega
  have m4 : ((((Str.empty ++ sI m) ++ (": " : Str)) ++ Txt.join " " (ls.map sI)) ++ (" / " : Str)).length ≤ 100000 := by omega
  have m5 : (((((Str.empty ++ sI m) ++ (": " : Str)) ++ Txt.join " " (ls.map sI)) ++ (" / " : Str)) ++ sI t).length ≤ 100000 := by omega
  simp [ent, fld_levels, items, wipeD, lp, fz, jn, freeze, fld_mood, fld_tank, x_jCons, gFmt_int hm.1 hm.2, gFmt_int ht.1 ht.2, gFmt_str (show (Txt.join " " (ls.map sI)).length ≤ 100000 by omega), put_e, m1, m2, m3, m4, m5]
/-! ## slices -/
theorem cut_take {α : Type} (l : List α) (k : Nat) : cutG l none (some (k : Int)) = l.take k := by
  unfold cutG
  rw [show HT.sIx l.length 0 none = 0 from rfl, show HT.sIx l.length l.length (some (k : Int)) = min k l.length from HT.sIx_nat _ _ k, List.drop_zero, Nat.sub_zero]
  by_cases h : k ≤ l.length
  · rw [Nat.min_eq_left h]
  · rw [Nat.min_eq_right (by omega), List.take_length, List.take_of_length_le (by omega)]
theorem cut_drop {α : Type} (l : List α) (k : Nat) : cutG l (some (k : Int)) none = l.drop k := by
  unfold cutG
  rw [show HT.sIx l.length 0 (some (k : Int)) = min k l.length from HT.sIx_nat _ _ k, show HT.sIx l.length l.length none = l.length from rfl]
  by_cases h : k ≤ l.length
  · rw [Nat.min_eq_left h]
    exact List.take_of_length_le (by rw [List.length_drop]; exact Nat.le_refl _)
  · rw [Nat.min_eq_right (by omega), List.drop_length, List.drop_of_length_le (by omega)]
    simp
theorem sl_take (l : List D) (k : Nat) : dSl (.lst l) none (some (k : Int)) = some (.lst (l.take k)) := by
  show some (New.lst _) = _
  rw [cut_take]
theorem sl_drop (l : List D) (k : Nat) : dSl (.lst l) (some (k : Int)) none = some (.lst (l.drop k)) := by
  show some (New.lst _) = _
  rw [cut_drop]
theorem ixN_nat {n k : Nat} (h : k < n) : ixN n (k : Int) = some k := by
  unfold ixN
  rw [if_pos (by omega), if_pos (by omega)]
  simp
/-! ## the kinds of a slot, told at once -/
theorem lift_seen {I : List Nat} {δ : SlM} {a : Sto} {m : M} (h : clM (kin I 0 δ) m = true) (ha : ∀ k, clA k a = true) : liftK I δ (.ok m a) = .ok m δ a := by
  show Ox.ok m (if (clM (kin I 0 δ) m && clA (kin I 0 δ) a) = true then δ else frz I 0 δ) a = _
  rw [h, ha]
  rfl
theorem kinT {I : List Nat} {δ : SlM} {a : Sto} {b : Bool} (ha : ∀ k, clA k a = true) : liftTK I δ (.ok b a) = .ok b δ a := by
  show Ox.ok b (if clA (kin I 0 δ) a = true then δ else frz I 0 δ) a = _
  rw [ha, if_pos rfl]
end DL

namespace DL
open PySem PySem.Spec PyProof.Rows L2
/-! ## a draw with other shared places about -/
theorem ixLocR (l : List Int) (i : Int) (R : Sto) : dIx (.nums l :: R) (.loc 0) (.int i) = (L2.atI l i).map fun n => .val (.int n) := rfl
theorem draw_okR (ns : List Int) {lim : Int} (h : 0 < lim) (h2 : lim < 1073741824) (a b c d : Int) (R : Sto) : ∃ (r a' b' c' d' : Int), 0 ≤ r ∧ r < lim ∧ f_draw [.scr ns, .loc 0, .int lim] (.nums [a, b, c, d] :: R) = .ok (.val (.int r)) (.nums [a', b', c', d'] :: R) := by
  have p0 : ∀ x : Int, 0 ≤ x % lim := fun x => Int.emod_nonneg x (by omega)
  have p1 : ∀ x : Int, x % lim < lim := fun x => Int.emod_lt_of_pos x h
  have e1 : ∀ x, gMod x lim = some (.int (x % lim)) := fun x => r_mod h
  have e2 : ∀ x, gDiv x lim = some (.int (x / lim)) := fun x => r_div h h2
  have e3 : ∀ x, gMod x 2147483647 = some (.int (x % 2147483647)) := fun x => r_mod (by decide)
  have e4 : ∀ x, gMod x 2147483629 = some (.int (x % 2147483629)) := fun x => r_mod (by decide)
  have e5 : ∀ x, gDiv x 13 = some (.int (x / 13)) := fun x => r_div (by decide) (by decide)
  have e6 : ∀ x, dMul (.int x) (.int 48271) = some (.val (.int (x * 48271))) := fun x => r_mulR (by decide)
  have e7 : ∀ x, dMul (.int x) (.int 69621) = some (.val (.int (x * 69621))) := fun x => r_mulR (by decide)
  have e8 : ∀ x, dMul (.int 7) (.int x) = some (.val (.int (7 * x))) := fun x => r_mulL (by decide)
  unfold f_draw m_draw
  by_cases c1 : b = 1 ∧ 0 < a
  · refine ⟨a % lim, a / lim, b, c, d + 1, p0 a, p1 a, ?_⟩
    obtain ⟨hb, ha⟩ := c1
    simp [ent, put_e, x_sSto, ixLocR, at4_0, at4_1, at4_2, at4_3, ix4_0, ix4_1, ix4_2, ix4_3, e1, e2, hb, ha]
  · have c2 : (if b = 1 then Out.ok (decide (0 < a)) (.nums [a, b, c, d + 1] :: R) else Out.ok false (.nums [a, b, c, d + 1] :: R)) = (Out.ok false (.nums [a, b, c, d + 1] :: R) : Out Bool) := by
      by_cases hb : b = 1
      · rw [if_pos hb]
        have ha : ¬ 0 < a := fun z => c1 ⟨hb, z⟩
        rw [decide_eq_false ha]
      · rw [if_neg hb]
    cases ns with
    | nil =>
      simp [ent, put_e, x_sSto, ixLocR, at4_0, at4_1, at4_2, at4_3, ix4_0, ix4_1, ix4_2, ix4_3, e1, e2, e3, e4, e5, e6, e7, e8, c2]
      exact ⟨p0 _, p1 _⟩
    | cons x r =>
      have hl : (0 : Int) < ((x :: r).length : Nat) := by simp [List.length_cons]
      obtain ⟨z, hz⟩ := scr_at (ns := x :: r) (i := c % ((x :: r).length : Nat)) (Int.emod_nonneg _ (by omega)) (Int.emod_lt_of_pos _ hl)
      have e9 : gMod c ((x :: r).length : Nat) = some (.int (c % ((x :: r).length : Nat))) := r_mod hl
      simp only [List.length_cons, Int.natCast_add, Int.natCast_one] at hz e9 hl
      simp [ent, put_e, x_sSto, ixLocR, at4_0, at4_1, at4_2, at4_3, ix4_0, ix4_1, ix4_2, ix4_3, e1, e2, e3, e4, e5, e6, e7, e8, c2, e9, hz, hl]
      exact ⟨p0 _, p1 _⟩
/-! ## days -/
abbrev dyF : List Str := ["dry", "rain", "fill", "mood"]
abbrev dyD (s : Nat) (dry rain : List Int) (f m : Int) : D := .obj s dyF [.tup (dry.map D.int), .tup (rain.map D.int), .int f, .int m]
section
variable {s : Nat} {dry rain : List Int} {f m : Int}
theorem fld_dry (xs : List Nat) : dFld [s] xs "dry" (dyD s dry rain f m) = some (.tup (dry.map D.int)) := if_pos List.mem_cons_self
theorem fld_rain (xs : List Nat) : dFld [s] xs "rain" (dyD s dry rain f m) = some (.tup (rain.map D.int)) := if_pos List.mem_cons_self
theorem fld_fill (xs : List Nat) : dFld [s] xs "fill" (dyD s dry rain f m) = some (.int f) := if_pos List.mem_cons_self
theorem fld_moodD (xs : List Nat) : dFld [s] xs "mood" (dyD s dry rain f m) = some (.int m) := if_pos List.mem_cons_self
end
def g_dyInit (b s : Nat) : FM := bodyM 5 6 (sSeq (sDrop [] (callM 4 (g_num b) (aCons (eC (.str "plots")) (aCons (cV (un1 gLen) (aCons (eVar 1) aNil)) (aCons (eC (.int 1)) (aCons (eC (.int 4)) aNil))))))
    (sSeq (sFor false [] (iSeq (eVar 1)) (gOne 5) (bNum b 5 "dry" 0 8))
    (sSeq (sDrop [] (callM 4 (g_num b) (aCons (eC (.str "plots")) (aCons (cV (un1 gLen) (aCons (eVar 2) aNil)) (aCons (cV (un1 gLen) (aCons (eVar 1) aNil)) (aCons (cV (un1 gLen) (aCons (eVar 1) aNil)) aNil))))))
    (sSeq (sFor false [] (iSeq (eVar 2)) (gOne 5) (bNum b 5 "rain" 0 8))
    (sSeq (sSelf [] 0 s "dry" (cV (un1 gTuple) (aCons (eVar 1) aNil)))
    (sSeq (sSelf [] 0 s "rain" (cV (un1 gTuple) (aCons (eVar 2) aNil)))
    (sSeq (sSelf [] 0 s "fill" (vM (callM 4 (g_num b) (aCons (eC (.str "fill")) (aCons (eVar 3) (aCons (eC (.int 0)) (aCons (eC (.int 8)) aNil)))))))
    (sSelf [] 0 s "mood" (vM (callM 4 (g_num b) (aCons (eC (.str "mood")) (aCons (eVar 4) (aCons (eC (.int 0)) (aCons (eC (.int 3)) aNil))))))))))))))
def dyO (b s : Nat) (ds rs : List D) (t m : D) (a : Sto) : Out M :=
  if okB (.int ds.length) 1 4 = true then (match ds.find? (fun d => !okB d 0 8) with
    | some d => .exc b ["what", "value"] [.str "dry", d] a
    | none => if okB (.int rs.length) ds.length ds.length = true then (match rs.find? (fun d => !okB d 0 8) with
      | some d => .exc b ["what", "value"] [.str "rain", d] a
      | none => if okB t 0 8 = true then (if okB m 0 3 = true then .ok (.obj s dyF [.val (.tup ds), .val (.tup rs), .val t, .val m]) a else .exc b ["what", "value"] [.str "mood", m] a) else .exc b ["what", "value"] [.str "fill", t] a)
    else .exc b ["what", "value"] [.str "plots", .int rs.length] a)
  else .exc b ["what", "value"] [.str "plots", .int ds.length] a
theorem lastS_6 (x0 x1 x2 x3 x4 o : Option M) (ds : List D) : ∃ o', lastS 5 ds [x0, x1, x2, x3, x4, o] = [x0, x1, x2, x3, x4, o'] := by
  unfold lastS
  cases ds.getLast? with
  | none => exact ⟨_, rfl⟩
  | some d => exact ⟨_, rfl⟩
theorem dy_init {b s : Nat} {L L2 t m : D} {ds rs : List D} {a : Sto} (hL : Row L ds) (hR : Row L2 rs) (hp : ∀ d ∈ ds, plain d = true) (hp2 : ∀ d ∈ rs, plain d = true) (ht : plain t = true) (hm : plain m = true) (ha : Fresh a) :
    mkEnd s a.length (g_dyInit b s [.loc a.length, L, L2, t, m] (a ++ [.obj s [] []])) = dyO b s ds rs t m a := by
  unfold dyO
  have e0 := fun a' => hL.len a'
  have e0' := fun a' => hR.len a'
  have nt : noLoc a.length (.tup ds) = true := noLocs_all fun d hd => noLoc_plain (hp d hd)
  have nt2 : noLoc a.length (.tup rs) = true := noLocs_all fun d hd => noLoc_plain (hp2 d hd)
  have n1 : noLoc a.length t = true := noLoc_plain ht
  have n2 : noLoc a.length m = true := noLoc_plain hm
  have one : ∀ x, plain x = true → noLocs a.length [D.str "dry", x] = true ∧ noLocs a.length [D.str "rain", x] = true := fun x px => by
    have z : (true && (noLoc a.length x && true)) = true := by rw [noLoc_plain px]; rfl
    exact ⟨z, z⟩
  show mkEnd s a.length (outF (sSeq (sDrop [] (callM 4 (g_num b) (aCons (eC (.str "plots")) (aCons (cV (un1 gLen) (aCons (eVar 1) aNil)) (aCons (eC (.int 1)) (aCons (eC (.int 4)) aNil)))))) _ [some (.val (.loc a.length)), some (.val L), some (.val L2), some (.val t), some (.val m), none] (a ++ [.obj s [] []]))) = _
  cases c0 : okB (.int ds.length) 1 4 with
  | false =>
    have k : ∀ a', g_num b [.str "plots", .int ds.length, .int 1, .int 4] a' = _ := fun a' => num_out rfl c0
    have st1 : sDrop [] (callM 4 (g_num b) (aCons (eC (.str "plots")) (aCons (cV (un1 gLen) (aCons (eVar 1) aNil)) (aCons (eC (.int 1)) (aCons (eC (.int 4)) aNil))))) [some (.val (.loc a.length)), some (.val L), some (.val L2), some (.val t), some (.val m), none] (a ++ [.obj s [] []]) = .exc b ["what", "value"] [.str "plots", .int ds.length] [some (.val (.loc a.length)), some (.val L), some (.val L2), some (.val t), some (.val m), none] (a ++ [.obj s [] []]) := by
      simp [e0, k]
    rw [x_sSeq, st1, seq_exc, outF_exc]
    exact end_exc ha rfl rfl
  | true =>
    have k : ∀ a', g_num b [.str "plots", .int ds.length, .int 1, .int 4] a' = .ok (.val (.int ds.length)) a' := fun a' => by rw [num_all b _ _ rfl, if_pos c0]
    have st1 : sDrop [] (callM 4 (g_num b) (aCons (eC (.str "plots")) (aCons (cV (un1 gLen) (aCons (eVar 1) aNil)) (aCons (eC (.int 1)) (aCons (eC (.int 4)) aNil))))) [some (.val (.loc a.length)), some (.val L), some (.val L2), some (.val t), some (.val m), none] (a ++ [.obj s [] []]) = .nx [some (.val (.loc a.length)), some (.val L), some (.val L2), some (.val t), some (.val m), none] (a ++ [.obj s [] []]) := by
      simp [e0, k]
    rw [seq_then st1]
    cases c1 : ds.find? (fun d => !okB d 0 8) with
    | some x =>
      obtain ⟨δ', lp⟩ := num_loopX (b := b) (i := 5) (w := "dry") (a := a ++ [Cell.obj s [] []]) (δ := [some (.val (.loc a.length)), some (.val L), some (.val L2), some (.val t), some (.val m), none]) (by simp) hp c1
      have st2 : sFor false [] (iSeq (eVar 1)) (gOne 5) (bNum b 5 "dry" 0 8) [some (.val (.loc a.length)), some (.val L), some (.val L2), some (.val t), some (.val m), none] (a ++ [.obj s [] []]) = .exc b ["what", "value"] [.str "dry", x] δ' (a ++ [.obj s [] []]) := by
        simp [hL.items, lp]
      rw [x_sSeq, st2, seq_exc, outF_exc]
      exact end_exc ha rfl (one x (hp x (List.mem_of_find?_eq_some c1))).1
    | none =>
      have lp := num_loop (b := b) (i := 5) (w := "dry") (a := a ++ [Cell.obj s [] []]) (δ := [some (.val (.loc a.length)), some (.val L), some (.val L2), some (.val t), some (.val m), none]) (by simp) hp c1
      obtain ⟨o, ho⟩ := lastS_6 (some (.val (.loc a.length))) (some (.val L)) (some (.val L2)) (some (.val t)) (some (.val m)) none ds
      rw [ho] at lp
      have st2 : sFor false [] (iSeq (eVar 1)) (gOne 5) (bNum b 5 "dry" 0 8) [some (.val (.loc a.length)), some (.val L), some (.val L2), some (.val t), some (.val m), none] (a ++ [.obj s [] []]) = .nx [some (.val (.loc a.length)), some (.val L), some (.val L2), some (.val t), some (.val m), o] (a ++ [.obj s [] []]) := by
        simp [hL.items, lp]
      rw [seq_then st2]
      try dsimp only
      have see : ∃ z, see [] 0 [some (.val (.loc a.length)), some (.val L), some (.val L2), some (.val t), some (.val m), o] = [some (.loc a.length), some L, some L2, some t, some m, z] := by
        rcases o with _ | (_ | _ | _ | _) <;> exact ⟨_, rfl⟩
      obtain ⟨z, hz⟩ := see
      cases c5 : okB (.int rs.length) ds.length ds.length with
      | false =>
        have k5 : ∀ a', g_num b [.str "plots", .int rs.length, .int ds.length, .int ds.length] a' = _ := fun a' => num_out rfl c5
        have st3 : sDrop [] (callM 4 (g_num b) (aCons (eC (.str "plots")) (aCons (cV (un1 gLen) (aCons (eVar 2) aNil)) (aCons (cV (un1 gLen) (aCons (eVar 1) aNil)) (aCons (cV (un1 gLen) (aCons (eVar 1) aNil)) aNil))))) [some (.val (.loc a.length)), some (.val L), some (.val L2), some (.val t), some (.val m), o] (a ++ [.obj s [] []]) = .exc b ["what", "value"] [.str "plots", .int rs.length] [some (.val (.loc a.length)), some (.val L), some (.val L2), some (.val t), some (.val m), o] (a ++ [.obj s [] []]) := by
          simp [hz, e0, e0', k5]
        rw [x_sSeq, st3, seq_exc, outF_exc]
        exact end_exc ha rfl rfl
      | true =>
        have k5 : ∀ a', g_num b [.str "plots", .int rs.length, .int ds.length, .int ds.length] a' = .ok (.val (.int rs.length)) a' := fun a' => by rw [num_all b _ _ rfl, if_pos c5]
        have st3 : sDrop [] (callM 4 (g_num b) (aCons (eC (.str "plots")) (aCons (cV (un1 gLen) (aCons (eVar 2) aNil)) (aCons (cV (un1 gLen) (aCons (eVar 1) aNil)) (aCons (cV (un1 gLen) (aCons (eVar 1) aNil)) aNil))))) [some (.val (.loc a.length)), some (.val L), some (.val L2), some (.val t), some (.val m), o] (a ++ [.obj s [] []]) = .nx [some (.val (.loc a.length)), some (.val L), some (.val L2), some (.val t), some (.val m), o] (a ++ [.obj s [] []]) := by
          simp [hz, e0, e0', k5]
        rw [seq_then st3]
        try dsimp only
        cases c6 : rs.find? (fun d => !okB d 0 8) with
        | some x =>
          obtain ⟨δ', lp2⟩ := num_loopX (b := b) (i := 5) (w := "rain") (a := a ++ [Cell.obj s [] []]) (δ := [some (.val (.loc a.length)), some (.val L), some (.val L2), some (.val t), some (.val m), o]) (by simp) hp2 c6
          have st4 : sFor false [] (iSeq (eVar 2)) (gOne 5) (bNum b 5 "rain" 0 8) [some (.val (.loc a.length)), some (.val L), some (.val L2), some (.val t), some (.val m), o] (a ++ [.obj s [] []]) = .exc b ["what", "value"] [.str "rain", x] δ' (a ++ [.obj s [] []]) := by
            simp [hz, hR.items, lp2]
          rw [x_sSeq, st4, seq_exc, outF_exc]
          exact end_exc ha rfl (one x (hp2 x (List.mem_of_find?_eq_some c6))).2
        | none =>
          have lp2 := num_loop (b := b) (i := 5) (w := "rain") (a := a ++ [Cell.obj s [] []]) (δ := [some (.val (.loc a.length)), some (.val L), some (.val L2), some (.val t), some (.val m), o]) (by simp) hp2 c6
          obtain ⟨o', ho'⟩ := lastS_6 (some (.val (.loc a.length))) (some (.val L)) (some (.val L2)) (some (.val t)) (some (.val m)) o rs
          rw [ho'] at lp2
          have st4 : sFor false [] (iSeq (eVar 2)) (gOne 5) (bNum b 5 "rain" 0 8) [some (.val (.loc a.length)), some (.val L), some (.val L2), some (.val t), some (.val m), o] (a ++ [.obj s [] []]) = .nx [some (.val (.loc a.length)), some (.val L), some (.val L2), some (.val t), some (.val m), o'] (a ++ [.obj s [] []]) := by
            simp [hz, hR.items, lp2]
          rw [seq_then st4]
          have see' : ∃ z, see [] 0 [some (.val (.loc a.length)), some (.val L), some (.val L2), some (.val t), some (.val m), o'] = [some (.loc a.length), some L, some L2, some t, some m, z] := by
            rcases o' with _ | (_ | _ | _ | _) <;> exact ⟨_, rfl⟩
          obtain ⟨z', hz'⟩ := see'
          obtain ⟨nw, e1, e2⟩ := hL.tuple (a ++ [.obj s [] []])
          obtain ⟨nw2, e3, e4⟩ := hR.tuple (a ++ [.obj s ["dry"] [.tup ds]])
          have st5 : sSelf [] 0 s "dry" (cV (un1 gTuple) (aCons (eVar 1) aNil)) [some (.val (.loc a.length)), some (.val L), some (.val L2), some (.val t), some (.val m), o'] (a ++ [.obj s [] []]) = .nx [some (.val (.loc a.length)), some (.val L), some (.val L2), some (.val t), some (.val m), o'] (a ++ [.obj s ["dry"] [.tup ds]]) :=
            self_put (ns := []) (ds := []) rfl (by simp [hz', e1, e2]) rfl (by decide)
          have st6 : sSelf [] 0 s "rain" (cV (un1 gTuple) (aCons (eVar 2) aNil)) [some (.val (.loc a.length)), some (.val L), some (.val L2), some (.val t), some (.val m), o'] (a ++ [.obj s ["dry"] [.tup ds]]) = .nx [some (.val (.loc a.length)), some (.val L), some (.val L2), some (.val t), some (.val m), o'] (a ++ [.obj s ["dry", "rain"] [.tup ds, .tup rs]]) :=
            self_put (ns := ["dry"]) (ds := [.tup ds]) rfl (by simp [hz', e3, e4]) rfl (by decide)
          rw [seq_then st5, seq_then st6]
          try dsimp only
          have nds : ∀ es, noLocs a.length es = true → noLocs a.length (.tup ds :: .tup rs :: es) = true := fun es he => by
            show (noLoc a.length (.tup ds) && (noLoc a.length (.tup rs) && noLocs a.length es)) = true
            rw [nt, nt2, he]
            rfl
          cases c2 : okB t 0 8 with
          | false =>
            have k2 : ∀ a', g_num b [.str "fill", t, .int 0, .int 8] a' = _ := fun a' => num_out ht c2
            have st7 : sSelf [] 0 s "fill" (vM (callM 4 (g_num b) (aCons (eC (.str "fill")) (aCons (eVar 3) (aCons (eC (.int 0)) (aCons (eC (.int 8)) aNil)))))) [some (.val (.loc a.length)), some (.val L), some (.val L2), some (.val t), some (.val m), o'] (a ++ [.obj s ["dry", "rain"] [.tup ds, .tup rs]]) = .exc b ["what", "value"] [.str "fill", t] [some (.val (.loc a.length)), some (.val L), some (.val L2), some (.val t), some (.val m), o'] (a ++ [.obj s ["dry", "rain"] [.tup ds, .tup rs]]) := by
              simp [x_sSelf, hz', k2]
            rw [x_sSeq, st7, seq_exc, outF_exc]
            exact end_exc ha (nds [] rfl) (by show (true && (noLoc a.length t && true)) = true; rw [n1]; rfl)
          | true =>
            have k2 : ∀ a', g_num b [.str "fill", t, .int 0, .int 8] a' = .ok (.val t) a' := fun a' => by rw [num_all b _ _ ht, if_pos c2]
            have st7 : sSelf [] 0 s "fill" (vM (callM 4 (g_num b) (aCons (eC (.str "fill")) (aCons (eVar 3) (aCons (eC (.int 0)) (aCons (eC (.int 8)) aNil)))))) [some (.val (.loc a.length)), some (.val L), some (.val L2), some (.val t), some (.val m), o'] (a ++ [.obj s ["dry", "rain"] [.tup ds, .tup rs]]) = .nx [some (.val (.loc a.length)), some (.val L), some (.val L2), some (.val t), some (.val m), o'] (a ++ [.obj s ["dry", "rain", "fill"] [.tup ds, .tup rs, t]]) :=
              self_put (ns := ["dry", "rain"]) (ds := [.tup ds, .tup rs]) rfl (by simp [hz', k2, freeze]) rfl (by decide)
            rw [seq_then st7]
            cases c3 : okB m 0 3 with
            | false =>
              have k3 : ∀ a', g_num b [.str "mood", m, .int 0, .int 3] a' = _ := fun a' => num_out hm c3
              have st8 : sSelf [] 0 s "mood" (vM (callM 4 (g_num b) (aCons (eC (.str "mood")) (aCons (eVar 4) (aCons (eC (.int 0)) (aCons (eC (.int 3)) aNil)))))) [some (.val (.loc a.length)), some (.val L), some (.val L2), some (.val t), some (.val m), o'] (a ++ [.obj s ["dry", "rain", "fill"] [.tup ds, .tup rs, t]]) = .exc b ["what", "value"] [.str "mood", m] [some (.val (.loc a.length)), some (.val L), some (.val L2), some (.val t), some (.val m), o'] (a ++ [.obj s ["dry", "rain", "fill"] [.tup ds, .tup rs, t]]) := by
                simp [x_sSelf, hz', k3]
              rw [st8, outF_exc]
              exact end_exc ha (nds [t] (by show (noLoc a.length t && true) = true; rw [n1]; rfl)) (by show (true && (noLoc a.length m && true)) = true; rw [n2]; rfl)
            | true =>
              have k3 : ∀ a', g_num b [.str "mood", m, .int 0, .int 3] a' = .ok (.val m) a' := fun a' => by rw [num_all b _ _ hm, if_pos c3]
              have st8 : sSelf [] 0 s "mood" (vM (callM 4 (g_num b) (aCons (eC (.str "mood")) (aCons (eVar 4) (aCons (eC (.int 0)) (aCons (eC (.int 3)) aNil)))))) [some (.val (.loc a.length)), some (.val L), some (.val L2), some (.val t), some (.val m), o'] (a ++ [.obj s ["dry", "rain", "fill"] [.tup ds, .tup rs, t]]) = .nx [some (.val (.loc a.length)), some (.val L), some (.val L2), some (.val t), some (.val m), o'] (a ++ [.obj s dyF [.tup ds, .tup rs, t, m]]) :=
                self_put (ns := ["dry", "rain", "fill"]) (ds := [.tup ds, .tup rs, t]) rfl (by simp [hz', k3, freeze]) rfl (by decide)
              rw [st8, outF_nx]
              exact end_ok ha (nds [t, m] (by show (noLoc a.length t && (noLoc a.length m && true)) = true; rw [n1, n2]; rfl))
end DL

namespace DL
open PySem PySem.Spec PyProof.Rows L2
/-- a loop that returns r at its first item without Q -/
theorem loop_all {g : D → SlM → Option SlM} {f : SM} {a : Sto} {r : M} (Q : D → Bool) (Inv : SlM → Prop) : ∀ {ds : List D}, (∀ d ∈ ds, ∀ δ, Inv δ → ∃ δ1, g d δ = some δ1 ∧ (Q d = true → ∃ δ2, f δ1 a = .nx δ2 a ∧ Inv δ2) ∧ (Q d = false → f δ1 a = .rt r a)) →
    ∀ {δ : SlM}, Inv δ → (ds.all Q = true → ∃ δ', sLoop g f ds δ a = .nx δ' a ∧ Inv δ') ∧ (ds.all Q = false → sLoop g f ds δ a = .rt r a)
  | [], _, δ, h => ⟨fun _ => ⟨δ, rfl, h⟩, fun z => by cases z⟩
  | d :: ds, k, δ, h => by
    obtain ⟨δ1, e1, e2, e3⟩ := k d List.mem_cons_self δ h
    cases c : Q d with
    | true =>
      obtain ⟨δ2, e4, h2⟩ := e2 c
      have ih := loop_all Q Inv (ds := ds) (fun d' hd => k d' (List.mem_cons_of_mem _ hd)) h2
      rw [List.all_cons, c, Bool.true_and, loop_S e1, e4, loopK_nx]
      exact ih
    | false =>
      rw [List.all_cons, c, Bool.false_and, loop_S e1, e3 c]
      exact ⟨(fun z => nomatch z), (fun _ => rfl)⟩
/-! ## days: ==, <=, + -/
def g_dyEq (s : Nat) (tab : Tg → Option Bool) : FM := bodyM 2 2 (sSeq (sIf [] (tN (tV (ev1 (dIsi tab) (eVar 1)))) sStuck sNil)
    (sSeq (sIf [] (tOn (tV (ev2 dNe (ev1 (dFld [s] [] "dry") (eVar 0)) (ev1 (dFld [s] [] "dry") (eVar 1)))) (tV (ev2 dNe (ev1 (dFld [s] [] "rain") (eVar 0)) (ev1 (dFld [s] [] "rain") (eVar 1))))) (sRet [] (mV (eC (.bl false)))) sNil)
    (sRet [] (mV (vAn (ev2 dEq (ev1 (dFld [s] [] "fill") (eVar 0)) (ev1 (dFld [s] [] "fill") (eVar 1))) (ev2 dEq (ev1 (dFld [s] [] "mood") (eVar 0)) (ev1 (dFld [s] [] "mood") (eVar 1))))))))
structure Dy where
  dry : List Int
  rain : List Int
  fill : Int
  mood : Int
abbrev Dy.d (s : Nat) (x : Dy) : D := dyD s x.dry x.rain x.fill x.mood
structure Dy.Ok (x : Dy) : Prop where
  l1 : 1 ≤ x.dry.length
  l4 : x.dry.length ≤ 4
  rl : x.rain.length = x.dry.length
  ed : ∀ i ∈ x.dry, 0 ≤ i ∧ i ≤ 8
  er : ∀ i ∈ x.rain, 0 ≤ i ∧ i ≤ 8
  fl : 0 ≤ x.fill ∧ x.fill ≤ 8
  md : 0 ≤ x.mood ∧ x.mood ≤ 3
def Dy.eqB (x y : Dy) : Bool := decide (x.dry = y.dry) && (decide (x.rain = y.rain) && (decide (x.fill = y.fill) && decide (x.mood = y.mood)))
theorem dyEq_ok {s : Nat} {tab : Tg → Option Bool} (h : tab (.obj s) = some true) (x y : Dy) (a : Sto) : g_dyEq s tab [x.d s, y.d s] a = .ok (.val (.bl (x.eqB y))) a := by
  have i1 : dIsi tab (y.d s) = some (.bl true) := by
    show (tab (.obj s)).map D.bl = _
    rw [h]
    rfl
  have e1 : ∀ i j : Int, (i == j) = decide (i = j) := fun i j => by rw [Bool.eq_iff_iff]; simp
  have f1 : ∀ z : Dy, dFld [s] [] "dry" (z.d s) = _ := fun z => fld_dry []
  have f2 : ∀ z : Dy, dFld [s] [] "rain" (z.d s) = _ := fun z => fld_rain []
  have f3 : ∀ z : Dy, dFld [s] [] "fill" (z.d s) = _ := fun z => fld_fill []
  have f4 : ∀ z : Dy, dFld [s] [] "mood" (z.d s) = _ := fun z => fld_moodD []
  unfold g_dyEq Dy.eqB
  by_cases c1 : x.dry = y.dry
  · by_cases c2 : x.rain = y.rain
    · simp [ent, i1, f1, f2, f3, f4, dNe_tints, freeze, c1, c2, e1]
      by_cases c3 : x.fill = y.fill <;> simp [c3]
    · simp [ent, i1, f1, f2, f3, f4, dNe_tints, freeze, c1, c2, e1]
  · simp [ent, i1, f1, f2, f3, f4, dNe_tints, freeze, c1, e1]
/-! ### at_least -/
def bAtl : SM := (sIf [] (tV (ev2 (dI gLt) (vS dIx (eVar 0) (eVar 2)) (eVar 3))) (sRet [] (mV (eC (.bl false)))) sNil)
def g_atl : FM := bodyM 2 4 (sSeq (sFor false [] (iEn (aCons (eVar 1) aNil)) (gTp 2 (gsCons (gOne 2) (gsCons (gOne 3) gsNil))) bAtl) (sRet [] (mV (eC (.bl true)))))
def qAtl (xs : List Int) : D → Bool
  | .tup [.int n, .int y] => (match L2.atI xs n with
    | some x => decide (y ≤ x)
    | none => false)
  | _ => false
theorem all_atl {xs : List Int} : ∀ (ys : List Int) (n : Nat), xs.length = n + ys.length → (enumD n (ys.map D.int)).all (qAtl xs) = leL ys (xs.drop n)
  | [], n, h => by
    rw [List.drop_of_length_le (by simp at h; omega)]
    rfl
  | y :: ys, n, h => by
    have hn : n < xs.length := by rw [h, List.length_cons]; omega
    rw [List.drop_eq_getElem_cons hn, List.map_cons, enumD, List.all_cons, all_atl ys (n + 1) (by rw [h, List.length_cons]; omega)]
    have px : qAtl xs (.tup [.int (n : Nat), .int y]) = decide (y ≤ xs[n]) := by
      show (match L2.atI xs ((n : Nat) : Int) with
        | some x => decide (y ≤ x)
        | none => false) = _
      rw [atI_nat' (show xs[n]? = some xs[n] from List.getElem?_eq_getElem hn)]
    rw [px]
    rfl
theorem enum_mem : ∀ (ls : List Int) (n : Nat) (d : D), d ∈ enumD n (ls.map D.int) → ∃ (k : Nat) (l : Int), d = .tup [.int k, .int l] ∧ n ≤ k ∧ k < n + ls.length
  | [], n, d, h => by cases h
  | l :: ls, n, d, h => by
    rcases List.mem_cons.mp h with rfl | h
    · exact ⟨n, l, rfl, Nat.le_refl _, by rw [List.length_cons]; omega⟩
    · obtain ⟨k, l', e, h1, h2⟩ := enum_mem ls (n + 1) d h
      exact ⟨k, l', e, by omega, by rw [List.length_cons]; omega⟩
@[simp] theorem see_om (I : List Nat) (n : Nat) (o : Option D) (r : SlM) : see I n (o.map M.val :: r) = o :: see I (n + 1) r := by cases o <;> rfl
theorem atl_ok {xs ys : List Int} (h : xs.length = ys.length) (a : Sto) : g_atl [.tup (xs.map D.int), .tup (ys.map D.int)] a = .ok (.val (.bl (leL ys xs))) a := by
  have lp := loop_all (g := gTp 2 (gsCons (gOne 2) (gsCons (gOne 3) gsNil))) (f := bAtl) (a := a) (r := .val (.bl false)) (qAtl xs) (fun δ => ∃ o2 o3 : Option D, δ = [some (.val (.tup (xs.map D.int))), some (.val (.tup (ys.map D.int))), o2.map M.val, o3.map M.val]) (ds := enumD 0 (ys.map D.int)) (fun d hd δ hδ => by
    obtain ⟨o2, o3, rfl⟩ := hδ
    obtain ⟨k, l, rfl, _, hk⟩ := enum_mem ys 0 d hd
    have hk' : k < xs.length := by omega
    have ix : L2.atI (xs.map D.int) (k : Int) = some (.int xs[k]) := atI_nat' (by simp [hk'])
    have q : qAtl xs (.tup [.int (k : Nat), .int l]) = decide (l ≤ xs[k]) := by
      show (match L2.atI xs ((k : Nat) : Int) with
        | some x => decide (l ≤ x)
        | none => false) = _
      rw [atI_nat' (show xs[k]? = some xs[k] from List.getElem?_eq_getElem hk')]
    rw [q]
    refine ⟨[some (.val (.tup (xs.map D.int))), some (.val (.tup (ys.map D.int))), some (.val (.int k)), some (.val (.int l))], rfl, fun c => ⟨[some (.val (.tup (xs.map D.int))), some (.val (.tup (ys.map D.int))), some (.val (.int k)), some (.val (.int l))], ?_, some (.int k), some (.int l), rfl⟩, fun c => ?_⟩
    · have c' : ¬ xs[k] < l := by have := of_decide_eq_true c; omega
      unfold bAtl
      simp [ix, c']
    · have c' : xs[k] < l := by have := of_decide_eq_false c; omega
      unfold bAtl
      simp [ix, c']) (δ := [some (.val (.tup (xs.map D.int))), some (.val (.tup (ys.map D.int))), none, none]) ⟨none, none, rfl⟩
  rw [all_atl ys 0 (by omega), List.drop_zero] at lp
  have en : gEn [.tup (ys.map D.int)] = some (enumD 0 (ys.map D.int)) := rfl
  show outF (sSeq (sFor false [] (iEn (aCons (eVar 1) aNil)) (gTp 2 (gsCons (gOne 2) (gsCons (gOne 3) gsNil))) bAtl) _ [some (.val (.tup (xs.map D.int))), some (.val (.tup (ys.map D.int))), none, none] a) = _
  cases c : leL ys xs with
  | true =>
    obtain ⟨δ', e, o2, o3, rfl⟩ := lp.1 c
    have st : sFor false [] (iEn (aCons (eVar 1) aNil)) (gTp 2 (gsCons (gOne 2) (gsCons (gOne 3) gsNil))) bAtl [some (.val (.tup (xs.map D.int))), some (.val (.tup (ys.map D.int))), none, none] a = .nx [some (.val (.tup (xs.map D.int))), some (.val (.tup (ys.map D.int))), o2.map M.val, o3.map M.val] a := by
      simp [en]
      exact e
    rw [seq_then st]
    simp
  | false =>
    have e := lp.2 c
    have st : sFor false [] (iEn (aCons (eVar 1) aNil)) (gTp 2 (gsCons (gOne 2) (gsCons (gOne 3) gsNil))) bAtl [some (.val (.tup (xs.map D.int))), some (.val (.tup (ys.map D.int))), none, none] a = .rt (.val (.bl false)) a := by
      simp [en]
      exact e
    rw [x_sSeq, st]
    rfl
/-! ### <= -/
def g_dyLe (s : Nat) (tab : Tg → Option Bool) : FM := bodyM 2 2 (sSeq (sIf [] (tN (tV (ev1 (dIsi tab) (eVar 1)))) sStuck sNil)
    (sSeq (sIf [] (tOn (tV (ev2 dNe (cV (un1 gLen) (aCons (ev1 (dFld [s] [] "dry") (eVar 0)) aNil)) (cV (un1 gLen) (aCons (ev1 (dFld [s] [] "dry") (eVar 1)) aNil)))) (tV (ev2 dNe (ev1 (dFld [s] [] "mood") (eVar 0)) (ev1 (dFld [s] [] "mood") (eVar 1))))) (sRet [] (mV (eC (.bl false)))) sNil)
    (sSeq (sIf [] (tOn (tN (tV (vM (callM 2 g_atl (aCons (ev1 (dFld [s] [] "dry") (eVar 0)) (aCons (ev1 (dFld [s] [] "dry") (eVar 1)) aNil)))))) (tN (tV (vM (callM 2 g_atl (aCons (ev1 (dFld [s] [] "rain") (eVar 1)) (aCons (ev1 (dFld [s] [] "rain") (eVar 0)) aNil))))))) (sRet [] (mV (eC (.bl false)))) sNil)
    (sRet [] (mV (ev2 (dI gLe) (ev1 (dFld [s] [] "fill") (eVar 0)) (ev1 (dFld [s] [] "fill") (eVar 1))))))))
def Dy.leB (x y : Dy) : Bool := decide (x.dry.length = y.dry.length) && (decide (x.mood = y.mood) && (leL y.dry x.dry && (leL x.rain y.rain && decide (x.fill ≤ y.fill))))
theorem dyLe_ok {s : Nat} {tab : Tg → Option Bool} (h : tab (.obj s) = some true) {x y : Dy} (hx : x.rain.length = x.dry.length) (hy : y.rain.length = y.dry.length) (a : Sto) : g_dyLe s tab [x.d s, y.d s] a = .ok (.val (.bl (x.leB y))) a := by
  have i1 : dIsi tab (y.d s) = some (.bl true) := by
    show (tab (.obj s)).map D.bl = _
    rw [h]
    rfl
  have e1 : ∀ i j : Int, (i == j) = decide (i = j) := fun i j => by rw [Bool.eq_iff_iff]; simp
  have f1 : ∀ z : Dy, dFld [s] [] "dry" (z.d s) = _ := fun z => fld_dry []
  have f2 : ∀ z : Dy, dFld [s] [] "rain" (z.d s) = _ := fun z => fld_rain []
  have f3 : ∀ z : Dy, dFld [s] [] "fill" (z.d s) = _ := fun z => fld_fill []
  have f4 : ∀ z : Dy, dFld [s] [] "mood" (z.d s) = _ := fun z => fld_moodD []
  unfold g_dyLe Dy.leB
  by_cases c1 : x.dry.length = y.dry.length
  · have c1' : (x.dry.length : Int) = y.dry.length := by omega
    by_cases c2 : x.mood = y.mood
    · have a1 := fun a => atl_ok c1 a
      have a2 := fun a => atl_ok (show y.rain.length = x.rain.length by omega) a
      cases c3 : leL y.dry x.dry with
      | false => simp [ent, i1, f1, f2, f3, f4, c1, c2, c1', a1, a2, c3, e1, freeze]
      | true =>
        cases c4 : leL x.rain y.rain with
        | false => simp [ent, i1, f1, f2, f3, f4, c1, c2, c1', a1, a2, c3, c4, e1, freeze]
        | true => simp [ent, i1, f1, f2, f3, f4, c1, c2, c1', a1, a2, c3, c4, e1, freeze]
    · simp [ent, i1, f1, f2, f3, f4, c1, c2, c1', e1, freeze]
  · have c1' : ¬ (x.dry.length : Int) = y.dry.length := by omega
    simp [ent, i1, f1, f2, f3, f4, c1, c1', e1, freeze]
/-! ### made -/
theorem find_ok {ls : List Int} {lo hi : Int} (h : ∀ i ∈ ls, lo ≤ i ∧ i ≤ hi) : (ls.map D.int).find? (fun d => !okB d lo hi) = none := by
  refine List.find?_eq_none.mpr fun d hd => ?_
  obtain ⟨i, hi, rfl⟩ := List.mem_map.mp hd
  rw [ok_in (h i hi).1 (h i hi).2]
  decide
theorem plain_is (ls : List Int) : ∀ d ∈ ls.map D.int, plain d = true := fun d hd => by
  obtain ⟨i, _, rfl⟩ := List.mem_map.mp hd
  rfl
theorem dy_made {b s : Nat} {x : Dy} {L L2 : D} {a : Sto} (hL : Row L (x.dry.map D.int)) (hR : Row L2 (x.rain.map D.int)) (o : x.Ok) (ha : Fresh a) :
    mkEnd s a.length (g_dyInit b s [.loc a.length, L, L2, .int x.fill, .int x.mood] (a ++ [.obj s [] []])) = .ok (.obj s dyF [.val (.tup (x.dry.map D.int)), .val (.tup (x.rain.map D.int)), .val (.int x.fill), .val (.int x.mood)]) a := by
  rw [dy_init hL hR (plain_is _) (plain_is _) rfl rfl ha]
  unfold dyO
  have l1 := o.l1
  have l4 := o.l4
  have rl := o.rl
  rw [if_pos (ok_in (by rw [List.length_map]; omega) (by rw [List.length_map]; omega)), find_ok o.ed]
  dsimp only
  rw [if_pos (ok_in (by rw [List.length_map, List.length_map]; omega) (by rw [List.length_map, List.length_map]; omega)), find_ok o.er]
  dsimp only
  rw [if_pos (ok_in o.fl.1 o.fl.2), if_pos (ok_in o.md.1 o.md.2)]
/-! ### + -/
def g_dyAdd (b s : Nat) : FM := bodyM 2 4 (sSeq (sDrop [] (callM 4 (g_num b) (aCons (eC (.str "units")) (aCons (eVar 1) (aCons (eC (.int 0)) (aCons (eC (.int 8)) aNil))))))
    (sSeq (sSet 2 [] (mV (vM (lcM [3] (iSeq (ev1 (dFld [s] [] "rain") (eVar 0))) (gNm 3) tT (mV (cV (bi2 gMin2) (aCons (eC (.int 8)) (aCons (cV (un1 gInt) (aCons (vNw dAdd (eVar 3) (eVar 1)) aNil)) aNil))))))))
    (sRet [] (mkM s 5 (g_dyInit b s) (aCons (ev1 (dFld [s] [] "dry") (eVar 0)) (aCons (eVar 2) (aCons (ev1 (dFld [s] [] "fill") (eVar 0)) (aCons (ev1 (dFld [s] [] "mood") (eVar 0)) aNil))))))))
def Dy.more (x : Dy) (u : Int) : Dy := ⟨x.dry, x.rain.map fun r => min 8 (r + u), x.fill, x.mood⟩
theorem Dy.more_ok {x : Dy} {u : Int} (o : x.Ok) (h : 0 ≤ u) : (x.more u).Ok := ⟨o.l1, o.l4, by show (x.rain.map _).length = _; rw [List.length_map]; exact o.rl, o.ed, fun i hi => by
  obtain ⟨r, hr, rfl⟩ := List.mem_map.mp hi
  have := o.er r hr
  omega, o.fl, o.md⟩
theorem more_lc (rain : List Int) (u : Int) {δ : Sw} {a : Sto} (h1 : δ[1]? = some (some (.int u))) (h3 : 3 < δ.length) (hl : rain.length ≤ 1000) :
    lcGo (gNm 3) tT (mV (cV (bi2 gMin2) (aCons (eC (.int 8)) (aCons (cV (un1 gInt) (aCons (vNw dAdd (eVar 3) (eVar 1)) aNil)) aNil)))) δ (rain.map D.int) [] a = .ok ((rain.map fun r => min 8 (r + u)).map fun i => M.val (.int i)) a := by
  have lp := lc_map (gt := gNm 3) (ft := tT) (fe := mV (cV (bi2 gMin2) (aCons (eC (.int 8)) (aCons (cV (un1 gInt) (aCons (vNw dAdd (eVar 3) (eVar 1)) aNil)) aNil)))) (δ := δ) (a := a) (fun _ => true) (fun d => match d with | .int r => .val (.int (min 8 (r + u))) | _ => .val .non) (ds := rain.map D.int) (fun d hd => by
    obtain ⟨r, _, rfl⟩ := List.mem_map.mp hd
    refine ⟨_, rfl, rfl, fun _ => ?_⟩
    have v : (if r + u < 8 then r + u else 8) = min 8 (r + u) := by omega
    have g3 : (δ.set 3 (some (.int r)))[3]? = some (some (.int r)) := by rw [List.getElem?_set_self h3]
    have g1 : (δ.set 3 (some (.int r)))[1]? = some (some (.int u)) := by rw [List.getElem?_set_ne (by decide)]; exact h1
    simp [x_eVar, g3, g1, gMin2]
    rw [v]) (acc := []) (by simp; omega)
  have fl : ((rain.map D.int).filter fun _ => true) = rain.map D.int := List.filter_eq_self.mpr fun _ _ => rfl
  rw [fl, List.map_map, List.nil_append] at lp
  rw [lp, List.map_map]
  rfl
theorem dyAdd_out {b s : Nat} {x : Dy} {u : Int} (h : u < 0 ∨ 8 < u) (a : Sto) : g_dyAdd b s [x.d s, .int u] a = .exc b ["what", "value"] [.str "units", .int u] a := by
  have c : okB (.int u) 0 8 = false := by
    show (decide (0 ≤ u) && decide (u ≤ 8)) = false
    rcases h with h | h
    · rw [decide_eq_false (by omega), Bool.false_and]
    · rw [decide_eq_false (p := u ≤ 8) (by omega), Bool.and_false]
  have k : ∀ a', g_num b [.str "units", .int u, .int 0, .int 8] a' = _ := fun a' => num_out rfl c
  unfold g_dyAdd
  simp [ent, k]
theorem dyAdd_in {b s : Nat} {x : Dy} {u : Int} (o : x.Ok) (h : 0 ≤ u) (h2 : u ≤ 8) {a : Sto} (ha : Fresh a) : g_dyAdd b s [x.d s, .int u] a = .ok (.obj s dyF [.val (.tup (x.dry.map D.int)), .val (.tup ((x.more u).rain.map D.int)), .val (.int x.fill), .val (.int x.mood)]) a := by
  have k : ∀ a', g_num b [.str "units", .int u, .int 0, .int 8] a' = .ok (.val (.int u)) a' := fun a' => by rw [num_all b _ _ rfl, if_pos (ok_in h h2)]
  have f1 : ∀ z : Dy, dFld [s] [] "dry" (z.d s) = _ := fun z => fld_dry []
  have f2 : ∀ z : Dy, dFld [s] [] "rain" (z.d s) = _ := fun z => fld_rain []
  have f3 : ∀ z : Dy, dFld [s] [] "fill" (z.d s) = _ := fun z => fld_fill []
  have f4 : ∀ z : Dy, dFld [s] [] "mood" (z.d s) = _ := fun z => fld_moodD []
  have l4 := o.l4
  have rl := o.rl
  have lc := more_lc x.rain u (δ := [some (x.d s), some (.int u), none, none]) (a := a) rfl (by simp) (by omega)
  have fz := freezes_ints (x.more u).rain
  have mk := dy_made (b := b) (s := s) (x := x.more u) (L := .tup (x.dry.map D.int)) (L2 := .lst ((x.more u).rain.map D.int)) (.inr rfl) (.inl rfl) (Dy.more_ok o h) ha
  have st2 : sSet 2 [] (mV (vM (lcM [3] (iSeq (ev1 (dFld [s] [] "rain") (eVar 0))) (gNm 3) tT (mV (cV (bi2 gMin2) (aCons (eC (.int 8)) (aCons (cV (un1 gInt) (aCons (vNw dAdd (eVar 3) (eVar 1)) aNil)) aNil))))))) [some (.val (x.d s)), some (.val (.int u)), none, none] a = .nx [some (.val (x.d s)), some (.val (.int u)), some (.val (.lst ((x.more u).rain.map D.int))), none] a := by
    have fz' : freezes ((x.rain.map fun r => min 8 (r + u)).map fun i => M.val (.int i)) = _ := fz
    simp only [x_sSet, x_lift]
    have sc : see [] 0 [some (.val (x.d s)), some (.val (.int u)), none, none] = [some (x.d s), some (.int u), none, none] := rfl
    rw [sc]
    have ev : mV (vM (lcM [3] (iSeq (ev1 (dFld [s] [] "rain") (eVar 0))) (gNm 3) tT (mV (cV (bi2 gMin2) (aCons (eC (.int 8)) (aCons (cV (un1 gInt) (aCons (vNw dAdd (eVar 3) (eVar 1)) aNil)) aNil)))))) [some (x.d s), some (.int u), none, none] a = .ok (.val (.lst ((x.more u).rain.map D.int))) a := by
      simp [f2, items, wipeD]
      rw [lc]
      simp only [map_ok, freeze]
      rw [fz']
    rw [ev, k_ok]
    simp only [oseq_ok]
    rw [put_e (by simp)]
    rfl
  have st1 : sDrop [] (callM 4 (g_num b) (aCons (eC (.str "units")) (aCons (eVar 1) (aCons (eC (.int 0)) (aCons (eC (.int 8)) aNil))))) [some (.val (x.d s)), some (.val (.int u)), none, none] a = .nx [some (.val (x.d s)), some (.val (.int u)), none, none] a := by
    simp [k]
  show outF (sSeq (sDrop [] (callM 4 (g_num b) (aCons (eC (.str "units")) (aCons (eVar 1) (aCons (eC (.int 0)) (aCons (eC (.int 8)) aNil)))))) _ [some (.val (x.d s)), some (.val (.int u)), none, none] a) = _
  rw [seq_then st1, seq_then st2]
  have mk' : mkEnd s a.length (g_dyInit b s [.loc a.length, .tup (x.dry.map D.int), .lst ((x.more u).rain.map D.int), .int x.fill, .int x.mood] (a ++ [.obj s [] []])) = _ := mk
  simp [x_mkM, f1, f3, f4]
  rw [mk']
  rfl
end DL

namespace K09
open PySem PySem.Spec PyProof.Rows L2 DL
/-! ### the text by places -/
def topS (i : Nat) : Stmt := PySem.Challenge.pw_waterbyturns_k09_days.main.body.getD i (.Pass ⟨0, 0, 0, 0⟩)
abbrev s_law_start : Stmt := topS 11
abbrev s_law_draw : Stmt := topS 12
abbrev s_law_parts : Stmt := topS 17
abbrev s_law_near : Stmt := topS 16
abbrev s_law_other : Stmt := topS 18
abbrev s_is_integer : Stmt := topS 4
abbrev s_check_number : Stmt := topS 5
abbrev s_Day_init : Stmt := inClass (topS 9) 0
abbrev s_law_refusal : Stmt := topS 13
abbrev s_law_refusals_hold : Stmt := topS 20
abbrev s_Day_eq : Stmt := inClass (topS 9) 1
abbrev s_Day_add : Stmt := inClass (topS 9) 3
abbrev s_law_sum : Stmt := topS 14
abbrev s_law_sums_hold : Stmt := topS 19
abbrev s_at_least : Stmt := topS 8
abbrev s_Day_le : Stmt := inClass (topS 9) 2
abbrev s_law_harsher : Stmt := topS 15
abbrev s_law : Stmt := topS 21
abbrev s_BadNumber_init : Stmt := inClass (topS 2) 0
theorem sc_law_start : FnScope ["_law_script", "_law_first"] ["_law_script"] (defScope s_law_start) := ⟨rfl, rfl, rfl, by decide +kernel, rfl, by decide +kernel, by decide +kernel⟩
theorem sc_law_draw : FnScope ["_law_script", "_law_state", "_law_limit", "_law_number", "_law_cell", "_law_mixed"] ["_law_script", "_law_state", "_law_limit"] (defScope s_law_draw) := ⟨rfl, rfl, rfl, by decide +kernel, rfl, by decide +kernel, by decide +kernel⟩
theorem sc_law_parts : FnScope ["_law_script", "_law_state", "_law_many", "_law_dry", "_law_rain", "_law_k"] ["_law_script", "_law_state", "_law_many"] (defScope s_law_parts) := ⟨rfl, rfl, rfl, by decide +kernel, rfl, by decide +kernel, by decide +kernel⟩
theorem sc_law_near : FnScope ["_law_value", "_law_shift"] ["_law_value", "_law_shift"] (defScope s_law_near) := ⟨rfl, rfl, rfl, by decide +kernel, rfl, by decide +kernel, by decide +kernel⟩
theorem sc_law_other : FnScope ["_law_script", "_law_state", "_law_one", "_law_many", "_law_two", "_law_k", "_law_part", "_law_at"] ["_law_script", "_law_state", "_law_one", "_law_many"] (defScope s_law_other) := ⟨rfl, rfl, rfl, by decide +kernel, rfl, by decide +kernel, by decide +kernel⟩
theorem sc_is_integer : FnScope ["value"] ["value"] (defScope s_is_integer) := ⟨rfl, rfl, rfl, by decide +kernel, rfl, by decide +kernel, by decide +kernel⟩
theorem sc_check_number : FnScope ["what", "value", "low", "high"] ["what", "value", "low", "high"] (defScope s_check_number) := ⟨rfl, rfl, rfl, by decide +kernel, rfl, by decide +kernel, by decide +kernel⟩
theorem sc_Day_init : FnScope ["self", "dry", "rain", "fill", "mood", "value"] ["self", "dry", "rain", "fill", "mood"] (defScope s_Day_init) := ⟨rfl, rfl, rfl, by decide +kernel, rfl, by decide +kernel, by decide +kernel⟩
theorem sc_law_refusal : FnScope ["_law_dry", "_law_rain", "_law_fill", "_law_mood", "e"] ["_law_dry", "_law_rain", "_law_fill", "_law_mood"] (defScope s_law_refusal) := ⟨rfl, rfl, rfl, by decide +kernel, rfl, by decide +kernel, by decide +kernel⟩
theorem sc_law_refusals_hold : FnScope ["_law_script", "_law_state", "_law_one", "_law_many", "_law_at", "_law_wrong", "_law_bad", "_law_wet"] ["_law_script", "_law_state", "_law_one", "_law_many"] (defScope s_law_refusals_hold) := ⟨rfl, rfl, rfl, by decide +kernel, rfl, by decide +kernel, by decide +kernel⟩
theorem sc_Day_eq : FnScope ["self", "other"] ["self", "other"] (defScope s_Day_eq) := ⟨rfl, rfl, rfl, by decide +kernel, rfl, by decide +kernel, by decide +kernel⟩
theorem sc_Day_add : FnScope ["self", "units", "rain", "value"] ["self", "units"] (defScope s_Day_add) := ⟨rfl, rfl, rfl, by decide +kernel, rfl, by decide +kernel, by decide +kernel⟩
theorem sc_law_sum : FnScope ["_law_day", "_law_units", "e"] ["_law_day", "_law_units"] (defScope s_law_sum) := ⟨rfl, rfl, rfl, by decide +kernel, rfl, by decide +kernel, by decide +kernel⟩
theorem sc_law_sums_hold : FnScope ["_law_script", "_law_state", "_law_a", "_law_one", "_law_units", "_law_told", "_law_more", "_law_value"] ["_law_script", "_law_state", "_law_a", "_law_one"] (defScope s_law_sums_hold) := ⟨rfl, rfl, rfl, by decide +kernel, rfl, by decide +kernel, by decide +kernel⟩
theorem sc_at_least : FnScope ["more", "less", "at", "value"] ["more", "less"] (defScope s_at_least) := ⟨rfl, rfl, rfl, by decide +kernel, rfl, by decide +kernel, by decide +kernel⟩
theorem sc_Day_le : FnScope ["self", "other"] ["self", "other"] (defScope s_Day_le) := ⟨rfl, rfl, rfl, by decide +kernel, rfl, by decide +kernel, by decide +kernel⟩
theorem sc_law_harsher : FnScope ["_law_one", "_law_two", "_law_at", "_law_units"] ["_law_one", "_law_two"] (defScope s_law_harsher) := ⟨rfl, rfl, rfl, by decide +kernel, rfl, by decide +kernel, by decide +kernel⟩
theorem sc_law : FnScope ["_law_script", "_law_state", "_law_many", "_law_one", "_law_two", "_law_dry", "_law_rain", "_law_a", "_law_b"] ["_law_script"] (defScope s_law) := ⟨rfl, rfl, rfl, by decide +kernel, rfl, by decide +kernel, by decide +kernel⟩
/-! ### mirrors -/
def m_law_start : SM := (sSeq (sSet 1 [] (mV (eC (.int 0))))
    (sSeq (sIf [] (tV (ev2 (dI gGt) (cV (un1 gLen) (aCons (eVar 0) aNil)) (eC (.int 0)))) (sSet 1 [] (mV (vS dIx (eVar 0) (eC (.int 0))))) sNil)
    (sRet [] (mLst (lCons (mV (cV (un1 gAbs) (aCons (cV (un1 gInt) (aCons (eVar 1) aNil)) aNil))) (lCons (mV (cV (un1 gInt) (aCons (ev2 (dI gGe) (cV (un1 gAbs) (aCons (cV (un1 gInt) (aCons (eVar 1) aNil)) aNil)) (ev2 (dI gPow) (eC (.int 10)) (eC (.int 18)))) aNil))) (lCons (mV (eC (.int 1))) (lCons (mV (eC (.int 0))) lNil))))))))
def f_law_start : FM := bodyM 1 2 m_law_start
def m_law_draw : SM := (sSeq (sSto [] (mV (vNw dAdd (vS dIx (eVar 1) (eC (.int 3))) (eC (.int 1)))) 1 3)
    (sSeq (sIf [] (tAn (tV (ev2 dEq (vS dIx (eVar 1) (eC (.int 1))) (eC (.int 1)))) (tV (ev2 (dI gGt) (vS dIx (eVar 1) (eC (.int 0))) (eC (.int 0))))) (sSeq (sSet 3 [] (mV (ev2 (dI gMod) (cV (un1 gInt) (aCons (vS dIx (eVar 1) (eC (.int 0))) aNil)) (eVar 2))))
    (sSeq (sSto [] (mV (ev2 (dI gDiv) (vS dIx (eVar 1) (eC (.int 0))) (eVar 2))) 1 0)
    (sRet [] (mV (eVar 3))))) sNil)
    (sSeq (sSto [] (mV (eC (.int 0))) 1 1)
    (sSeq (sSet 4 [] (mV (eC (.int 0))))
    (sSeq (sIf [] (tV (ev2 (dI gGt) (cV (un1 gLen) (aCons (eVar 0) aNil)) (eC (.int 0)))) (sSet 4 [] (mV (vS dIx (eVar 0) (ev2 (dI gMod) (cV (un1 gInt) (aCons (vS dIx (eVar 1) (eC (.int 2))) aNil)) (cV (un1 gLen) (aCons (eVar 0) aNil)))))) sNil)
    (sSeq (sSto [] (mV (vNw dAdd (vS dIx (eVar 1) (eC (.int 2))) (eC (.int 1)))) 1 2)
    (sSeq (sSet 5 [] (mV (vNw dMul (ev2 (dI gMod) (cV (un1 gInt) (aCons (vS dIx (eVar 1) (eC (.int 0))) aNil)) (eC (.int 2147483647))) (eC (.int 48271)))))
    (sSeq (sSet 5 [] (mV (vNw dAdd (vNw dAdd (vNw dAdd (eVar 5) (ev2 (dI gMod) (cV (un1 gInt) (aCons (eVar 4) aNil)) (eC (.int 2147483629)))) (vNw dMul (eC (.int 7)) (vS dIx (eVar 1) (eC (.int 3))))) (eC (.int 11)))))
    (sSeq (sSto [] (mV (ev2 (dI gMod) (cV (un1 gInt) (aCons (eVar 5) aNil)) (eC (.int 2147483647)))) 1 0)
    (sSeq (sSet 5 [] (mV (ev2 (dI gMod) (cV (un1 gInt) (aCons (vNw dAdd (vNw dMul (vS dIx (eVar 1) (eC (.int 0))) (eC (.int 69621))) (vS dIx (eVar 1) (eC (.int 3)))) aNil)) (eC (.int 2147483629)))))
    (sRet [] (mV (ev2 (dI gMod) (cV (un1 gInt) (aCons (ev2 (dI gDiv) (eVar 5) (eC (.int 13))) aNil)) (eVar 2))))))))))))))
def f_law_draw : FM := bodyM 3 6 m_law_draw
def m_law_parts : SM := (sSeq (sSet 3 [] (mV (vM (lcM [5] (DL.iRng1 (aCons (eVar 2) aNil)) (gNm 5) tT (callM 3 f_law_draw (aCons (eVar 0) (aCons (eVar 1) (aCons (eC (.int 9)) aNil))))))))
    (sSeq (sSet 4 [] (mV (vM (lcM [5] (DL.iRng1 (aCons (eVar 2) aNil)) (gNm 5) tT (callM 3 f_law_draw (aCons (eVar 0) (aCons (eVar 1) (aCons (eC (.int 9)) aNil))))))))
    (sRet [] (mLst (lCons (mV (eVar 3)) (lCons (mV (eVar 4)) (lCons (callM 3 f_law_draw (aCons (eVar 0) (aCons (eVar 1) (aCons (eC (.int 9)) aNil)))) (lCons (callM 3 f_law_draw (aCons (eVar 0) (aCons (eVar 1) (aCons (eC (.int 4)) aNil)))) lNil))))))))
def f_law_parts : FM := bodyM 3 6 m_law_parts
def m_law_near : SM := (sRet [] (mV (vS dIx (vM (mLst (lCons (mV (eVar 0)) (lCons (mV (cV (un1 gAbs) (aCons (ev2 (dI DL.gSub) (eVar 0) (eC (.int 1))) aNil))) (lCons (mV (ev2 (dI DL.gSub) (eC (.int 7)) (cV (un1 gAbs) (aCons (ev2 (dI DL.gSub) (ev2 (dI DL.gSub) (eC (.int 7)) (eVar 0)) (eC (.int 1))) aNil)))) lNil))))) (eVar 1))))
def f_law_near : FM := bodyM 2 2 m_law_near
def m_law_other : SM := (sSeq (sSet 4 [] (mLst (lCons (cN (un1 gList) (aCons (vS dIx (eVar 2) (eC (.int 0))) aNil)) (lCons (cN (un1 gList) (aCons (vS dIx (eVar 2) (eC (.int 1))) aNil)) (lCons (mV (vS dIx (eVar 2) (eC (.int 2)))) (lCons (mV (vS dIx (eVar 2) (eC (.int 3)))) lNil))))))
    (sSeq (sWith 4 0 (sWith 4 1 (sFor true [] (DL.iRng1 (aCons (vM (callM 3 f_law_draw (aCons (eVar 0) (aCons (eVar 1) (aCons (eC (.int 4)) aNil))))) aNil)) (gOne 5) (sSeq (sSet 6 [4] (mV (vS dIx (eVar 4) (vM (callM 3 f_law_draw (aCons (eVar 0) (aCons (eVar 1) (aCons (eC (.int 2)) aNil))))))))
    (sSeq (sSet 7 [] (mV (vM (callM 3 f_law_draw (aCons (eVar 0) (aCons (eVar 1) (aCons (eVar 3) aNil)))))))
    (sStoQ [] (callM 2 f_law_near (aCons (vS dIx (eVar 6) (eVar 7)) (aCons (vM (callM 3 f_law_draw (aCons (eVar 0) (aCons (eVar 1) (aCons (eC (.int 3)) aNil))))) aNil))) 6 (qVar 7)))))))
    (sSeq (sSetP [4] 4 ptNil (qInt 2) (callM 2 f_law_near (aCons (vS dIx (eVar 4) (eC (.int 2))) (aCons (vM (callM 3 f_law_draw (aCons (eVar 0) (aCons (eVar 1) (aCons (eC (.int 3)) aNil))))) aNil))))
    (sSeq (sIf [] (tV (ev2 dEq (vM (callM 3 f_law_draw (aCons (eVar 0) (aCons (eVar 1) (aCons (eC (.int 5)) aNil))))) (eC (.int 0)))) (sSeq (sSet 4 [4] (mLst (lCons (eN dAdd (vS dIx (eVar 4) (eC (.int 0))) (vM (mLst (lCons (mV (eC (.int 0))) lNil)))) (lCons (eN dAdd (vS dIx (eVar 4) (eC (.int 1))) (vM (mLst (lCons (mV (eC (.int 0))) lNil)))) (lCons (mV (vS dIx (eVar 4) (eC (.int 2)))) (lCons (mV (vS dIx (eVar 4) (eC (.int 3)))) lNil))))))
    (sSet 4 [4] (mLst (lCons (slN (vS dIx (eVar 4) (eC (.int 0))) oNo (oSome (eC (.int 4)))) (lCons (slN (vS dIx (eVar 4) (eC (.int 1))) oNo (oSome (eC (.int 4)))) (lCons (mV (vS dIx (eVar 4) (eC (.int 2)))) (lCons (mV (ev2 (dI gMod) (cV (un1 gInt) (aCons (vNw dAdd (vS dIx (eVar 2) (eC (.int 3))) (vM (callM 3 f_law_draw (aCons (eVar 0) (aCons (eVar 1) (aCons (eC (.int 2)) aNil)))))) aNil)) (eC (.int 4)))) lNil))))))) sNil)
    (sRetO 4)))))
def f_law_other : FM := bodyM 4 8 m_law_other
def m_is_integer : SM := (sRet [] (mV (vAn (ev1 (dIsi (tabT [.int, .bl])) (eVar 0)) (vN (ev1 (dIsi (tabT [.bl])) (eVar 0))))))
def f_is_integer : FM := bodyM 1 1 m_is_integer
def m_check_number : SM := (sSeq (sIf [] (tOn (tN (tV (vM (callM 1 f_is_integer (aCons (eVar 1) aNil))))) (tOn (tV (ev2 (dI gLt) (eVar 1) (eVar 2))) (tV (ev2 (dI gGt) (eVar 1) (eVar 3))))) (sRaise [] (excM 1 ["what", "value"] (aCons (eVar 0) (aCons (eVar 1) aNil)))) sNil)
    (sRet [] (mV (eVar 1))))
def f_check_number : FM := bodyM 4 4 m_check_number
def m_Day_init : SM := (sSeq (sDrop [] (callM 4 f_check_number (aCons (eC (.str "plots")) (aCons (cV (un1 gLen) (aCons (eVar 1) aNil)) (aCons (eC (.int 1)) (aCons (eC (.int 4)) aNil))))))
    (sSeq (sFor false [] (iSeq (eVar 1)) (gOne 5) (sDrop [] (callM 4 f_check_number (aCons (eC (.str "dry")) (aCons (eVar 5) (aCons (eC (.int 0)) (aCons (eC (.int 8)) aNil)))))))
    (sSeq (sDrop [] (callM 4 f_check_number (aCons (eC (.str "plots")) (aCons (cV (un1 gLen) (aCons (eVar 2) aNil)) (aCons (cV (un1 gLen) (aCons (eVar 1) aNil)) (aCons (cV (un1 gLen) (aCons (eVar 1) aNil)) aNil))))))
    (sSeq (sFor false [] (iSeq (eVar 2)) (gOne 5) (sDrop [] (callM 4 f_check_number (aCons (eC (.str "rain")) (aCons (eVar 5) (aCons (eC (.int 0)) (aCons (eC (.int 8)) aNil)))))))
    (sSeq (sSelf [] 0 2 "dry" (cV (un1 gTuple) (aCons (eVar 1) aNil)))
    (sSeq (sSelf [] 0 2 "rain" (cV (un1 gTuple) (aCons (eVar 2) aNil)))
    (sSeq (sSelf [] 0 2 "fill" (vM (callM 4 f_check_number (aCons (eC (.str "fill")) (aCons (eVar 3) (aCons (eC (.int 0)) (aCons (eC (.int 8)) aNil)))))))
    (sSelf [] 0 2 "mood" (vM (callM 4 f_check_number (aCons (eC (.str "mood")) (aCons (eVar 4) (aCons (eC (.int 0)) (aCons (eC (.int 3)) aNil))))))))))))))
def f_Day_init : FM := bodyM 5 6 m_Day_init
def m_law_refusal : SM := (sSeq (sTry (sDrop [] (mkM 2 5 f_Day_init (aCons (eVar 0) (aCons (eVar 1) (aCons (eVar 2) (aCons (eVar 3) aNil)))))) (⟨[1], [1], some 4, (sRet [] (mTup (lCons (mV (ev1 (dFld [] [1] "what") (eVar 4))) (lCons (mV (ev1 (dFld [] [1] "value") (eVar 4))) lNil))))⟩ :: []))
    (sRet [] (mTup (lCons (mV (eC (.str "none"))) (lCons (mV (eC (.int 0))) lNil)))))
def f_law_refusal : FM := bodyM 4 5 m_law_refusal
def m_law_refusals_hold : SM := (sSeq (sSet 4 [] (mV (vM (callM 3 f_law_draw (aCons (eVar 0) (aCons (eVar 1) (aCons (eVar 3) aNil)))))))
    (sSeq (sSet 5 [] (mV (vS dIx (vM (mLst (lCons (mV (ev1 gNeg (eC (.int 1)))) (lCons (mV (eC (.int 9))) (lCons (mV (ev2 (dI gPow) (eC (.int 10)) (eC (.int 20)))) (lCons (mV (eC (.bl true))) lNil)))))) (vM (callM 3 f_law_draw (aCons (eVar 0) (aCons (eVar 1) (aCons (eC (.int 4)) aNil))))))))
    (sSeq (sSet 6 [] (mV (vM (eN dAdd (vNw dAdd (vM (slN (vS dIx (eVar 2) (eC (.int 0))) oNo (oSome (eVar 4)))) (vM (mLst (lCons (mV (eVar 5)) lNil)))) (vM (slN (vS dIx (eVar 2) (eC (.int 0))) (oSome (vNw dAdd (eVar 4) (eC (.int 1)))) oNo))))))
    (sSeq (sSet 7 [] (mV (vM (eN dAdd (vNw dAdd (vM (slN (vS dIx (eVar 2) (eC (.int 1))) oNo (oSome (eVar 4)))) (vM (mLst (lCons (mV (eVar 5)) lNil)))) (vM (slN (vS dIx (eVar 2) (eC (.int 1))) (oSome (vNw dAdd (eVar 4) (eC (.int 1)))) oNo))))))
    (sSeq (sIf [] (tV (ev2 dNe (vM (callM 4 f_law_refusal (aCons (eVar 6) (aCons (vNw dAdd (vS dIx (eVar 2) (eC (.int 1))) (vM (mLst (lCons (mV (eC (.int 0))) lNil)))) (aCons (eC (.int 9)) (aCons (eC (.int 9)) aNil)))))) (vM (mTup (lCons (mV (eC (.str "dry"))) (lCons (mV (eVar 5)) lNil)))))) (sRet [] (mV (eC (.bl false)))) sNil)
    (sSeq (sIf [] (tV (ev2 dNe (vM (callM 4 f_law_refusal (aCons (vS dIx (eVar 2) (eC (.int 0))) (aCons (eVar 7) (aCons (eC (.int 9)) (aCons (eC (.int 4)) aNil)))))) (vM (mTup (lCons (mV (eC (.str "rain"))) (lCons (mV (eVar 5)) lNil)))))) (sRet [] (mV (eC (.bl false)))) sNil)
    (sSeq (sIf [] (tV (ev2 dNe (vM (callM 4 f_law_refusal (aCons (vS dIx (eVar 2) (eC (.int 0))) (aCons (vNw dAdd (eVar 7) (vM (mLst (lCons (mV (eC (.int 0))) lNil)))) (aCons (eC (.int 9)) (aCons (eC (.int 9)) aNil)))))) (vM (mTup (lCons (mV (eC (.str "plots"))) (lCons (mV (vNw dAdd (eVar 3) (eC (.int 1)))) lNil)))))) (sRet [] (mV (eC (.bl false)))) sNil)
    (sSeq (sIf [] (tOn (tV (ev2 dNe (vM (callM 4 f_law_refusal (aCons (vM (mLst lNil)) (aCons (vM (mLst lNil)) (aCons (eC (.int 9)) (aCons (eC (.int 9)) aNil)))))) (vM (mTup (lCons (mV (eC (.str "plots"))) (lCons (mV (eC (.int 0))) lNil)))))) (tV (ev2 dNe (vM (callM 4 f_law_refusal (aCons (vNw dMul (vM (mLst (lCons (mV (eC (.int 1))) lNil))) (eC (.int 5))) (aCons (vNw dMul (vM (mLst (lCons (mV (eC (.int 1))) lNil))) (eC (.int 5))) (aCons (eC (.int 0)) (aCons (eC (.int 0)) aNil)))))) (vM (mTup (lCons (mV (eC (.str "plots"))) (lCons (mV (eC (.int 5))) lNil))))))) (sRet [] (mV (eC (.bl false)))) sNil)
    (sSeq (sIf [] (tV (ev2 dNe (vM (callM 4 f_law_refusal (aCons (vS dIx (eVar 2) (eC (.int 0))) (aCons (vS dIx (eVar 2) (eC (.int 1))) (aCons (eVar 5) (aCons (eC (.int 4)) aNil)))))) (vM (mTup (lCons (mV (eC (.str "fill"))) (lCons (mV (eVar 5)) lNil)))))) (sRet [] (mV (eC (.bl false)))) sNil)
    (sSeq (sIf [] (tV (ev2 dNe (vM (callM 4 f_law_refusal (aCons (vS dIx (eVar 2) (eC (.int 0))) (aCons (vS dIx (eVar 2) (eC (.int 1))) (aCons (eC (.int 8)) (aCons (eC (.int 4)) aNil)))))) (vM (mTup (lCons (mV (eC (.str "mood"))) (lCons (mV (eC (.int 4))) lNil)))))) (sRet [] (mV (eC (.bl false)))) sNil)
    (sRet [] (mV (ev2 dEq (vM (callM 4 f_law_refusal (aCons (vS dIx (eVar 2) (eC (.int 0))) (aCons (vS dIx (eVar 2) (eC (.int 1))) (aCons (eC (.int 0)) (aCons (eC (.int 3)) aNil)))))) (vM (mTup (lCons (mV (eC (.str "none"))) (lCons (mV (eC (.int 0))) lNil)))))))))))))))))
def f_law_refusals_hold : FM := bodyM 4 8 m_law_refusals_hold
def m_Day_eq : SM := (sSeq (sIf [] (tN (tV (ev1 (dIsi (tabC [(2, true)] [(1, false)])) (eVar 1)))) sStuck sNil)
    (sSeq (sIf [] (tOn (tV (ev2 dNe (ev1 (dFld [2] [] "dry") (eVar 0)) (ev1 (dFld [2] [] "dry") (eVar 1)))) (tV (ev2 dNe (ev1 (dFld [2] [] "rain") (eVar 0)) (ev1 (dFld [2] [] "rain") (eVar 1))))) (sRet [] (mV (eC (.bl false)))) sNil)
    (sRet [] (mV (vAn (ev2 dEq (ev1 (dFld [2] [] "fill") (eVar 0)) (ev1 (dFld [2] [] "fill") (eVar 1))) (ev2 dEq (ev1 (dFld [2] [] "mood") (eVar 0)) (ev1 (dFld [2] [] "mood") (eVar 1))))))))
def f_Day_eq : FM := bodyM 2 2 m_Day_eq
def m_Day_add : SM := (sSeq (sDrop [] (callM 4 f_check_number (aCons (eC (.str "units")) (aCons (eVar 1) (aCons (eC (.int 0)) (aCons (eC (.int 8)) aNil))))))
    (sSeq (sSet 2 [] (mV (vM (lcM [3] (iSeq (ev1 (dFld [2] [] "rain") (eVar 0))) (gNm 3) tT (mV (cV (bi2 gMin2) (aCons (eC (.int 8)) (aCons (cV (un1 gInt) (aCons (vNw dAdd (eVar 3) (eVar 1)) aNil)) aNil))))))))
    (sRet [] (mkM 2 5 f_Day_init (aCons (ev1 (dFld [2] [] "dry") (eVar 0)) (aCons (eVar 2) (aCons (ev1 (dFld [2] [] "fill") (eVar 0)) (aCons (ev1 (dFld [2] [] "mood") (eVar 0)) aNil))))))))
def f_Day_add : FM := bodyM 2 4 m_Day_add
def m_law_sum : SM := (sTry (sRet [] (opO [(2, f_Day_add)] okArg (fun _ => dAdd) (eVar 0) (eVar 1))) (⟨[1], [1], some 2, (sRet [] (mTup (lCons (mV (ev1 (dFld [] [1] "what") (eVar 2))) (lCons (mV (ev1 (dFld [] [1] "value") (eVar 2))) lNil))))⟩ :: []))
def f_law_sum : FM := bodyM 2 3 m_law_sum
def m_law_sums_hold : SM := (sSeq (sSet 4 [] (mV (ev2 (dI DL.gSub) (vM (callM 3 f_law_draw (aCons (eVar 0) (aCons (eVar 1) (aCons (eC (.int 11)) aNil))))) (eC (.int 1)))))
    (sSeq (sSet 5 [] (mV (vM (callM 2 f_law_sum (aCons (eVar 2) (aCons (eVar 4) aNil))))))
    (sSeq (sIf [] (tOn (tV (ev2 (dI gLt) (eVar 4) (eC (.int 0)))) (tV (ev2 (dI gGt) (eVar 4) (eC (.int 8))))) (sRet [] (mV (ev2 dEq (eVar 5) (vM (mTup (lCons (mV (eC (.str "units"))) (lCons (mV (eVar 4)) lNil))))))) sNil)
    (sSeq (sSet 6 [] (mV (vM (lcM [7] (iSeq (vS dIx (eVar 3) (eC (.int 1)))) (gNm 7) tT (mV (cV (bi2 gMin2) (aCons (eC (.int 8)) (aCons (cV (un1 gInt) (aCons (vNw dAdd (eVar 7) (eVar 4)) aNil)) aNil))))))))
    (sRet [] (mV (vAn (evW [(2, f_Day_eq)] false dEq (eVar 5) (vM (mkM 2 5 f_Day_init (aCons (vS dIx (eVar 3) (eC (.int 0))) (aCons (eVar 6) (aCons (vS dIx (eVar 3) (eC (.int 2))) (aCons (vS dIx (eVar 3) (eC (.int 3))) aNil))))))) (ev2 dEq (ev1 (dFld [2] [] "rain") (eVar 2)) (cV (un1 gTuple) (aCons (vS dIx (eVar 3) (eC (.int 1))) aNil))))))))))
def f_law_sums_hold : FM := bodyM 4 8 m_law_sums_hold
def m_at_least : SM := (sSeq (sFor false [] (iEn (aCons (eVar 1) aNil)) (gTp 2 (gsCons (gOne 2) (gsCons (gOne 3) gsNil))) (sIf [] (tV (ev2 (dI gLt) (vS dIx (eVar 0) (eVar 2)) (eVar 3))) (sRet [] (mV (eC (.bl false)))) sNil))
    (sRet [] (mV (eC (.bl true)))))
def f_at_least : FM := bodyM 2 4 m_at_least
def m_Day_le : SM := (sSeq (sIf [] (tN (tV (ev1 (dIsi (tabC [(2, true)] [(1, false)])) (eVar 1)))) sStuck sNil)
    (sSeq (sIf [] (tOn (tV (ev2 dNe (cV (un1 gLen) (aCons (ev1 (dFld [2] [] "dry") (eVar 0)) aNil)) (cV (un1 gLen) (aCons (ev1 (dFld [2] [] "dry") (eVar 1)) aNil)))) (tV (ev2 dNe (ev1 (dFld [2] [] "mood") (eVar 0)) (ev1 (dFld [2] [] "mood") (eVar 1))))) (sRet [] (mV (eC (.bl false)))) sNil)
    (sSeq (sIf [] (tOn (tN (tV (vM (callM 2 f_at_least (aCons (ev1 (dFld [2] [] "dry") (eVar 0)) (aCons (ev1 (dFld [2] [] "dry") (eVar 1)) aNil)))))) (tN (tV (vM (callM 2 f_at_least (aCons (ev1 (dFld [2] [] "rain") (eVar 1)) (aCons (ev1 (dFld [2] [] "rain") (eVar 0)) aNil))))))) (sRet [] (mV (eC (.bl false)))) sNil)
    (sRet [] (mV (ev2 (dI gLe) (ev1 (dFld [2] [] "fill") (eVar 0)) (ev1 (dFld [2] [] "fill") (eVar 1))))))))
def f_Day_le : FM := bodyM 2 2 m_Day_le
def m_law_harsher : SM := (sSeq (sIf [] (tOn (tV (ev2 dNe (cV (un1 gLen) (aCons (vS dIx (eVar 0) (eC (.int 0))) aNil)) (cV (un1 gLen) (aCons (vS dIx (eVar 1) (eC (.int 0))) aNil)))) (tOn (tV (evW [(2, f_Day_eq)] true dNe (vS dIx (eVar 0) (eC (.int 3))) (vS dIx (eVar 1) (eC (.int 3))))) (tV (ev2 (dI gGt) (vS dIx (eVar 0) (eC (.int 2))) (vS dIx (eVar 1) (eC (.int 2))))))) (sRet [] (mV (eC (.bl false)))) sNil)
    (sSeq (sFor false [] (iEn (aCons (vS dIx (eVar 0) (eC (.int 0))) aNil)) (gTp 2 (gsCons (gOne 2) (gsCons (gOne 3) gsNil))) (sIf [] (tOn (tV (ev2 (dI gLt) (eVar 3) (vS dIx (vS dIx (eVar 1) (eC (.int 0))) (eVar 2)))) (tV (ev2 (dI gGt) (vS dIx (vS dIx (eVar 0) (eC (.int 1))) (eVar 2)) (vS dIx (vS dIx (eVar 1) (eC (.int 1))) (eVar 2))))) (sRet [] (mV (eC (.bl false)))) sNil))
    (sRet [] (mV (eC (.bl true))))))
def f_law_harsher : FM := bodyM 2 4 m_law_harsher
def m_law : SM := (mLaw 1 (sSet 1 [] (callM 1 f_law_start (aCons (eVar 0) aNil)))
    (sSeq (sSet 2 [] (mV (vNw dAdd (eC (.int 1)) (vM (callM 3 f_law_draw (aCons (eVar 0) (aCons (eVar 1) (aCons (eC (.int 4)) aNil))))))))
    (sSeq (sSet 3 [] (mV (vM (callM 3 f_law_parts (aCons (eVar 0) (aCons (eVar 1) (aCons (eVar 2) aNil)))))))
    (sSeq (sSet 4 [] (mV (vM (callM 4 f_law_other (aCons (eVar 0) (aCons (eVar 1) (aCons (eVar 3) (aCons (eVar 2) aNil))))))))
    (sSeq (sSet 5 [] (cN (un1 gList) (aCons (vS dIx (eVar 3) (eC (.int 0))) aNil)))
    (sSeq (sSet 6 [] (cN (un1 gList) (aCons (vS dIx (eVar 3) (eC (.int 1))) aNil)))
    (sSeq (sSet 7 [5, 6] (mV (vM (mkM 2 5 f_Day_init (aCons (eVar 5) (aCons (eVar 6) (aCons (vS dIx (eVar 3) (eC (.int 2))) (aCons (vS dIx (eVar 3) (eC (.int 3))) aNil))))))))
    (sSeq (sSet 8 [] (mV (vM (mkM 2 5 f_Day_init (aCons (cV (un1 gTuple) (aCons (vS dIx (eVar 4) (eC (.int 0))) aNil)) (aCons (cV (un1 gTuple) (aCons (vS dIx (eVar 4) (eC (.int 1))) aNil)) (aCons (vS dIx (eVar 4) (eC (.int 2))) (aCons (vS dIx (eVar 4) (eC (.int 3))) aNil))))))))
    (sSeq (sIf [5, 6] (tOn (tV (evW [(2, f_Day_eq)] true dNe (eVar 5) (vS dIx (eVar 3) (eC (.int 0))))) (tV (evW [(2, f_Day_eq)] true dNe (eVar 6) (vS dIx (eVar 3) (eC (.int 1)))))) (sRet [] (mV (eC (.bl false)))) sNil)
    (sSeq (sSetP [] 5 ptNil (qInt 0) (mV (eC (.int 9))))
    (sSeq (sSetP [] 6 ptNil (fun δ => ((qInt 1) δ).map fun i => -i) (mV (eC (.int 9))))
    (sSeq (sIf [] (tV (ev2 dNe (vM (mTup (lCons (mV (ev1 (dFld [2] [] "dry") (eVar 7))) (lCons (mV (ev1 (dFld [2] [] "rain") (eVar 7))) (lCons (mV (ev1 (dFld [2] [] "fill") (eVar 7))) (lCons (mV (ev1 (dFld [2] [] "mood") (eVar 7))) lNil)))))) (vM (mTup (lCons (mV (cV (un1 gTuple) (aCons (vS dIx (eVar 3) (eC (.int 0))) aNil))) (lCons (mV (cV (un1 gTuple) (aCons (vS dIx (eVar 3) (eC (.int 1))) aNil))) (lCons (mV (vS dIx (eVar 3) (eC (.int 2)))) (lCons (mV (vS dIx (eVar 3) (eC (.int 3)))) lNil)))))))) (sRet [] (mV (eC (.bl false)))) sNil)
    (sSeq (sIf [] (tOn (tV (ev2 dNe (evW [(2, f_Day_eq)] false dEq (eVar 7) (eVar 8)) (evW [(2, f_Day_eq)] false dEq (eVar 3) (eVar 4)))) (tV (ev2 dNe (evW [(2, f_Day_eq)] true dNe (eVar 7) (eVar 8)) (evW [(2, f_Day_eq)] true dNe (eVar 3) (eVar 4))))) (sRet [] (mV (eC (.bl false)))) sNil)
    (sSeq (sIf [] (tOn (tV (ev2 dNe (evW [(2, f_Day_le)] false (dI gLe) (eVar 7) (eVar 8)) (vM (callM 2 f_law_harsher (aCons (eVar 3) (aCons (eVar 4) aNil)))))) (tV (ev2 dNe (evW [(2, f_Day_le)] false (dI gLe) (eVar 8) (eVar 7)) (vM (callM 2 f_law_harsher (aCons (eVar 4) (aCons (eVar 3) aNil))))))) (sRet [] (mV (eC (.bl false)))) sNil)
    (sSeq (sIf [] (tN (tV (vM (callM 4 f_law_sums_hold (aCons (eVar 0) (aCons (eVar 1) (aCons (eVar 7) (aCons (eVar 3) aNil)))))))) (sRet [] (mV (eC (.bl false)))) sNil)
    (sRet [] (callM 4 f_law_refusals_hold (aCons (eVar 0) (aCons (eVar 1) (aCons (eVar 3) (aCons (eVar 2) aNil)))))))))))))))))))))
def f_law : FM := bodyM 1 9 m_law

/-! ### the mathematics -/
theorem start_is : f_law_start = DL.f_start := rfl
theorem draw_is : f_law_draw = DL.f_draw := rfl
theorem num_is : f_check_number = DL.g_num 1 := rfl
theorem init_is : f_Day_init = DL.g_dyInit 1 2 := rfl
theorem eq_is : f_Day_eq = DL.g_dyEq 2 (tabC [(2, true)] [(1, false)]) := rfl
theorem le_is : f_Day_le = DL.g_dyLe 2 (tabC [(2, true)] [(1, false)]) := rfl
theorem add_is : f_Day_add = DL.g_dyAdd 1 2 := rfl
theorem draw_at (ns : List Int) {lim : Int} (h : 0 < lim) (h2 : lim < 1073741824) {a : Sto} (ha : St4 a) : ∃ (r : Int) (a' : Sto), 0 ≤ r ∧ r < lim ∧ f_law_draw [.scr ns, .loc 0, .int lim] a = .ok (.val (.int r)) a' ∧ St4 a' := by
  rw [draw_is]
  exact draw4 ns h h2 ha
def rowD (x : Dy) : D := .lst [.lst (x.dry.map D.int), .lst (x.rain.map D.int), .int x.fill, .int x.mood]
theorem ix4 {α : Type} (x y z u : α) : L2.atI [x, y, z, u] 0 = some x ∧ L2.atI [x, y, z, u] 1 = some y ∧ L2.atI [x, y, z, u] 2 = some z ∧ L2.atI [x, y, z, u] 3 = some u := by simp [L2.atI, ixN]
theorem row_at (x : Dy) (a : Sto) : dIx a (rowD x) (.int 0) = some (.val (.lst (x.dry.map D.int))) ∧ dIx a (rowD x) (.int 1) = some (.val (.lst (x.rain.map D.int))) ∧ dIx a (rowD x) (.int 2) = some (.val (.int x.fill)) ∧ dIx a (rowD x) (.int 3) = some (.val (.int x.mood)) := by
  obtain ⟨i0, i1, i2, i3⟩ := ix4 (D.lst (x.dry.map D.int)) (.lst (x.rain.map D.int)) (.int x.fill) (.int x.mood)
  refine ⟨?_, ?_, ?_, ?_⟩
  · rw [rowD, r_ixLst, i0]; rfl
  · rw [rowD, r_ixLst, i1]; rfl
  · rw [rowD, r_ixLst, i2]; rfl
  · rw [rowD, r_ixLst, i3]; rfl
def pt_1 : SM := (sSet 3 [] (mV (vM (lcM [5] (DL.iRng1 (aCons (eVar 2) aNil)) (gNm 5) tT (callM 3 f_law_draw (aCons (eVar 0) (aCons (eVar 1) (aCons (eC (.int 9)) aNil))))))))
def pt_2 : SM := (sSet 4 [] (mV (vM (lcM [5] (DL.iRng1 (aCons (eVar 2) aNil)) (gNm 5) tT (callM 3 f_law_draw (aCons (eVar 0) (aCons (eVar 1) (aCons (eC (.int 9)) aNil))))))))
def pt_3 : SM := (sRet [] (mLst (lCons (mV (eVar 3)) (lCons (mV (eVar 4)) (lCons (callM 3 f_law_draw (aCons (eVar 0) (aCons (eVar 1) (aCons (eC (.int 9)) aNil)))) (lCons (callM 3 f_law_draw (aCons (eVar 0) (aCons (eVar 1) (aCons (eC (.int 4)) aNil)))) lNil))))))
theorem pt_is : m_law_parts = (sSeq pt_1 (sSeq pt_2 pt_3)) := rfl
theorem lst_lc (ns : List Int) (many : Nat) (row : D) (o3 : Option D) {a : Sto} (ha : St4 a) (hm : many ≤ 4) :
    ∃ (ls : List Int) (a' : Sto), lcGo (gNm 5) tT (callM 3 f_law_draw (aCons (eVar 0) (aCons (eVar 1) (aCons (eC (.int 9)) aNil)))) [some (.scr ns), some (.loc 0), some row, o3, none, none] (rngL 0 many) [] a = .ok (ls.map fun i => M.val (.int i)) a' ∧ ls.length = many ∧ (∀ i ∈ ls, 0 ≤ i ∧ i ≤ 8) ∧ St4 a' := by
  obtain ⟨ls, a2, e2, hl, hd, s2⟩ := lc_draws (gt := gNm 5) (fe := callM 3 f_law_draw (aCons (eVar 0) (aCons (eVar 1) (aCons (eC (.int 9)) aNil)))) (δ := [some (.scr ns), some (.loc 0), some row, o3, none, none]) (ds := rngL 0 many) (a := a) (lo := 0) (hi := 9) ha (by simp [rngL]; omega) (fun d _ => by
    refine ⟨_, rfl, fun a ha => ?_⟩
    obtain ⟨r, a', h0, h1, e', s'⟩ := draw_at ns (lim := 9) (by decide) (by decide) ha
    exact ⟨r, a', h0, h1, by simp [e'], s'⟩)
  exact ⟨ls, a2, e2, by rw [hl]; simp [rngL], fun i hi => by have := hd i hi; omega, s2⟩
theorem parts_ok (ns : List Int) {many : Nat} (h1 : 1 ≤ many) (h4 : many ≤ 4) {a : Sto} (ha : St4 a) : ∃ (x : Dy) (m : M) (a' : Sto), x.Ok ∧ x.dry.length = many ∧ f_law_parts [.scr ns, .loc 0, .int many] a = .ok m a' ∧ freeze m = rowD x ∧ St4 a' := by
  have rg := rng_e (j := (many : Int)) (by omega) (by omega)
  rw [Int.toNat_natCast] at rg
  obtain ⟨ls, a1, e1, l1, b1, s1⟩ := lst_lc ns many (.int many) none ha h4
  obtain ⟨rs, a2, e2, l2, b2, s2⟩ := lst_lc ns many (.int many) (some (.lst (ls.map D.int))) s1 h4
  obtain ⟨f, a3, f0, f1, e3, s3⟩ := draw_at ns (lim := 9) (by decide) (by decide) s2
  obtain ⟨m, a4, m0, m1, e4, s4⟩ := draw_at ns (lim := 4) (by decide) (by decide) s3
  have fz1 := freezes_ints ls
  have fz2 := freezes_ints rs
  have q1 : pt_1 [some (.val (.scr ns)), some (.val (.loc 0)), some (.val (.int many)), none, none, none] a = .nx [some (.val (.scr ns)), some (.val (.loc 0)), some (.val (.int many)), some (.val (.lst (ls.map D.int))), none, none] a1 := by
    unfold pt_1
    simp [rg, wipeD, e1, freeze, fz1, put_e]
  have q2 : pt_2 [some (.val (.scr ns)), some (.val (.loc 0)), some (.val (.int many)), some (.val (.lst (ls.map D.int))), none, none] a1 = .nx [some (.val (.scr ns)), some (.val (.loc 0)), some (.val (.int many)), some (.val (.lst (ls.map D.int))), some (.val (.lst (rs.map D.int))), none] a2 := by
    unfold pt_2
    simp [rg, wipeD, e2, freeze, fz2, put_e]
  refine ⟨⟨ls, rs, f, m⟩, .lst [.val (.lst (ls.map D.int)), .val (.lst (rs.map D.int)), .val (.int f), .val (.int m)], a4, ⟨by show 1 ≤ ls.length; omega, by show ls.length ≤ 4; omega, by show rs.length = ls.length; omega, b1, b2, by show 0 ≤ f ∧ f ≤ 8; omega, by show 0 ≤ m ∧ m ≤ 3; omega⟩, l1, ?_, rfl, s4⟩
  · show bodyM 3 6 m_law_parts _ _ = _
    rw [show bodyM 3 6 m_law_parts [.scr ns, .loc 0, .int many] a = outF (m_law_parts (ent 6 [.scr ns, .loc 0, .int many]) a) from x_bodyM rfl, pt_is]
    show outF (sSeq pt_1 _ [some (.val (.scr ns)), some (.val (.loc 0)), some (.val (.int many)), none, none, none] a) = _
    rw [seq_then q1, seq_then q2]
    unfold pt_3
    simp [e3, e4]
/-! #### near -/
def nr_1 : SM := (sRet [] (mV (vS dIx (vM (mLst (lCons (mV (eVar 0)) (lCons (mV (cV (un1 gAbs) (aCons (ev2 (dI DL.gSub) (eVar 0) (eC (.int 1))) aNil))) (lCons (mV (ev2 (dI DL.gSub) (eC (.int 7)) (cV (un1 gAbs) (aCons (ev2 (dI DL.gSub) (ev2 (dI DL.gSub) (eC (.int 7)) (eVar 0)) (eC (.int 1))) aNil)))) lNil))))) (eVar 1))))
theorem nr_is : m_law_near = nr_1 := rfl
theorem near_ok {v sh : Int} (h0 : 0 ≤ v) (h1 : v ≤ 8) (s0 : 0 ≤ sh) (s1 : sh < 3) (a : Sto) : ∃ w : Int, 0 ≤ w ∧ w ≤ 8 ∧ f_law_near [.int v, .int sh] a = .ok (.val (.int w)) a := by
  have k : v = 0 ∨ v = 1 ∨ v = 2 ∨ v = 3 ∨ v = 4 ∨ v = 5 ∨ v = 6 ∨ v = 7 ∨ v = 8 := by omega
  have k2 : sh = 0 ∨ sh = 1 ∨ sh = 2 := by omega
  have d : ∀ (v sh w : Int), 0 ≤ w ∧ w ≤ 8 → f_law_near [.int v, .int sh] a = .ok (.val (.int w)) a → ∃ w : Int, 0 ≤ w ∧ w ≤ 8 ∧ f_law_near [.int v, .int sh] a = .ok (.val (.int w)) a := fun v sh w h e => ⟨w, h.1, h.2, e⟩
  rcases k with rfl | rfl | rfl | rfl | rfl | rfl | rfl | rfl | rfl <;> rcases k2 with rfl | rfl | rfl <;> exact d _ _ _ (by decide) rfl
/-! #### the other day -/
def ot_1 : SM := (sSet 4 [] (mLst (lCons (cN (un1 gList) (aCons (vS dIx (eVar 2) (eC (.int 0))) aNil)) (lCons (cN (un1 gList) (aCons (vS dIx (eVar 2) (eC (.int 1))) aNil)) (lCons (mV (vS dIx (eVar 2) (eC (.int 2)))) (lCons (mV (vS dIx (eVar 2) (eC (.int 3)))) lNil))))))
def ot_2 : SM := (sWith 4 0 (sWith 4 1 (sFor true [] (DL.iRng1 (aCons (vM (callM 3 f_law_draw (aCons (eVar 0) (aCons (eVar 1) (aCons (eC (.int 4)) aNil))))) aNil)) (gOne 5) (sSeq (sSet 6 [4] (mV (vS dIx (eVar 4) (vM (callM 3 f_law_draw (aCons (eVar 0) (aCons (eVar 1) (aCons (eC (.int 2)) aNil)))))))) (sSeq (sSet 7 [] (mV (vM (callM 3 f_law_draw (aCons (eVar 0) (aCons (eVar 1) (aCons (eVar 3) aNil))))))) (sStoQ [] (callM 2 f_law_near (aCons (vS dIx (eVar 6) (eVar 7)) (aCons (vM (callM 3 f_law_draw (aCons (eVar 0) (aCons (eVar 1) (aCons (eC (.int 3)) aNil))))) aNil))) 6 (qVar 7)))))))
def ot_3 : SM := (sSetP [4] 4 ptNil (qInt 2) (callM 2 f_law_near (aCons (vS dIx (eVar 4) (eC (.int 2))) (aCons (vM (callM 3 f_law_draw (aCons (eVar 0) (aCons (eVar 1) (aCons (eC (.int 3)) aNil))))) aNil))))
def ot_4 : SM := (sIf [] (tV (ev2 dEq (vM (callM 3 f_law_draw (aCons (eVar 0) (aCons (eVar 1) (aCons (eC (.int 5)) aNil))))) (eC (.int 0)))) (sSeq (sSet 4 [4] (mLst (lCons (eN dAdd (vS dIx (eVar 4) (eC (.int 0))) (vM (mLst (lCons (mV (eC (.int 0))) lNil)))) (lCons (eN dAdd (vS dIx (eVar 4) (eC (.int 1))) (vM (mLst (lCons (mV (eC (.int 0))) lNil)))) (lCons (mV (vS dIx (eVar 4) (eC (.int 2)))) (lCons (mV (vS dIx (eVar 4) (eC (.int 3)))) lNil)))))) (sSet 4 [4] (mLst (lCons (slN (vS dIx (eVar 4) (eC (.int 0))) oNo (oSome (eC (.int 4)))) (lCons (slN (vS dIx (eVar 4) (eC (.int 1))) oNo (oSome (eC (.int 4)))) (lCons (mV (vS dIx (eVar 4) (eC (.int 2)))) (lCons (mV (ev2 (dI gMod) (cV (un1 gInt) (aCons (vNw dAdd (vS dIx (eVar 2) (eC (.int 3))) (vM (callM 3 f_law_draw (aCons (eVar 0) (aCons (eVar 1) (aCons (eC (.int 2)) aNil)))))) aNil)) (eC (.int 4)))) lNil))))))) sNil)
def ot_5 : SM := (sRetO 4)
theorem ot_is : m_law_other = (sSeq ot_1 (sSeq ot_2 (sSeq ot_3 (sSeq ot_4 ot_5)))) := rfl
def StR (d r : List Int) (a : Sto) : Prop := ∃ p q u v : Int, a = [.nums [p, q, u, v], .nums d, .nums r]
theorem draw_R (ns : List Int) {lim : Int} (h : 0 < lim) (h2 : lim < 1073741824) {d r : List Int} {a : Sto} (ha : StR d r a) : ∃ (z : Int) (a' : Sto), 0 ≤ z ∧ z < lim ∧ f_law_draw [.scr ns, .loc 0, .int lim] a = .ok (.val (.int z)) a' ∧ StR d r a' := by
  obtain ⟨p, q, u, v, rfl⟩ := ha
  obtain ⟨z, p', q', u', v', h0, h1, e⟩ := draw_okR ns h h2 p q u v [.nums d, .nums r]
  rw [draw_is]
  exact ⟨z, _, h0, h1, e, p', q', u', v', rfl⟩
abbrev TT (ns : List Int) (one : Dy) (many : Int) (tw : M) (o5 : Option Int) (o6 : Option Nat) (o7 : Option Int) : SlM :=
  [some (.val (.scr ns)), some (.val (.loc 0)), some (.val (rowD one)), some (.val (.int many)), some tw, o5.map fun i => .val (.int i), o6.map fun n => .val (.loc n), o7.map fun i => .val (.int i)]
@[simp] theorem see_oi (I : List Nat) (n : Nat) (o : Option Int) (r : SlM) : see I n ((o.map fun i => M.val (.int i)) :: r) = o.map D.int :: see I (n + 1) r := by cases o <;> rfl
@[simp] theorem see_ol (I : List Nat) (n : Nat) (o : Option Nat) (r : SlM) : see I n ((o.map fun i => M.val (.loc i)) :: r) = o.map D.loc :: see I (n + 1) r := by cases o <;> rfl
abbrev twL (f m : Int) : M := .lst [.val (.loc 1), .val (.loc 2), .val (.int f), .val (.int m)]
def ob_1 : SM := sSet 6 [4] (mV (vS dIx (eVar 4) (vM (callM 3 f_law_draw (aCons (eVar 0) (aCons (eVar 1) (aCons (eC (.int 2)) aNil)))))))
def ob_2 : SM := sSet 7 [] (mV (vM (callM 3 f_law_draw (aCons (eVar 0) (aCons (eVar 1) (aCons (eVar 3) aNil))))))
def ob_3 : SM := sStoQ [] (callM 2 f_law_near (aCons (vS dIx (eVar 6) (eVar 7)) (aCons (vM (callM 3 f_law_draw (aCons (eVar 0) (aCons (eVar 1) (aCons (eC (.int 3)) aNil))))) aNil))) 6 (qVar 7)
def ob : SM := sSeq ob_1 (sSeq ob_2 ob_3)
def of : SM := sFor true [] (DL.iRng1 (aCons (vM (callM 3 f_law_draw (aCons (eVar 0) (aCons (eVar 1) (aCons (eC (.int 4)) aNil))))) aNil)) (gOne 5) ob
theorem ot2_is : ot_2 = sWith 4 0 (sWith 4 1 of) := rfl
structure Rows2 (many : Nat) (d r : List Int) : Prop where
  ld : d.length = many
  lr : r.length = many
  bd : ∀ i ∈ d, 0 ≤ i ∧ i ≤ 8
  br : ∀ i ∈ r, 0 ≤ i ∧ i ≤ 8
theorem set_in {l : List Int} {p : Nat} {w : Int} (h : ∀ i ∈ l, 0 ≤ i ∧ i ≤ 8) (h0 : 0 ≤ w) (h1 : w ≤ 8) : ∀ i ∈ l.set p w, 0 ≤ i ∧ i ≤ 8 := fun i hi => by
  rcases List.mem_or_eq_of_mem_set hi with z | rfl
  · exact h i z
  · exact ⟨h0, h1⟩
theorem part_ok (ns : List Int) (one : Dy) {many : Nat} (hm : 1 ≤ many ∧ many ≤ 4) (f m : Int) (o5 o7 : Option Int) (o6 : Option Nat) {d r : List Int} (g : Rows2 many d r) {a : Sto} (ha : StR d r a) :
    ∃ (d' r' : List Int) (k : Nat) (p : Int) (a' : Sto), ob (TT ns one many (twL f m) o5 o6 o7) a = .nx (TT ns one many (twL f m) o5 (some k) (some p)) a' ∧ (k = 1 ∨ k = 2) ∧ Rows2 many d' r' ∧ StR d' r' a' := by
  obtain ⟨c, a1, c0, c1, e1, s1⟩ := draw_R ns (lim := 2) (by decide) (by decide) ha
  obtain ⟨p, a2, p0, p1, e2, s2⟩ := draw_R ns (lim := many) (by omega) (by omega) s1
  obtain ⟨sh, a3, h0, h1, e3, s3⟩ := draw_R ns (lim := 3) (by decide) (by decide) s2
  obtain ⟨i, rfl⟩ : ∃ i : Nat, p = i := ⟨p.toNat, by omega⟩
  have hi : i < many := by omega
  have pick : ∃ k : Nat, (k = 1 ∨ k = 2) ∧ ob_1 (TT ns one many (twL f m) o5 o6 o7) a = .nx (TT ns one many (twL f m) o5 (some k) o7) a1 := by
    have cl : ∀ n : Nat, clM (kin [4] 0 (TT ns one many (twL f m) o5 o6 o7)) (.val (.loc n)) = true := fun n => rfl
    have ca : ∀ k, clA k a1 = true := fun k => by
      obtain ⟨_, _, _, _, rfl⟩ := s1
      rfl
    have c' : c = 0 ∨ c = 1 := by omega
    rcases c' with rfl | rfl
    · refine ⟨1, .inl rfl, ?_⟩
      have ev : mV (vS dIx (eVar 4) (vM (callM 3 f_law_draw (aCons (eVar 0) (aCons (eVar 1) (aCons (eC (.int 2)) aNil)))))) (see [4] 0 (TT ns one many (twL f m) o5 o6 o7)) a = .ok (.val (.loc 1)) a1 := by
        have ix : L2.atI [D.loc 1, .loc 2, .int f, .int m] 0 = some (.loc 1) := (ix4 _ _ _ _).1
        simp [freeze, freezes, e1, ix]
      unfold ob_1
      rw [x_sSet, x_lift, ev, lift_seen (cl 1) ca]
      simp only [oseq_ok]
      rw [put_e (by simp)]
      rfl
    · refine ⟨2, .inr rfl, ?_⟩
      have ev : mV (vS dIx (eVar 4) (vM (callM 3 f_law_draw (aCons (eVar 0) (aCons (eVar 1) (aCons (eC (.int 2)) aNil)))))) (see [4] 0 (TT ns one many (twL f m) o5 o6 o7)) a = .ok (.val (.loc 2)) a1 := by
        have ix : L2.atI [D.loc 1, .loc 2, .int f, .int m] 1 = some (.loc 2) := (ix4 _ _ _ _).2.1
        simp [freeze, freezes, e1, ix]
      unfold ob_1
      rw [x_sSet, x_lift, ev, lift_seen (cl 2) ca]
      simp only [oseq_ok]
      rw [put_e (by simp)]
      rfl
  obtain ⟨k, hk, q1⟩ := pick
  have q2 : ob_2 (TT ns one many (twL f m) o5 (some k) o7) a1 = .nx (TT ns one many (twL f m) o5 (some k) (some (i : Int))) a2 := by
    unfold ob_2
    simp [freeze, freezes, e2, put_e]
  obtain ⟨x1, x2, x3, x4, rfl⟩ := s2
  obtain ⟨y1, y2, y3, y4, rfl⟩ := s3
  have store : ∃ (d' r' : List Int), Rows2 many d' r' ∧ ob_3 (TT ns one many (twL f m) o5 (some k) (some (i : Int))) [.nums [x1, x2, x3, x4], .nums d, .nums r] = .nx (TT ns one many (twL f m) o5 (some k) (some (i : Int))) [.nums [y1, y2, y3, y4], .nums d', .nums r'] := by
    rcases hk with rfl | rfl
    · have hp : i < d.length := by rw [g.ld]; exact hi
      obtain ⟨w, w0, w1, ew⟩ := near_ok (g.bd d[i] (List.getElem_mem hp)).1 (g.bd d[i] (List.getElem_mem hp)).2 h0 h1 [.nums [y1, y2, y3, y4], .nums d, .nums r]
      refine ⟨d.set i w, r, ⟨by rw [List.length_set]; exact g.ld, g.lr, set_in g.bd w0 w1, g.br⟩, ?_⟩
      have rd : dIx [.nums [x1, x2, x3, x4], .nums d, .nums r] (.loc 1) (.int (i : Int)) = some (.val (.int d[i])) := by
        show (L2.atI d (i : Int)).map (fun n => New.val (.int n)) = _
        rw [atI_nat' (show d[i]? = some d[i] from List.getElem?_eq_getElem hp)]
        rfl
      have ixs : ixN d.length (i : Int) = some i := ixN_nat hp
      unfold ob_3 sStoQ
      simp [freeze, freezes, rd, e3, ew, qVar, ixs]
    · have hp : i < r.length := by rw [g.lr]; exact hi
      obtain ⟨w, w0, w1, ew⟩ := near_ok (g.br r[i] (List.getElem_mem hp)).1 (g.br r[i] (List.getElem_mem hp)).2 h0 h1 [.nums [y1, y2, y3, y4], .nums d, .nums r]
      refine ⟨d, r.set i w, ⟨g.ld, by rw [List.length_set]; exact g.lr, g.bd, set_in g.br w0 w1⟩, ?_⟩
      have rd : dIx [.nums [x1, x2, x3, x4], .nums d, .nums r] (.loc 2) (.int (i : Int)) = some (.val (.int r[i])) := by
        show (L2.atI r (i : Int)).map (fun n => New.val (.int n)) = _
        rw [atI_nat' (show r[i]? = some r[i] from List.getElem?_eq_getElem hp)]
        rfl
      have ixs : ixN r.length (i : Int) = some i := ixN_nat hp
      unfold ob_3 sStoQ
      simp [freeze, freezes, rd, e3, ew, qVar, ixs]
  obtain ⟨d', r', g', q3⟩ := store
  refine ⟨d', r', k, i, _, ?_, hk, g', y1, y2, y3, y4, rfl⟩
  unfold ob
  rw [seq_then q1, seq_then q2, q3]
def vD (l : List Int) : List M := (l.map D.int).map M.val
theorem intsM_v : ∀ l : List Int, intsM (vD l) = some l
  | [] => rfl
  | i :: l => by
    show (intsM (vD l)).map (fun l => i :: l) = _
    rw [intsM_v l]
    rfl
theorem nl_ints (n : Nat) : ∀ l : List Int, noLocs n (l.map D.int) = true
  | [] => rfl
  | i :: l => by
    show (true && noLocs n (l.map D.int)) = true
    rw [nl_ints n l]
    rfl
theorem nl_v (n : Nat) : ∀ l : List Int, noLocMs n (vD l) = true
  | [] => rfl
  | i :: l => by
    show (true && noLocMs n (vD l)) = true
    rw [nl_v n l]
    rfl
theorem nl_row (n : Nat) (x : Dy) : noLoc n (rowD x) = true := by
  show (noLocs n (x.dry.map D.int) && (noLocs n (x.rain.map D.int) && true)) = true
  rw [nl_ints, nl_ints]
  rfl
theorem cl_TT (ns : List Int) (one : Dy) (many : Int) (ms : List M) (o5 o7 : Option Int) (o6 : Option Nat) (n : Nat) (hn : n ≠ 0) : clS n (TT ns one many (.lst ms) o5 o6 o7) = TT ns one many (.lst ms) o5 (if o6 = some n then none else o6) o7 := by
  have h0 : ¬ 0 = n := fun z => hn z.symm
  cases o5 <;> cases o7 <;> cases o6 <;> simp [TT, clS, h0, rowD]
  all_goals
    rename_i k
    by_cases h : k = n <;> simp [h]
theorem nl_TT (ns : List Int) (one : Dy) (many : Int) (tw : M) (o5 o7 : Option Int) (o6 : Option Nat) (n : Nat) (hn : n ≠ 0) (ht : noLocM n tw = true) (h6 : o6 ≠ some n) : noLocS n (TT ns one many tw o5 o6 o7) = true := by
  have h0 : ¬ 0 = n := fun z => hn z.symm
  have hr := nl_row n one
  cases o5 <;> cases o7 <;> cases o6 <;> simp [TT, noLocS, noLocM, noLoc, hr, ht, h0]
  all_goals
    intro z
    exact h6 (by rw [z])
theorem with_e {j k : Nat} {f : SM} {δ : SlM} {a : Sto} {ms is : List M} {l : List Int} (h1 : δ[j]? = some (some (.lst ms))) (h2 : ms[k]? = some (.lst is)) (h3 : intsM is = some l) :
    sWith j k f δ a = shOut j k a.length (f (δ.set j (some (.lst (ms.set k (.val (.loc a.length)))))) (a ++ [.nums l])) := by
  unfold sWith
  rw [h1]
  dsimp only
  rw [h2]
  dsimp only
  rw [h3]
theorem sh_e {j k n m : Nat} {δ : SlM} {a a3 : Sto} {ms : List M} {l : List Int} (h1 : popN n a = some (a3, l)) (h2 : (clS n δ)[j]? = some (some (.lst ms))) (h3 : ms[k]? = some (.val (.loc m))) (h4 : m = n) (h5 : noLocS n ((clS n δ).set j (some (.lst (ms.set k (.lst ((l.map D.int).map M.val)))))) = true) :
    shOut j k n (.nx δ a) = .nx ((clS n δ).set j (some (.lst (ms.set k (.lst ((l.map D.int).map M.val)))))) a3 := by
  unfold shOut
  dsimp only
  rw [h1]
  dsimp only
  rw [h2]
  dsimp only
  rw [h3]
  dsimp only
  rw [if_pos ⟨h4, h5⟩]
theorem of_ok (ns : List Int) (one : Dy) {many : Nat} (hm : 1 ≤ many ∧ many ≤ 4) (f m : Int) {d r : List Int} (g : Rows2 many d r) {a : Sto} (ha : StR d r a) :
    ∃ (d' r' : List Int) (o5 o7 : Option Int) (o6 : Option Nat) (a' : Sto), of (TT ns one many (twL f m) none none none) a = .nx (TT ns one many (twL f m) o5 o6 o7) a' ∧ Rows2 many d' r' ∧ StR d' r' a' := by
  obtain ⟨c, a1, c0, c1, e1, s1⟩ := draw_R ns (lim := 4) (by decide) (by decide) ha
  obtain ⟨δ', a', e2, d', r', o5, o7, o6, rfl, h3, h4⟩ := loop_inv (g := gOne 5) (f := ob) (fun δ a => ∃ (d' r' : List Int) (o5 o7 : Option Int) (o6 : Option Nat), δ = TT ns one many (twL f m) o5 o6 o7 ∧ Rows2 many d' r' ∧ StR d' r' a) (ds := rngL 0 c.toNat) (fun x hx δ a h => by
    obtain ⟨d1, r1, o5, o7, o6, rfl, g1, g2⟩ := h
    obtain ⟨i, _, rfl⟩ := List.mem_map.mp hx
    obtain ⟨d2, r2, k, p, a2, q1, q2, q3, q4⟩ := part_ok ns one hm f m (some (0 + (i : Int))) o7 o6 g1 g2
    exact ⟨TT ns one many (twL f m) (some (0 + (i : Int))) o6 o7, _, a2, rfl, q1, d2, r2, _, _, _, rfl, q3, q4⟩) (δ := TT ns one many (twL f m) none none none) (a := a1) ⟨d, r, none, none, none, rfl, g, s1⟩
  refine ⟨d', r', o5, o7, o6, a', ?_, h3, h4⟩
  have rg := rng_e (j := c) c0 (by omega)
  have st : of (TT ns one many (twL f m) none none none) a = sLoop (gOne 5) ob (rngL 0 c.toNat) (TT ns one many (twL f m) none none none) a1 := by
    unfold of
    simp [freeze, freezes, e1, rg]
  rw [st]
  exact e2
theorem TT_set (ns : List Int) (one : Dy) (many : Int) (tw x : M) (o5 o7 : Option Int) (o6 : Option Nat) : (TT ns one many tw o5 o6 o7).set 4 (some x) = TT ns one many x o5 o6 o7 := rfl
theorem if_ne (o6 : Option Nat) (n : Nat) : (if o6 = some n then none else o6) ≠ some n := by
  by_cases h : o6 = some n
  · rw [if_pos h]
    exact nofun
  · rw [if_neg h]
    exact h
theorem inner_ok (ns : List Int) (one : Dy) (many f m : Int) (x : M) (hx : noLocM 2 x = true) {r r' : List Int} {o5 o7 : Option Int} {o6 : Option Nat} {n1 n1' d d' : List Int}
    (e : of (TT ns one many (.lst [x, .val (.loc 2), .val (.int f), .val (.int m)]) none none none) [.nums n1, .nums d, .nums r] = .nx (TT ns one many (.lst [x, .val (.loc 2), .val (.int f), .val (.int m)]) o5 o6 o7) [.nums n1', .nums d', .nums r']) :
    sWith 4 1 of (TT ns one many (.lst [x, .lst (vD r), .val (.int f), .val (.int m)]) none none none) [.nums n1, .nums d] = .nx (TT ns one many (.lst [x, .lst (vD r'), .val (.int f), .val (.int m)]) o5 (if o6 = some 2 then none else o6) o7) [.nums n1', .nums d'] := by
  have w := with_e (j := 4) (k := 1) (f := of) (δ := TT ns one many (.lst [x, .lst (vD r), .val (.int f), .val (.int m)]) none none none) (a := [.nums n1, .nums d]) (ms := [x, .lst (vD r), .val (.int f), .val (.int m)]) (is := vD r) (l := r) rfl rfl (intsM_v r)
  rw [w, TT_set]
  have w2 : of (TT ns one many (.lst ([x, .lst (vD r), .val (.int f), .val (.int m)].set 1 (.val (.loc [Cell.nums n1, .nums d].length)))) none none none) ([.nums n1, .nums d] ++ [.nums r]) = _ := e
  rw [w2]
  have cl := cl_TT ns one many [x, .val (.loc 2), .val (.int f), .val (.int m)] o5 o7 o6 2 (by decide)
  have hn : noLocS 2 ((clS 2 (TT ns one many (.lst [x, .val (.loc 2), .val (.int f), .val (.int m)]) o5 o6 o7)).set 4 (some (.lst ([x, .val (.loc 2), .val (.int f), .val (.int m)].set 1 (.lst ((r'.map D.int).map M.val)))))) = true := by
    rw [cl, TT_set]
    refine nl_TT ns one many _ o5 o7 _ 2 (by decide) ?_ (if_ne o6 2)
    show (noLocM 2 x && (noLocMs 2 (vD r') && true)) = true
    rw [hx, nl_v]
    rfl
  have s := sh_e (j := 4) (k := 1) (n := 2) (m := 2) (δ := TT ns one many (.lst [x, .val (.loc 2), .val (.int f), .val (.int m)]) o5 o6 o7) (a := [.nums n1', .nums d', .nums r']) (a3 := [.nums n1', .nums d']) (ms := [x, .val (.loc 2), .val (.int f), .val (.int m)]) (l := r') rfl (clS_at rfl) rfl rfl hn
  rw [cl, TT_set] at s
  exact s
theorem outer_ok (ns : List Int) (one : Dy) (many f m : Int) {r r' : List Int} {o5 o7 : Option Int} {o6 : Option Nat} {n1 n1' d d' : List Int} (h2 : o6 ≠ some 2)
    (e : sWith 4 1 of (TT ns one many (.lst [.val (.loc 1), .lst (vD r), .val (.int f), .val (.int m)]) none none none) [.nums n1, .nums d] = .nx (TT ns one many (.lst [.val (.loc 1), .lst (vD r'), .val (.int f), .val (.int m)]) o5 o6 o7) [.nums n1', .nums d']) :
    sWith 4 0 (sWith 4 1 of) (TT ns one many (.lst [.lst (vD d), .lst (vD r), .val (.int f), .val (.int m)]) none none none) [.nums n1] = .nx (TT ns one many (.lst [.lst (vD d'), .lst (vD r'), .val (.int f), .val (.int m)]) o5 (if o6 = some 1 then none else o6) o7) [.nums n1'] := by
  have w := with_e (j := 4) (k := 0) (f := sWith 4 1 of) (δ := TT ns one many (.lst [.lst (vD d), .lst (vD r), .val (.int f), .val (.int m)]) none none none) (a := [.nums n1]) (ms := [.lst (vD d), .lst (vD r), .val (.int f), .val (.int m)]) (is := vD d) (l := d) rfl rfl (intsM_v d)
  rw [w, TT_set]
  have w2 : sWith 4 1 of (TT ns one many (.lst ([.lst (vD d), .lst (vD r), .val (.int f), .val (.int m)].set 0 (.val (.loc [Cell.nums n1].length)))) none none none) ([.nums n1] ++ [.nums d]) = _ := e
  rw [w2]
  have cl := cl_TT ns one many [.val (.loc 1), .lst (vD r'), .val (.int f), .val (.int m)] o5 o7 o6 1 (by decide)
  have hn : noLocS 1 ((clS 1 (TT ns one many (.lst [.val (.loc 1), .lst (vD r'), .val (.int f), .val (.int m)]) o5 o6 o7)).set 4 (some (.lst ([.val (.loc 1), .lst (vD r'), .val (.int f), .val (.int m)].set 0 (.lst ((d'.map D.int).map M.val)))))) = true := by
    rw [cl, TT_set]
    refine nl_TT ns one many _ o5 o7 _ 1 (by decide) ?_ (if_ne o6 1)
    show (noLocMs 1 (vD d') && (noLocMs 1 (vD r') && true)) = true
    rw [nl_v, nl_v]
    rfl
  have s := sh_e (j := 4) (k := 0) (n := 1) (m := 1) (δ := TT ns one many (.lst [.val (.loc 1), .lst (vD r'), .val (.int f), .val (.int m)]) o5 o6 o7) (a := [.nums n1', .nums d']) (a3 := [.nums n1']) (ms := [.val (.loc 1), .lst (vD r'), .val (.int f), .val (.int m)]) (l := d') rfl (clS_at rfl) rfl rfl hn
  rw [cl, TT_set] at s
  exact s
theorem ot2_ok (ns : List Int) (one : Dy) {many : Nat} (hm : 1 ≤ many ∧ many ≤ 4) (f m : Int) {d r : List Int} (g : Rows2 many d r) {a : Sto} (ha : St4 a) :
    ∃ (d' r' : List Int) (o5 o7 : Option Int) (o6 : Option Nat) (a' : Sto), ot_2 (TT ns one many (.lst [.lst (vD d), .lst (vD r), .val (.int f), .val (.int m)]) none none none) a = .nx (TT ns one many (.lst [.lst (vD d'), .lst (vD r'), .val (.int f), .val (.int m)]) o5 o6 o7) a' ∧ Rows2 many d' r' ∧ St4 a' := by
  obtain ⟨p, q, u, v, rfl⟩ := ha
  obtain ⟨d', r', o5, o7, o6, a', e, g', p', q', u', v', rfl⟩ := of_ok ns one hm f m g (a := [.nums [p, q, u, v], .nums d, .nums r]) ⟨p, q, u, v, rfl⟩
  have e2 := inner_ok ns one many f m (.val (.loc 1)) rfl e
  have e3 := outer_ok ns one many f m (if_ne o6 2) e2
  exact ⟨d', r', o5, o7, _, _, e3, g', p', q', u', v', rfl⟩
abbrev two (d r : List Int) (f m : Int) : M := .lst [.lst (vD d), .lst (vD r), .val (.int f), .val (.int m)]
theorem fz_v (l : List Int) : freezes (vD l) = l.map D.int := freezes_val _
theorem fz_two (d r : List Int) (f m : Int) : freeze (two d r f m) = rowD ⟨d, r, f, m⟩ := by
  show D.lst [.lst (freezes (vD d)), .lst (freezes (vD r)), .int f, .int m] = _
  rw [fz_v, fz_v]
  rfl
theorem cl_v (k : Kd) : ∀ l : List Int, clMs k (vD l) = true
  | [] => rfl
  | i :: l => by
    show (true && clMs k (vD l)) = true
    rw [cl_v k l]
    rfl
theorem cl_two (k : Kd) (d r : List Int) (f m : Int) : clM k (two d r f m) = true := by
  show (clMs k (vD d) && (clMs k (vD r) && true)) = true
  rw [cl_v, cl_v]
  rfl
theorem see4 (ns : List Int) (one : Dy) (many : Int) (d r : List Int) (f m : Int) (o5 o7 : Option Int) (o6 : Option Nat) : ∃ z5 z6 z7, see [4] 0 (TT ns one many (two d r f m) o5 o6 o7) = [some (.scr ns), some (.loc 0), some (rowD one), some (.int many), some (rowD ⟨d, r, f, m⟩), z5, z6, z7] := by
  refine ⟨o5.map D.int, o6.map D.loc, o7.map D.int, ?_⟩
  simp [TT]
  exact fz_two d r f m
theorem ot1_ok (ns : List Int) (one : Dy) (many : Int) (a : Sto) : ot_1 [some (.val (.scr ns)), some (.val (.loc 0)), some (.val (rowD one)), some (.val (.int many)), none, none, none, none] a = .nx (TT ns one many (two one.dry one.rain one.fill one.mood) none none none) a := by
  obtain ⟨i0, i1, i2, i3⟩ := row_at one a
  have gl : ∀ l : List Int, gList a (.lst (l.map D.int)) = some (.lst (l.map D.int)) := fun l => rfl
  unfold ot_1
  simp [i0, i1, i2, i3, gl]
  rw [put_e (by simp)]
  simp [two, vD]
theorem ot3_ok (ns : List Int) (one : Dy) (many : Int) {d r : List Int} {f : Int} (hf : 0 ≤ f ∧ f ≤ 8) (m : Int) (o5 o7 : Option Int) (o6 : Option Nat) {a : Sto} (ha : St4 a) :
    ∃ (w : Int) (a' : Sto), 0 ≤ w ∧ w ≤ 8 ∧ ot_3 (TT ns one many (two d r f m) o5 o6 o7) a = .nx (TT ns one many (two d r w m) o5 o6 o7) a' ∧ St4 a' := by
  obtain ⟨sh, a1, h0, h1, e1, s1⟩ := draw_at ns (lim := 3) (by decide) (by decide) ha
  obtain ⟨w, w0, w1, ew⟩ := near_ok hf.1 hf.2 h0 h1 a1
  refine ⟨w, a1, w0, w1, ?_, s1⟩
  obtain ⟨z5, z6, z7, hz⟩ := see4 ns one many d r f m o5 o7 o6
  obtain ⟨i0, i1, i2, i3⟩ := row_at ⟨d, r, f, m⟩ a
  have ev : callM 2 f_law_near (aCons (vS dIx (eVar 4) (eC (.int 2))) (aCons (vM (callM 3 f_law_draw (aCons (eVar 0) (aCons (eVar 1) (aCons (eC (.int 3)) aNil))))) aNil)) (see [4] 0 (TT ns one many (two d r f m) o5 o6 o7)) a = .ok (.val (.int w)) a1 := by
    rw [hz]
    simp [i2, e1, ew, freeze]
  have cl : clM (kin [4] 0 (TT ns one many (two d r f m) o5 o6 o7)) (.val (.int w)) = true := rfl
  have g4 : (TT ns one many (two d r f m) o5 o6 o7)[4]? = some (some (two d r f m)) := rfl
  have ix : ixN [M.lst (vD d), .lst (vD r), .val (.int f), .val (.int m)].length 2 = some 2 := ixN_nat (k := 2) (by simp)
  unfold ot_3 sSetP
  rw [x_lift, ev, lift_seen cl (clA_st s1)]
  simp only [oseq_ok, g4, ptNil, focL, qInt, ix]
  rfl
def od_1 : SM := (sSet 4 [4] (mLst (lCons (eN dAdd (vS dIx (eVar 4) (eC (.int 0))) (vM (mLst (lCons (mV (eC (.int 0))) lNil)))) (lCons (eN dAdd (vS dIx (eVar 4) (eC (.int 1))) (vM (mLst (lCons (mV (eC (.int 0))) lNil)))) (lCons (mV (vS dIx (eVar 4) (eC (.int 2)))) (lCons (mV (vS dIx (eVar 4) (eC (.int 3)))) lNil))))))
def od_2 : SM := (sSet 4 [4] (mLst (lCons (slN (vS dIx (eVar 4) (eC (.int 0))) oNo (oSome (eC (.int 4)))) (lCons (slN (vS dIx (eVar 4) (eC (.int 1))) oNo (oSome (eC (.int 4)))) (lCons (mV (vS dIx (eVar 4) (eC (.int 2)))) (lCons (mV (ev2 (dI gMod) (cV (un1 gInt) (aCons (vNw dAdd (vS dIx (eVar 2) (eC (.int 3))) (vM (callM 3 f_law_draw (aCons (eVar 0) (aCons (eVar 1) (aCons (eC (.int 2)) aNil)))))) aNil)) (eC (.int 4)))) lNil))))))
theorem ot4_is : ot_4 = sIf [] (tV (ev2 dEq (vM (callM 3 f_law_draw (aCons (eVar 0) (aCons (eVar 1) (aCons (eC (.int 5)) aNil))))) (eC (.int 0)))) (sSeq od_1 od_2) sNil := rfl
theorem od1_ok (ns : List Int) (one : Dy) (many : Int) {d r : List Int} (hd : d.length ≤ 4) (hr : r.length ≤ 4) (f m : Int) (o5 o7 : Option Int) (o6 : Option Nat) {a : Sto} (ha : St4 a) :
    od_1 (TT ns one many (two d r f m) o5 o6 o7) a = .nx (TT ns one many (two (d ++ [0]) (r ++ [0]) f m) o5 o6 o7) a := by
  obtain ⟨z5, z6, z7, hz⟩ := see4 ns one many d r f m o5 o7 o6
  obtain ⟨i0, i1, i2, i3⟩ := row_at ⟨d, r, f, m⟩ a
  have ad : ∀ l : List Int, l.length ≤ 4 → dAdd (.lst (l.map D.int)) (.lst [.int 0]) = some (.lst ((l ++ [0]).map D.int)) := fun l hl => by
    rw [r_addL (by simp; omega)]
    simp
  have a1 := ad d hd
  have a2 := ad r hr
  have ev : mLst (lCons (eN dAdd (vS dIx (eVar 4) (eC (.int 0))) (vM (mLst (lCons (mV (eC (.int 0))) lNil)))) (lCons (eN dAdd (vS dIx (eVar 4) (eC (.int 1))) (vM (mLst (lCons (mV (eC (.int 0))) lNil)))) (lCons (mV (vS dIx (eVar 4) (eC (.int 2)))) (lCons (mV (vS dIx (eVar 4) (eC (.int 3)))) lNil)))) (see [4] 0 (TT ns one many (two d r f m) o5 o6 o7)) a = .ok (two (d ++ [0]) (r ++ [0]) f m) a := by
    rw [hz]
    simp only [x_mLst]
    simp [i0, i1, i2, i3, freeze, freezes, a1, a2, two, vD]
  unfold od_1
  rw [x_sSet, x_lift, ev, lift_seen (cl_two _ _ _ _ _) (clA_st ha)]
  simp only [oseq_ok]
  rw [put_e (by simp)]
  rfl
theorem od2_ok (ns : List Int) (one : Dy) (h1 : one.Ok) (many : Int) (d r : List Int) (f m : Int) (o5 o7 : Option Int) (o6 : Option Nat) {a : Sto} (ha : St4 a) :
    ∃ (m' : Int) (a' : Sto), 0 ≤ m' ∧ m' ≤ 3 ∧ od_2 (TT ns one many (two d r f m) o5 o6 o7) a = .nx (TT ns one many (two (d.take 4) (r.take 4) f m') o5 o6 o7) a' ∧ St4 a' := by
  obtain ⟨c, b1, c0, c1, e1, s1⟩ := draw_at ns (lim := 2) (by decide) (by decide) ha
  obtain ⟨z5, z6, z7, hz⟩ := see4 ns one many d r f m o5 o7 o6
  obtain ⟨i0, i1, i2, i3⟩ := row_at ⟨d, r, f, m⟩ a
  obtain ⟨_, _, _, j3⟩ := row_at one a
  have t1 : dSl (.lst (d.map D.int)) none (some 4) = some (.lst ((d.take 4).map D.int)) := by
    rw [List.map_take]
    exact sl_take (d.map D.int) 4
  have t2 : dSl (.lst (r.map D.int)) none (some 4) = some (.lst ((r.take 4).map D.int)) := by
    rw [List.map_take]
    exact sl_take (r.map D.int) 4
  have md : gMod (one.mood + c) 4 = some (.int ((one.mood + c) % 4)) := r_mod (by decide)
  refine ⟨(one.mood + c) % 4, b1, Int.emod_nonneg _ (by decide), by have := Int.emod_lt_of_pos (one.mood + c) (show (0:Int) < 4 by decide); omega, ?_, s1⟩
  have ev : mLst (lCons (slN (vS dIx (eVar 4) (eC (.int 0))) oNo (oSome (eC (.int 4)))) (lCons (slN (vS dIx (eVar 4) (eC (.int 1))) oNo (oSome (eC (.int 4)))) (lCons (mV (vS dIx (eVar 4) (eC (.int 2)))) (lCons (mV (ev2 (dI gMod) (cV (un1 gInt) (aCons (vNw dAdd (vS dIx (eVar 2) (eC (.int 3))) (vM (callM 3 f_law_draw (aCons (eVar 0) (aCons (eVar 1) (aCons (eC (.int 2)) aNil)))))) aNil)) (eC (.int 4)))) lNil)))) (see [4] 0 (TT ns one many (two d r f m) o5 o6 o7)) a = .ok (two (d.take 4) (r.take 4) f ((one.mood + c) % 4)) b1 := by
    rw [hz]
    simp only [x_mLst]
    simp [i0, i1, i2, j3, e1, freeze, freezes, t1, t2, md, two, vD]
  unfold od_2
  rw [x_sSet, x_lift, ev, lift_seen (cl_two _ _ _ _ _) (clA_st s1)]
  simp only [oseq_ok]
  rw [put_e (by simp)]
  rfl
theorem other_ok (ns : List Int) {one : Dy} (h1 : one.Ok) {a : Sto} (ha : St4 a) :
    ∃ (y : Dy) (m : M) (a' : Sto), y.Ok ∧ f_law_other [.scr ns, .loc 0, rowD one, .int one.dry.length] a = .ok m a' ∧ freeze m = rowD y ∧ St4 a' := by
  have l1 := h1.l1
  have l4 := h1.l4
  have rl := h1.rl
  obtain ⟨d, r, o5, o7, o6, a1, e2, g, s1⟩ := ot2_ok ns one (many := one.dry.length) ⟨l1, l4⟩ one.fill one.mood (d := one.dry) (r := one.rain) ⟨rfl, rl, h1.ed, h1.er⟩ ha
  obtain ⟨w, a2, w0, w1, e3, s2⟩ := ot3_ok ns one one.dry.length (d := d) (r := r) h1.fl one.mood o5 o7 o6 s1
  obtain ⟨c, a3, c0, c1, e4, s3⟩ := draw_at ns (lim := 5) (by decide) (by decide) s2
  have gd := g.ld
  have gr := g.lr
  have e1 := ot1_ok ns one one.dry.length a
  have fin : ∃ (y : Dy) (a' : Sto), y.Ok ∧ ot_4 (TT ns one one.dry.length (two d r w one.mood) o5 o6 o7) a2 = .nx (TT ns one one.dry.length (two y.dry y.rain y.fill y.mood) o5 o6 o7) a' ∧ St4 a' := by
    by_cases hc : c = 0
    · subst hc
      have q1 := od1_ok ns one one.dry.length (d := d) (r := r) (by omega) (by omega) w one.mood o5 o7 o6 s3
      obtain ⟨m', a4, m0, m1, q2, s4⟩ := od2_ok ns one h1 one.dry.length (d ++ [0]) (r ++ [0]) w one.mood o5 o7 o6 s3
      refine ⟨⟨(d ++ [0]).take 4, (r ++ [0]).take 4, w, m'⟩, a4, ⟨by simp; omega, by simp; omega, by simp; omega, fun i hi => ?_, fun i hi => ?_, ⟨w0, w1⟩, ⟨m0, m1⟩⟩, ?_, s4⟩
      · rcases List.mem_append.mp (List.mem_of_mem_take hi) with h | h
        · exact g.bd i h
        · rw [List.mem_singleton.mp h]
          decide
      · rcases List.mem_append.mp (List.mem_of_mem_take hi) with h | h
        · exact g.br i h
        · rw [List.mem_singleton.mp h]
          decide
      · rw [ot4_is]
        simp [e4, freeze]
        rw [q1, seq_nx, q2]
    · refine ⟨⟨d, r, w, one.mood⟩, a3, ⟨by show 1 ≤ d.length; omega, by show d.length ≤ 4; omega, by show r.length = d.length; omega, g.bd, g.br, ⟨w0, w1⟩, h1.md⟩, ?_, s3⟩
      have hc' : (c == 0) = false := beq_eq_false_iff_ne.mpr hc
      rw [ot4_is]
      simp [e4, freeze, hc']
  obtain ⟨y, a4, oy, q4, s4⟩ := fin
  refine ⟨y, two y.dry y.rain y.fill y.mood, a4, oy, ?_, fz_two _ _ _ _, s4⟩
  show bodyM 4 8 m_law_other _ _ = _
  rw [show bodyM 4 8 m_law_other [.scr ns, .loc 0, rowD one, .int one.dry.length] a = outF (m_law_other (ent 8 [.scr ns, .loc 0, rowD one, .int one.dry.length]) a) from x_bodyM rfl, ot_is]
  show outF (sSeq ot_1 _ [some (.val (.scr ns)), some (.val (.loc 0)), some (.val (rowD one)), some (.val (.int one.dry.length)), none, none, none, none] a) = _
  rw [seq_then e1, seq_then e2, seq_then e3, seq_then q4]
  rfl
/-! #### + as the law asks it -/
def sm_1 : SM := (sTry (sRet [] (opO [(2, f_Day_add)] okArg (fun _ => dAdd) (eVar 0) (eVar 1))) (⟨[1], [1], some 2, (sRet [] (mTup (lCons (mV (ev1 (dFld [] [1] "what") (eVar 2))) (lCons (mV (ev1 (dFld [] [1] "value") (eVar 2))) lNil))))⟩ :: []))
theorem sm_is : m_law_sum = sm_1 := rfl
def sh_1 : SM := (sSet 4 [] (mV (ev2 (dI DL.gSub) (vM (callM 3 f_law_draw (aCons (eVar 0) (aCons (eVar 1) (aCons (eC (.int 11)) aNil))))) (eC (.int 1)))))
def sh_2 : SM := (sSet 5 [] (mV (vM (callM 2 f_law_sum (aCons (eVar 2) (aCons (eVar 4) aNil))))))
def sh_3 : SM := (sIf [] (tOn (tV (ev2 (dI gLt) (eVar 4) (eC (.int 0)))) (tV (ev2 (dI gGt) (eVar 4) (eC (.int 8))))) (sRet [] (mV (ev2 dEq (eVar 5) (vM (mTup (lCons (mV (eC (.str "units"))) (lCons (mV (eVar 4)) lNil))))))) sNil)
def sh_4 : SM := (sSet 6 [] (mV (vM (lcM [7] (iSeq (vS dIx (eVar 3) (eC (.int 1)))) (gNm 7) tT (mV (cV (bi2 gMin2) (aCons (eC (.int 8)) (aCons (cV (un1 gInt) (aCons (vNw dAdd (eVar 7) (eVar 4)) aNil)) aNil))))))))
def sh_5 : SM := (sRet [] (mV (vAn (evW [(2, f_Day_eq)] false dEq (eVar 5) (vM (mkM 2 5 f_Day_init (aCons (vS dIx (eVar 3) (eC (.int 0))) (aCons (eVar 6) (aCons (vS dIx (eVar 3) (eC (.int 2))) (aCons (vS dIx (eVar 3) (eC (.int 3))) aNil))))))) (ev2 dEq (ev1 (dFld [2] [] "rain") (eVar 2)) (cV (un1 gTuple) (aCons (vS dIx (eVar 3) (eC (.int 1))) aNil))))))
theorem sh_is : m_law_sums_hold = (sSeq sh_1 (sSeq sh_2 (sSeq sh_3 (sSeq sh_4 sh_5)))) := rfl
abbrev dD (x : Dy) : D := x.d 2
theorem sum_in {x : Dy} {u : Int} (o : x.Ok) (h : 0 ≤ u) (h2 : u ≤ 8) {a : Sto} (ha : Fresh a) : ∃ m, f_law_sum [dD x, .int u] a = .ok m a ∧ freeze m = dD (x.more u) := by
  have e := dyAdd_in (b := 1) (s := 2) o h h2 ha
  refine ⟨.obj 2 dyF [.val (.tup (x.dry.map D.int)), .val (.tup ((x.more u).rain.map D.int)), .val (.int x.fill), .val (.int x.mood)], ?_, ?_⟩
  · show bodyM 2 3 m_law_sum _ _ = _
    rw [show bodyM 2 3 m_law_sum [dD x, .int u] a = outF (m_law_sum (ent 3 [dD x, .int u]) a) from x_bodyM rfl, sm_is]
    have op : opO [(2, f_Day_add)] okArg (fun _ => dAdd) (eVar 0) (eVar 1) [some (dD x), some (.int u), none] a = .ok (.obj 2 dyF [.val (.tup (x.dry.map D.int)), .val (.tup ((x.more u).rain.map D.int)), .val (.int x.fill), .val (.int x.mood)]) a := by
      show f_Day_add [dD x, .int u] a = _
      rw [add_is]
      exact e
    show outF (sm_1 [some (.val (dD x)), some (.val (.int u)), none] a) = _
    unfold sm_1
    simp [x_sTry, op]
  · rfl
theorem sum_out {x : Dy} {u : Int} (h : u < 0 ∨ 8 < u) {a : Sto} : f_law_sum [dD x, .int u] a = .ok (.val (.tup [.str "units", .int u])) a := by
  have e := dyAdd_out (b := 1) (s := 2) (x := x) h a
  show bodyM 2 3 m_law_sum _ _ = _
  rw [show bodyM 2 3 m_law_sum [dD x, .int u] a = outF (m_law_sum (ent 3 [dD x, .int u]) a) from x_bodyM rfl, sm_is]
  have op : opO [(2, f_Day_add)] okArg (fun _ => dAdd) (eVar 0) (eVar 1) [some (dD x), some (.int u), none] a = .exc 1 ["what", "value"] [.str "units", .int u] a := by
    show f_Day_add [dD x, .int u] a = _
    rw [add_is]
    exact e
  have l1 : dFld [] [1] "what" (.exc 1 ["what", "value"] [.str "units", .int u]) = some (.str "units") := rfl
  have l2 : dFld [] [1] "value" (.exc 1 ["what", "value"] [.str "units", .int u]) = some (.int u) := rfl
  show outF (sm_1 [some (.val (dD x)), some (.val (.int u)), none] a) = _
  unfold sm_1
  simp [x_sTry, op, tryH, outM, l1, l2, mkTup, allV]
theorem eqs_self {w : Str} {d : D} (hw : PySem.PyData.strOk w = true) (h : dd 7 d = true ∧ eqvD d d = true) : dNe (.tup [.str w, d]) (.tup [.str w, d]) = some (.bl false) ∧ dEq (.tup [.str w, d]) (.tup [.str w, d]) = some (.bl true) := by
  have a1 : [D.str w, d].all (dd 7) = true := by
    show (dd 7 (.str w) && (dd 7 d && true)) = true
    rw [h.1, show dd 7 (.str w) = PySem.PyData.strOk w from rfl, hw]
    rfl
  rw [dNe_tup a1 a1, dEq_tup a1 a1]
  have z : eqvDs [D.str w, d] [D.str w, d] = true := by
    show ((w == w) && (eqvD d d && true)) = true
    rw [h.2]
    simp
  rw [z]
  exact ⟨rfl, rfl⟩
theorem int_self (i : Int) : dd 7 (.int i) = true ∧ eqvD (.int i) (.int i) = true := ⟨rfl, by show (i == i) = true; simp⟩
theorem eqB_self (x : Dy) : x.eqB x = true := by simp [Dy.eqB]
theorem ow_eq (x y : Dy) (a : Sto) : opW [(2, f_Day_eq)] false dEq a (dD x) (dD y) = .ok (.bl (x.eqB y)) a := by
  show ownB false (f_Day_eq [dD x, dD y] a) = _
  rw [eq_is, dyEq_ok rfl]
  show Out.ok (D.bl (_ != false)) a = _
  rw [Bool.bne_false]
theorem ow_ne (x y : Dy) (a : Sto) : opW [(2, f_Day_eq)] true dNe a (dD x) (dD y) = .ok (.bl (!x.eqB y)) a := by
  show ownB true (f_Day_eq [dD x, dD y] a) = _
  rw [eq_is, dyEq_ok rfl]
  show Out.ok (D.bl (_ != true)) a = _
  rw [Bool.bne_true]
theorem ow_le {x y : Dy} (hx : x.Ok) (hy : y.Ok) (a : Sto) : opW [(2, f_Day_le)] false (dI gLe) a (dD x) (dD y) = .ok (.bl (x.leB y)) a := by
  show ownB false (f_Day_le [dD x, dD y] a) = _
  rw [le_is, dyLe_ok rfl hx.rl hy.rl]
  show Out.ok (D.bl (_ != false)) a = _
  rw [Bool.bne_false]
theorem more_lc7 (rain : List Int) (u : Int) {x0 x1 x2 x3 x5 : Option D} {a : Sto} (hl : rain.length ≤ 1000) :
    lcGo (gNm 7) tT (mV (cV (bi2 gMin2) (aCons (eC (.int 8)) (aCons (cV (un1 gInt) (aCons (vNw dAdd (eVar 7) (eVar 4)) aNil)) aNil)))) [x0, x1, x2, x3, some (.int u), x5, none, none] (rain.map D.int) [] a = .ok ((rain.map fun r => min 8 (r + u)).map fun i => M.val (.int i)) a := by
  have lp := lc_map (gt := gNm 7) (ft := tT) (fe := mV (cV (bi2 gMin2) (aCons (eC (.int 8)) (aCons (cV (un1 gInt) (aCons (vNw dAdd (eVar 7) (eVar 4)) aNil)) aNil)))) (δ := [x0, x1, x2, x3, some (.int u), x5, none, none]) (a := a) (fun _ => true) (fun d => match d with | .int r => .val (.int (min 8 (r + u))) | _ => .val .non) (ds := rain.map D.int) (fun d hd => by
    obtain ⟨r, _, rfl⟩ := List.mem_map.mp hd
    refine ⟨_, rfl, rfl, fun _ => ?_⟩
    have v : (if r + u < 8 then r + u else 8) = min 8 (r + u) := by omega
    simp [gMin2]
    rw [v]) (acc := []) (by simp; omega)
  have fl : ((rain.map D.int).filter fun _ => true) = rain.map D.int := List.filter_eq_self.mpr fun _ _ => rfl
  rw [fl, List.map_map, List.nil_append] at lp
  rw [lp, List.map_map]
  rfl
theorem sums_ok (ns : List Int) {x : Dy} (o : x.Ok) {a : Sto} (ha : St4 a) : ∃ a', f_law_sums_hold [.scr ns, .loc 0, dD x, rowD x] a = .ok (.val (.bl true)) a' ∧ St4 a' := by
  obtain ⟨c, a1, c0, c1, e1, s1⟩ := draw_at ns (lim := 11) (by decide) (by decide) ha
  refine ⟨a1, ?_, s1⟩
  obtain ⟨i0, i1, i2, i3⟩ := row_at x a1
  have q1 : sh_1 [some (.val (.scr ns)), some (.val (.loc 0)), some (.val (dD x)), some (.val (rowD x)), none, none, none, none] a = .nx [some (.val (.scr ns)), some (.val (.loc 0)), some (.val (dD x)), some (.val (rowD x)), some (.val (.int (c - 1))), none, none, none] a1 := by
    unfold sh_1
    simp [e1, freeze, put_e]
  show bodyM 4 8 m_law_sums_hold _ _ = _
  rw [show bodyM 4 8 m_law_sums_hold [.scr ns, .loc 0, dD x, rowD x] a = outF (m_law_sums_hold (ent 8 [.scr ns, .loc 0, dD x, rowD x]) a) from x_bodyM rfl, sh_is]
  show outF (sSeq sh_1 _ [some (.val (.scr ns)), some (.val (.loc 0)), some (.val (dD x)), some (.val (rowD x)), none, none, none, none] a) = _
  rw [seq_then q1]
  by_cases h : c - 1 < 0 ∨ 8 < c - 1
  · have e2 := sum_out (x := x) h (a := a1)
    have q2 : sh_2 [some (.val (.scr ns)), some (.val (.loc 0)), some (.val (dD x)), some (.val (rowD x)), some (.val (.int (c - 1))), none, none, none] a1 = .nx [some (.val (.scr ns)), some (.val (.loc 0)), some (.val (dD x)), some (.val (rowD x)), some (.val (.int (c - 1))), some (.val (.tup [.str "units", .int (c - 1)])), none, none] a1 := by
      unfold sh_2
      simp [e2, freeze, put_e]
    have eq := (eqs_self (w := "units") (d := .int (c - 1)) (by decide +kernel) (int_self _)).2
    have q3 : sh_3 [some (.val (.scr ns)), some (.val (.loc 0)), some (.val (dD x)), some (.val (rowD x)), some (.val (.int (c - 1))), some (.val (.tup [.str "units", .int (c - 1)])), none, none] a1 = .rt (.val (.bl true)) a1 := by
      unfold sh_3
      rcases h with h | h
      · simp [h, freeze, mkTup, allV, eq]
      · have h' : ¬ c - 1 < 0 := by omega
        simp [h, h', freeze, mkTup, allV, eq]
    rw [seq_then q2, x_sSeq, q3]
    rfl
  · obtain ⟨m, e2, fm⟩ := sum_in o (u := c - 1) (by omega) (by omega) s1.fresh
    have q2 : sh_2 [some (.val (.scr ns)), some (.val (.loc 0)), some (.val (dD x)), some (.val (rowD x)), some (.val (.int (c - 1))), none, none, none] a1 = .nx [some (.val (.scr ns)), some (.val (.loc 0)), some (.val (dD x)), some (.val (rowD x)), some (.val (.int (c - 1))), some (.val (dD (x.more (c - 1)))), none, none] a1 := by
      unfold sh_2
      simp [e2, fm, put_e]
    have n1 : ¬ c - 1 < 0 := by omega
    have n2 : ¬ 8 < c - 1 := by omega
    have q3 : sh_3 [some (.val (.scr ns)), some (.val (.loc 0)), some (.val (dD x)), some (.val (rowD x)), some (.val (.int (c - 1))), some (.val (dD (x.more (c - 1)))), none, none] a1 = .nx [some (.val (.scr ns)), some (.val (.loc 0)), some (.val (dD x)), some (.val (rowD x)), some (.val (.int (c - 1))), some (.val (dD (x.more (c - 1)))), none, none] a1 := by
      unfold sh_3
      simp [n1, n2]
    have l4 := o.l4
    have rl := o.rl
    have lc := more_lc7 x.rain (c - 1) (x0 := some (.scr ns)) (x1 := some (.loc 0)) (x2 := some (dD x)) (x3 := some (rowD x)) (x5 := some (dD (x.more (c - 1)))) (a := a1) (by omega)
    have fz := freezes_ints (x.more (c - 1)).rain
    have q4 : sh_4 [some (.val (.scr ns)), some (.val (.loc 0)), some (.val (dD x)), some (.val (rowD x)), some (.val (.int (c - 1))), some (.val (dD (x.more (c - 1)))), none, none] a1 = .nx [some (.val (.scr ns)), some (.val (.loc 0)), some (.val (dD x)), some (.val (rowD x)), some (.val (.int (c - 1))), some (.val (dD (x.more (c - 1)))), some (.val (.lst ((x.more (c - 1)).rain.map D.int))), none] a1 := by
      unfold sh_4
      simp only [x_sSet, x_lift]
      have sc : see [] 0 [some (.val (.scr ns)), some (.val (.loc 0)), some (.val (dD x)), some (.val (rowD x)), some (.val (.int (c - 1))), some (.val (dD (x.more (c - 1)))), none, none] = [some (.scr ns), some (.loc 0), some (dD x), some (rowD x), some (.int (c - 1)), some (dD (x.more (c - 1))), none, none] := rfl
      rw [sc]
      have ev : mV (vM (lcM [7] (iSeq (vS dIx (eVar 3) (eC (.int 1)))) (gNm 7) tT (mV (cV (bi2 gMin2) (aCons (eC (.int 8)) (aCons (cV (un1 gInt) (aCons (vNw dAdd (eVar 7) (eVar 4)) aNil)) aNil)))))) [some (.scr ns), some (.loc 0), some (dD x), some (rowD x), some (.int (c - 1)), some (dD (x.more (c - 1))), none, none] a1 = .ok (.val (.lst ((x.more (c - 1)).rain.map D.int))) a1 := by
        simp [i1, items, wipeD]
        rw [lc]
        simp only [map_ok, freeze]
        have fz' : freezes ((x.rain.map fun r => min 8 (r + (c - 1))).map fun i => M.val (.int i)) = _ := fz
        rw [fz']
      rw [ev, k_ok]
      simp only [oseq_ok]
      rw [put_e (by simp)]
      rfl
    have mk := dy_made (b := 1) (s := 2) (x := x.more (c - 1)) (L := .lst (x.dry.map D.int)) (L2 := .lst ((x.more (c - 1)).rain.map D.int)) (a := a1) (.inl rfl) (.inl rfl) (Dy.more_ok o (by omega)) s1.fresh
    have mk' : mkEnd 2 a1.length (f_Day_init [.loc a1.length, .lst (x.dry.map D.int), .lst ((x.more (c - 1)).rain.map D.int), .int x.fill, .int x.mood] (a1 ++ [.obj 2 [] []])) = _ := mk
    have we := ow_eq (x.more (c - 1)) (x.more (c - 1)) a1
    rw [eqB_self] at we
    have tp : gTuple a1 (.lst (x.rain.map D.int)) = some (.tup (x.rain.map D.int)) := rfl
    have f2 : dFld [2] [] "rain" (dD x) = _ := fld_rain []
    have n0 : dEq (.tup (x.rain.map D.int)) (.tup (x.rain.map D.int)) = _ := dEq_tints x.rain x.rain
    have mkv : vM (mkM 2 5 f_Day_init (aCons (vS dIx (eVar 3) (eC (.int 0))) (aCons (eVar 6) (aCons (vS dIx (eVar 3) (eC (.int 2))) (aCons (vS dIx (eVar 3) (eC (.int 3))) aNil))))) [some (.scr ns), some (.loc 0), some (dD x), some (rowD x), some (.int (c - 1)), some (dD (x.more (c - 1))), some (.lst ((x.more (c - 1)).rain.map D.int)), none] a1 = .ok (dD (x.more (c - 1))) a1 := by
      simp [x_mkM, i0, i2, i3]
      rw [mk']
      rfl
    have mkf : Out.map freeze (mkM 2 5 f_Day_init (aCons (vS dIx (eVar 3) (eC (.int 0))) (aCons (eVar 6) (aCons (vS dIx (eVar 3) (eC (.int 2))) (aCons (vS dIx (eVar 3) (eC (.int 3))) aNil)))) [some (.scr ns), some (.loc 0), some (dD x), some (rowD x), some (.int (c - 1)), some (dD (x.more (c - 1))), some (.lst ((x.more (c - 1)).rain.map D.int)), none] a1) = .ok (dD (x.more (c - 1))) a1 := mkv
    have q5 : sh_5 [some (.val (.scr ns)), some (.val (.loc 0)), some (.val (dD x)), some (.val (rowD x)), some (.val (.int (c - 1))), some (.val (dD (x.more (c - 1)))), some (.val (.lst ((x.more (c - 1)).rain.map D.int))), none] a1 = .rt (.val (.bl true)) a1 := by
      unfold sh_5
      simp only [x_sRet, x_lift]
      have sc : see [] 0 [some (.val (.scr ns)), some (.val (.loc 0)), some (.val (dD x)), some (.val (rowD x)), some (.val (.int (c - 1))), some (.val (dD (x.more (c - 1)))), some (.val (.lst ((x.more (c - 1)).rain.map D.int))), none] = [some (.scr ns), some (.loc 0), some (dD x), some (rowD x), some (.int (c - 1)), some (dD (x.more (c - 1))), some (.lst ((x.more (c - 1)).rain.map D.int)), none] := rfl
      rw [sc]
      simp [x_evW, mkf, we, f2, i1, tp, n0, freeze]
    rw [seq_then q2, seq_then q3, seq_then q4, q5]
    rfl
/-! #### the law's own <= -/
def hs_1 : SM := (sIf [] (tOn (tV (ev2 dNe (cV (un1 gLen) (aCons (vS dIx (eVar 0) (eC (.int 0))) aNil)) (cV (un1 gLen) (aCons (vS dIx (eVar 1) (eC (.int 0))) aNil)))) (tOn (tV (evW [(2, f_Day_eq)] true dNe (vS dIx (eVar 0) (eC (.int 3))) (vS dIx (eVar 1) (eC (.int 3))))) (tV (ev2 (dI gGt) (vS dIx (eVar 0) (eC (.int 2))) (vS dIx (eVar 1) (eC (.int 2))))))) (sRet [] (mV (eC (.bl false)))) sNil)
def hs_2_1 : SM := (sIf [] (tOn (tV (ev2 (dI gLt) (eVar 3) (vS dIx (vS dIx (eVar 1) (eC (.int 0))) (eVar 2)))) (tV (ev2 (dI gGt) (vS dIx (vS dIx (eVar 0) (eC (.int 1))) (eVar 2)) (vS dIx (vS dIx (eVar 1) (eC (.int 1))) (eVar 2))))) (sRet [] (mV (eC (.bl false)))) sNil)
def hs_2b : SM := hs_2_1
def hs_2 : SM := (sFor false [] (iEn (aCons (vS dIx (eVar 0) (eC (.int 0))) aNil)) (gTp 2 (gsCons (gOne 2) (gsCons (gOne 3) gsNil))) hs_2b)
def hs_3 : SM := (sRet [] (mV (eC (.bl true))))
theorem hs_is : m_law_harsher = (sSeq hs_1 (sSeq hs_2 hs_3)) := rfl
theorem ow_neI (i j : Int) (a : Sto) : opW [(2, f_Day_eq)] true dNe a (.int i) (.int j) = .ok (.bl (!decide (i = j))) a := by
  show Out.ok (D.bl (!(i == j))) a = _
  congr
def qH (yd xr yr : List Int) : D → Bool
  | .tup [.int n, .int l] => (match L2.atI yd n, L2.atI xr n, L2.atI yr n with
    | some p, some q, some r => decide (p ≤ l) && decide (q ≤ r)
    | _, _, _ => false)
  | _ => false
theorem qH_at {yd xr yr : List Int} {n : Nat} (l : Int) (h1 : n < yd.length) (h2 : n < xr.length) (h3 : n < yr.length) : qH yd xr yr (.tup [.int (n : Nat), .int l]) = (decide (yd[n] ≤ l) && decide (xr[n] ≤ yr[n])) := by
  show (match L2.atI yd ((n : Nat) : Int), L2.atI xr ((n : Nat) : Int), L2.atI yr ((n : Nat) : Int) with
    | some p, some q, some r => decide (p ≤ l) && decide (q ≤ r)
    | _, _, _ => false) = _
  rw [atI_nat' (show yd[n]? = some yd[n] from List.getElem?_eq_getElem h1), atI_nat' (show xr[n]? = some xr[n] from List.getElem?_eq_getElem h2), atI_nat' (show yr[n]? = some yr[n] from List.getElem?_eq_getElem h3)]
theorem all_H {yd xr yr : List Int} : ∀ (xs : List Int) (n : Nat), yd.length = n + xs.length → xr.length = n + xs.length → yr.length = n + xs.length → (enumD n (xs.map D.int)).all (qH yd xr yr) = (leL (yd.drop n) xs && leL (xr.drop n) (yr.drop n))
  | [], n, h1, h2, h3 => by
    rw [List.drop_of_length_le (by simp at h1; omega), List.drop_of_length_le (by simp at h2; omega), List.drop_of_length_le (by simp at h3; omega)]
    rfl
  | x :: xs, n, h1, h2, h3 => by
    rw [List.length_cons] at h1 h2 h3
    have n1 : n < yd.length := by omega
    have n2 : n < xr.length := by omega
    have n3 : n < yr.length := by omega
    rw [List.drop_eq_getElem_cons n1, List.drop_eq_getElem_cons n2, List.drop_eq_getElem_cons n3, List.map_cons, enumD, List.all_cons, all_H xs (n + 1) (by omega) (by omega) (by omega), qH_at x n1 n2 n3]
    show ((decide (yd[n] ≤ x) && decide (xr[n] ≤ yr[n])) && (leL (yd.drop (n + 1)) xs && leL (xr.drop (n + 1)) (yr.drop (n + 1)))) = ((decide (yd[n] ≤ x) && leL (yd.drop (n + 1)) xs) && (decide (xr[n] ≤ yr[n]) && leL (xr.drop (n + 1)) (yr.drop (n + 1))))
    cases decide (yd[n] ≤ x) <;> cases decide (xr[n] ≤ yr[n]) <;> cases leL (yd.drop (n + 1)) xs <;> rfl
theorem rowx (x : Dy) (a : Sto) : dIx a (rowD x) (.int 0) = some (.val (.lst (x.dry.map D.int))) ∧ dIx a (rowD x) (.int 1) = some (.val (.lst (x.rain.map D.int))) ∧ dIx a (rowD x) (.int 2) = some (.val (.int x.fill)) ∧ dIx a (rowD x) (.int 3) = some (.val (.int x.mood)) := row_at x a
theorem harsher_ok {x y : Dy} (hx : x.Ok) (hy : y.Ok) (a : Sto) : f_law_harsher [rowD x, rowD y] a = .ok (.val (.bl (x.leB y))) a := by
  obtain ⟨i0, i1, i2, i3⟩ := row_at x a
  obtain ⟨j0, j1, j2, j3⟩ := row_at y a
  show bodyM 2 4 m_law_harsher _ _ = _
  rw [show bodyM 2 4 m_law_harsher [rowD x, rowD y] a = outF (m_law_harsher (ent 4 [rowD x, rowD y]) a) from x_bodyM rfl, hs_is]
  show outF (sSeq hs_1 _ [some (.val (rowD x)), some (.val (rowD y)), none, none] a) = _
  unfold Dy.leB
  by_cases c1 : x.dry.length = y.dry.length
  · have c1' : (x.dry.length : Int) = y.dry.length := by omega
    by_cases c2 : x.mood = y.mood
    · by_cases c3 : x.fill ≤ y.fill
      · have c3' : ¬ y.fill < x.fill := by omega
        have q1 : hs_1 [some (.val (rowD x)), some (.val (rowD y)), none, none] a = .nx [some (.val (rowD x)), some (.val (rowD y)), none, none] a := by
          unfold hs_1
          simp [i0, j0, i2, j2, i3, j3, x_evW, ow_neI, c1', c2, c3']
        rw [seq_then q1, decide_eq_true c1, decide_eq_true c2, decide_eq_true c3, Bool.true_and, Bool.true_and, Bool.and_true]
        have rx := hx.rl
        have ry := hy.rl
        have lp := loop_all (g := gTp 2 (gsCons (gOne 2) (gsCons (gOne 3) gsNil))) (f := hs_2b) (a := a) (r := .val (.bl false)) (qH y.dry x.rain y.rain) (fun δ => ∃ o2 o3 : Option D, δ = [some (.val (rowD x)), some (.val (rowD y)), o2.map M.val, o3.map M.val]) (ds := enumD 0 (x.dry.map D.int)) (fun d hd δ hδ => by
          obtain ⟨o2, o3, rfl⟩ := hδ
          obtain ⟨k, l, rfl, _, hk⟩ := enum_mem x.dry 0 d hd
          have k1 : k < y.dry.length := by omega
          have k2 : k < x.rain.length := by omega
          have k3 : k < y.rain.length := by omega
          have x1 : L2.atI (y.dry.map D.int) (k : Int) = some (.int y.dry[k]) := atI_nat' (by simp [k1])
          have x2 : L2.atI (x.rain.map D.int) (k : Int) = some (.int x.rain[k]) := atI_nat' (by simp [k2])
          have x3 : L2.atI (y.rain.map D.int) (k : Int) = some (.int y.rain[k]) := atI_nat' (by simp [k3])
          rw [qH_at l k1 k2 k3]
          refine ⟨[some (.val (rowD x)), some (.val (rowD y)), some (.val (.int k)), some (.val (.int l))], rfl, fun c => ⟨[some (.val (rowD x)), some (.val (rowD y)), some (.val (.int k)), some (.val (.int l))], ?_, some (.int k), some (.int l), rfl⟩, fun c => ?_⟩
          · obtain ⟨c1, c2⟩ := Bool.and_eq_true_iff.mp c
            have d1 : ¬ l < y.dry[k] := by have := of_decide_eq_true c1; omega
            have d2 : ¬ y.rain[k] < x.rain[k] := by have := of_decide_eq_true c2; omega
            unfold hs_2b hs_2_1
            simp [j0, i1, j1, x1, x2, x3, d1, d2]
          · by_cases d1 : l < y.dry[k]
            · unfold hs_2b hs_2_1
              simp [j0, i1, j1, x1, x2, x3, d1]
            · have d2 : y.rain[k] < x.rain[k] := by
                rw [decide_eq_true (p := y.dry[k] ≤ l) (by omega), Bool.true_and] at c
                have := of_decide_eq_false c
                omega
              unfold hs_2b hs_2_1
              simp [j0, i1, j1, x1, x2, x3, d1, d2]) (δ := [some (.val (rowD x)), some (.val (rowD y)), none, none]) ⟨none, none, rfl⟩
        rw [all_H x.dry 0 (by omega) (by omega) (by omega), List.drop_zero, List.drop_zero, List.drop_zero] at lp
        have en : gEn [.lst (x.dry.map D.int)] = some (enumD 0 (x.dry.map D.int)) := rfl
        have st : hs_2 [some (.val (rowD x)), some (.val (rowD y)), none, none] a = sLoop (gTp 2 (gsCons (gOne 2) (gsCons (gOne 3) gsNil))) hs_2b (enumD 0 (x.dry.map D.int)) [some (.val (rowD x)), some (.val (rowD y)), none, none] a := by
          unfold hs_2
          simp [i0, en]
        cases c : (leL y.dry x.dry && leL x.rain y.rain) with
        | true =>
          obtain ⟨δ', e, o2, o3, rfl⟩ := lp.1 c
          rw [seq_then (st.trans e)]
          rfl
        | false =>
          rw [x_sSeq, st, lp.2 c]
          rfl
      · have c3' : y.fill < x.fill := by omega
        have q1 : hs_1 [some (.val (rowD x)), some (.val (rowD y)), none, none] a = .rt (.val (.bl false)) a := by
          unfold hs_1
          simp [i0, j0, i2, j2, i3, j3, x_evW, ow_neI, c1', c2, c3']
        rw [x_sSeq, q1, decide_eq_false c3]
        simp
    · have q1 : hs_1 [some (.val (rowD x)), some (.val (rowD y)), none, none] a = .rt (.val (.bl false)) a := by
        unfold hs_1
        simp [i0, j0, i3, j3, x_evW, ow_neI, c1', c2]
      rw [x_sSeq, q1, decide_eq_false c2]
      simp
  · have c1' : ¬ (x.dry.length : Int) = y.dry.length := by omega
    have q1 : hs_1 [some (.val (rowD x)), some (.val (rowD y)), none, none] a = .rt (.val (.bl false)) a := by
      unfold hs_1
      simp [i0, j0, c1']
    rw [x_sSeq, q1, decide_eq_false c1]
    simp
/-! #### refusals -/
def rf_1 : SM := (sTry (sDrop [] (mkM 2 5 f_Day_init (aCons (eVar 0) (aCons (eVar 1) (aCons (eVar 2) (aCons (eVar 3) aNil)))))) (⟨[1], [1], some 4, (sRet [] (mTup (lCons (mV (ev1 (dFld [] [1] "what") (eVar 4))) (lCons (mV (ev1 (dFld [] [1] "value") (eVar 4))) lNil))))⟩ :: []))
def rf_2 : SM := (sRet [] (mTup (lCons (mV (eC (.str "none"))) (lCons (mV (eC (.int 0))) lNil))))
theorem rf_is : m_law_refusal = (sSeq rf_1 rf_2) := rfl
def rh_1 : SM := (sSet 4 [] (mV (vM (callM 3 f_law_draw (aCons (eVar 0) (aCons (eVar 1) (aCons (eVar 3) aNil)))))))
def rh_2 : SM := (sSet 5 [] (mV (vS dIx (vM (mLst (lCons (mV (ev1 gNeg (eC (.int 1)))) (lCons (mV (eC (.int 9))) (lCons (mV (ev2 (dI gPow) (eC (.int 10)) (eC (.int 20)))) (lCons (mV (eC (.bl true))) lNil)))))) (vM (callM 3 f_law_draw (aCons (eVar 0) (aCons (eVar 1) (aCons (eC (.int 4)) aNil))))))))
def rh_3 : SM := (sSet 6 [] (mV (vM (eN dAdd (vNw dAdd (vM (slN (vS dIx (eVar 2) (eC (.int 0))) oNo (oSome (eVar 4)))) (vM (mLst (lCons (mV (eVar 5)) lNil)))) (vM (slN (vS dIx (eVar 2) (eC (.int 0))) (oSome (vNw dAdd (eVar 4) (eC (.int 1)))) oNo))))))
def rh_4 : SM := (sSet 7 [] (mV (vM (eN dAdd (vNw dAdd (vM (slN (vS dIx (eVar 2) (eC (.int 1))) oNo (oSome (eVar 4)))) (vM (mLst (lCons (mV (eVar 5)) lNil)))) (vM (slN (vS dIx (eVar 2) (eC (.int 1))) (oSome (vNw dAdd (eVar 4) (eC (.int 1)))) oNo))))))
def rh_5 : SM := (sIf [] (tV (ev2 dNe (vM (callM 4 f_law_refusal (aCons (eVar 6) (aCons (vNw dAdd (vS dIx (eVar 2) (eC (.int 1))) (vM (mLst (lCons (mV (eC (.int 0))) lNil)))) (aCons (eC (.int 9)) (aCons (eC (.int 9)) aNil)))))) (vM (mTup (lCons (mV (eC (.str "dry"))) (lCons (mV (eVar 5)) lNil)))))) (sRet [] (mV (eC (.bl false)))) sNil)
def rh_6 : SM := (sIf [] (tV (ev2 dNe (vM (callM 4 f_law_refusal (aCons (vS dIx (eVar 2) (eC (.int 0))) (aCons (eVar 7) (aCons (eC (.int 9)) (aCons (eC (.int 4)) aNil)))))) (vM (mTup (lCons (mV (eC (.str "rain"))) (lCons (mV (eVar 5)) lNil)))))) (sRet [] (mV (eC (.bl false)))) sNil)
def rh_7 : SM := (sIf [] (tV (ev2 dNe (vM (callM 4 f_law_refusal (aCons (vS dIx (eVar 2) (eC (.int 0))) (aCons (vNw dAdd (eVar 7) (vM (mLst (lCons (mV (eC (.int 0))) lNil)))) (aCons (eC (.int 9)) (aCons (eC (.int 9)) aNil)))))) (vM (mTup (lCons (mV (eC (.str "plots"))) (lCons (mV (vNw dAdd (eVar 3) (eC (.int 1)))) lNil)))))) (sRet [] (mV (eC (.bl false)))) sNil)
def rh_8 : SM := (sIf [] (tOn (tV (ev2 dNe (vM (callM 4 f_law_refusal (aCons (vM (mLst lNil)) (aCons (vM (mLst lNil)) (aCons (eC (.int 9)) (aCons (eC (.int 9)) aNil)))))) (vM (mTup (lCons (mV (eC (.str "plots"))) (lCons (mV (eC (.int 0))) lNil)))))) (tV (ev2 dNe (vM (callM 4 f_law_refusal (aCons (vNw dMul (vM (mLst (lCons (mV (eC (.int 1))) lNil))) (eC (.int 5))) (aCons (vNw dMul (vM (mLst (lCons (mV (eC (.int 1))) lNil))) (eC (.int 5))) (aCons (eC (.int 0)) (aCons (eC (.int 0)) aNil)))))) (vM (mTup (lCons (mV (eC (.str "plots"))) (lCons (mV (eC (.int 5))) lNil))))))) (sRet [] (mV (eC (.bl false)))) sNil)
def rh_9 : SM := (sIf [] (tV (ev2 dNe (vM (callM 4 f_law_refusal (aCons (vS dIx (eVar 2) (eC (.int 0))) (aCons (vS dIx (eVar 2) (eC (.int 1))) (aCons (eVar 5) (aCons (eC (.int 4)) aNil)))))) (vM (mTup (lCons (mV (eC (.str "fill"))) (lCons (mV (eVar 5)) lNil)))))) (sRet [] (mV (eC (.bl false)))) sNil)
def rh_10 : SM := (sIf [] (tV (ev2 dNe (vM (callM 4 f_law_refusal (aCons (vS dIx (eVar 2) (eC (.int 0))) (aCons (vS dIx (eVar 2) (eC (.int 1))) (aCons (eC (.int 8)) (aCons (eC (.int 4)) aNil)))))) (vM (mTup (lCons (mV (eC (.str "mood"))) (lCons (mV (eC (.int 4))) lNil)))))) (sRet [] (mV (eC (.bl false)))) sNil)
def rh_11 : SM := (sRet [] (mV (ev2 dEq (vM (callM 4 f_law_refusal (aCons (vS dIx (eVar 2) (eC (.int 0))) (aCons (vS dIx (eVar 2) (eC (.int 1))) (aCons (eC (.int 0)) (aCons (eC (.int 3)) aNil)))))) (vM (mTup (lCons (mV (eC (.str "none"))) (lCons (mV (eC (.int 0))) lNil)))))))
theorem rh_is : m_law_refusals_hold = (sSeq rh_1 (sSeq rh_2 (sSeq rh_3 (sSeq rh_4 (sSeq rh_5 (sSeq rh_6 (sSeq rh_7 (sSeq rh_8 (sSeq rh_9 (sSeq rh_10 rh_11)))))))))) := rfl
theorem refusal_exc {L L2 T M' : D} {w : Str} {d : D} {a : Sto} (h : mkEnd 2 a.length (f_Day_init [.loc a.length, L, L2, T, M'] (a ++ [.obj 2 [] []])) = .exc 1 ["what", "value"] [.str w, d] a) : f_law_refusal [L, L2, T, M'] a = .ok (.val (.tup [.str w, d])) a := by
  show bodyM 4 5 m_law_refusal _ _ = _
  rw [show bodyM 4 5 m_law_refusal [L, L2, T, M'] a = outF (m_law_refusal (ent 5 [L, L2, T, M']) a) from x_bodyM rfl, rf_is]
  show outF (sSeq rf_1 _ [some (.val L), some (.val L2), some (.val T), some (.val M'), none] a) = _
  have l1 : dFld [] [1] "what" (.exc 1 ["what", "value"] [.str w, d]) = some (.str w) := rfl
  have l2 : dFld [] [1] "value" (.exc 1 ["what", "value"] [.str w, d]) = some d := rfl
  have q : rf_1 [some (.val L), some (.val L2), some (.val T), some (.val M'), none] a = .rt (.val (.tup [.str w, d])) a := by
    unfold rf_1
    simp [x_sTry, x_mkM, h, tryH, outM, l1, l2, mkTup, allV]
  rw [x_sSeq, q]
  rfl
theorem refusal_none {L L2 T M' : D} {m : M} {a : Sto} (h : mkEnd 2 a.length (f_Day_init [.loc a.length, L, L2, T, M'] (a ++ [.obj 2 [] []])) = .ok m a) : f_law_refusal [L, L2, T, M'] a = .ok (.val (.tup [.str "none", .int 0])) a := by
  show bodyM 4 5 m_law_refusal _ _ = _
  rw [show bodyM 4 5 m_law_refusal [L, L2, T, M'] a = outF (m_law_refusal (ent 5 [L, L2, T, M']) a) from x_bodyM rfl, rf_is]
  show outF (sSeq rf_1 _ [some (.val L), some (.val L2), some (.val T), some (.val M'), none] a) = _
  have q : rf_1 [some (.val L), some (.val L2), some (.val T), some (.val M'), none] a = .nx [some (.val L), some (.val L2), some (.val T), some (.val M'), none] a := by
    unfold rf_1
    simp [x_sTry, x_mkM, h]
  rw [seq_then q]
  unfold rf_2
  simp [mkTup, allV]
section
variable {L L2 T M' : D} {ds rs : List D} {a : Sto}
theorem ref_len (hL : Row L ds) (hR : Row L2 rs) (hp : ∀ d ∈ ds, plain d = true) (hp2 : ∀ d ∈ rs, plain d = true) (ht : plain T = true) (hm : plain M' = true) (ha : Fresh a) (h : okB (.int ds.length) 1 4 = false) : f_law_refusal [L, L2, T, M'] a = .ok (.val (.tup [.str "plots", .int ds.length])) a := by
  refine refusal_exc ?_
  rw [init_is, dy_init hL hR hp hp2 ht hm ha]
  unfold dyO
  rw [if_neg (by rw [h]; decide)]
theorem ref_dry (hL : Row L ds) (hR : Row L2 rs) (hp : ∀ d ∈ ds, plain d = true) (hp2 : ∀ d ∈ rs, plain d = true) (ht : plain T = true) (hm : plain M' = true) (ha : Fresh a) (h : okB (.int ds.length) 1 4 = true) {d : D} (hf : ds.find? (fun d => !okB d 0 8) = some d) : f_law_refusal [L, L2, T, M'] a = .ok (.val (.tup [.str "dry", d])) a := by
  refine refusal_exc ?_
  rw [init_is, dy_init hL hR hp hp2 ht hm ha]
  unfold dyO
  rw [if_pos h, hf]
theorem ref_len2 (hL : Row L ds) (hR : Row L2 rs) (hp : ∀ d ∈ ds, plain d = true) (hp2 : ∀ d ∈ rs, plain d = true) (ht : plain T = true) (hm : plain M' = true) (ha : Fresh a) (h : okB (.int ds.length) 1 4 = true) (hf : ds.find? (fun d => !okB d 0 8) = none) (h2 : okB (.int rs.length) ds.length ds.length = false) : f_law_refusal [L, L2, T, M'] a = .ok (.val (.tup [.str "plots", .int rs.length])) a := by
  refine refusal_exc ?_
  rw [init_is, dy_init hL hR hp hp2 ht hm ha]
  unfold dyO
  rw [if_pos h, hf]
  dsimp only
  rw [if_neg (by rw [h2]; decide)]
theorem ref_rain (hL : Row L ds) (hR : Row L2 rs) (hp : ∀ d ∈ ds, plain d = true) (hp2 : ∀ d ∈ rs, plain d = true) (ht : plain T = true) (hm : plain M' = true) (ha : Fresh a) (h : okB (.int ds.length) 1 4 = true) (hf : ds.find? (fun d => !okB d 0 8) = none) (h2 : okB (.int rs.length) ds.length ds.length = true) {d : D} (hf2 : rs.find? (fun d => !okB d 0 8) = some d) : f_law_refusal [L, L2, T, M'] a = .ok (.val (.tup [.str "rain", d])) a := by
  refine refusal_exc ?_
  rw [init_is, dy_init hL hR hp hp2 ht hm ha]
  unfold dyO
  rw [if_pos h, hf]
  dsimp only
  rw [if_pos h2, hf2]
theorem ref_fill (hL : Row L ds) (hR : Row L2 rs) (hp : ∀ d ∈ ds, plain d = true) (hp2 : ∀ d ∈ rs, plain d = true) (ht : plain T = true) (hm : plain M' = true) (ha : Fresh a) (h : okB (.int ds.length) 1 4 = true) (hf : ds.find? (fun d => !okB d 0 8) = none) (h2 : okB (.int rs.length) ds.length ds.length = true) (hf2 : rs.find? (fun d => !okB d 0 8) = none) (h3 : okB T 0 8 = false) : f_law_refusal [L, L2, T, M'] a = .ok (.val (.tup [.str "fill", T])) a := by
  refine refusal_exc ?_
  rw [init_is, dy_init hL hR hp hp2 ht hm ha]
  unfold dyO
  rw [if_pos h, hf]
  dsimp only
  rw [if_pos h2, hf2]
  dsimp only
  rw [if_neg (by rw [h3]; decide)]
theorem ref_mood (hL : Row L ds) (hR : Row L2 rs) (hp : ∀ d ∈ ds, plain d = true) (hp2 : ∀ d ∈ rs, plain d = true) (ht : plain T = true) (hm : plain M' = true) (ha : Fresh a) (h : okB (.int ds.length) 1 4 = true) (hf : ds.find? (fun d => !okB d 0 8) = none) (h2 : okB (.int rs.length) ds.length ds.length = true) (hf2 : rs.find? (fun d => !okB d 0 8) = none) (h3 : okB T 0 8 = true) (h4 : okB M' 0 3 = false) : f_law_refusal [L, L2, T, M'] a = .ok (.val (.tup [.str "mood", M'])) a := by
  refine refusal_exc ?_
  rw [init_is, dy_init hL hR hp hp2 ht hm ha]
  unfold dyO
  rw [if_pos h, hf]
  dsimp only
  rw [if_pos h2, hf2]
  dsimp only
  rw [if_pos h3, if_neg (by rw [h4]; decide)]
end
structure Wrong (d : D) : Prop where
  p : plain d = true
  k8 : okB d 0 8 = false
  fl : dd 7 d = true ∧ eqvD d d = true
theorem x_pow : gPow 10 20 = some (.int 100000000000000000000) := by
  unfold gPow
  rw [if_pos (by decide)]
  rfl
theorem wrong_at {r : Int} (h : 0 ≤ r) (h2 : r < 4) : ∃ d, L2.atI [D.int (-1), .int 9, .int 100000000000000000000, .bl true] r = some d ∧ Wrong d := by
  have k : r = 0 ∨ r = 1 ∨ r = 2 ∨ r = 3 := by omega
  rcases k with rfl | rfl | rfl | rfl
  · exact ⟨_, rfl, rfl, rfl, rfl, rfl⟩
  · exact ⟨_, rfl, rfl, rfl, rfl, rfl⟩
  · exact ⟨_, rfl, rfl, rfl, rfl, rfl⟩
  · exact ⟨_, rfl, rfl, rfl, rfl, rfl⟩
def badL (l : List Int) (k : Nat) (d : D) : List D := (l.map D.int).take k ++ d :: (l.map D.int).drop (k + 1)
theorem bad_len {l : List Int} {k : Nat} (d : D) (h : k < l.length) : (badL l k d).length = l.length := by
  unfold badL
  simp
  omega
theorem bad_find {l : List Int} {d : D} (k : Nat) (h : ∀ i ∈ l, 0 ≤ i ∧ i ≤ 8) (hd : okB d 0 8 = false) : (badL l k d).find? (fun d => !okB d 0 8) = some d := by
  unfold badL
  rw [List.find?_append]
  have z : ((l.map D.int).take k).find? (fun d => !okB d 0 8) = none := by
    rw [← List.map_take]
    exact find_ok fun i hi => h i (List.mem_of_mem_take hi)
  rw [z, List.find?_cons_of_pos (by rw [hd]; rfl)]
  rfl
theorem bad_plain {l : List Int} {k : Nat} {d : D} (hd : plain d = true) : ∀ x ∈ badL l k d, plain x = true := fun x hx => by
  rcases List.mem_append.mp hx with hx | hx
  · exact plain_is l x (List.mem_of_mem_take hx)
  · rcases List.mem_cons.mp hx with rfl | hx
    · exact hd
    · exact plain_is l x (List.mem_of_mem_drop hx)
abbrev RS8 (ns : List Int) (x : Dy) (o4 o5 o6 o7 : Option D) : SlM := [some (.val (.scr ns)), some (.val (.loc 0)), some (.val (rowD x)), some (.val (.int x.dry.length)), o4.map M.val, o5.map M.val, o6.map M.val, o7.map M.val]
theorem cutR (ns : List Int) (x : Dy) (k : Nat) (d : D) (l : List Int) (hl : l.length ≤ 4) (j : Int) (a : Sto) (hj : dIx a (rowD x) (.int j) = some (.val (.lst (l.map D.int)))) (z6 z7 : Option D) :
    eN dAdd (vNw dAdd (vM (slN (vS dIx (eVar 2) (eC (.int j))) oNo (oSome (eVar 4)))) (vM (mLst (lCons (mV (eVar 5)) lNil)))) (vM (slN (vS dIx (eVar 2) (eC (.int j))) (oSome (vNw dAdd (eVar 4) (eC (.int 1)))) oNo)) [some (.scr ns), some (.loc 0), some (rowD x), some (.int x.dry.length), some (.int k), some d, z6, z7] a = .ok (.lst ((badL l k d).map M.val)) a := by
  have ad1 : dAdd (.lst ((l.map D.int).take k)) (.lst [d]) = _ := r_addL (by simp; omega)
  have ad2 : dAdd (.lst ((l.map D.int).take k ++ [d])) (.lst ((l.map D.int).drop (k + 1))) = _ := r_addL (by simp; omega)
  have sd := sl_drop (l.map D.int) (k + 1)
  rw [Int.natCast_add, Int.natCast_one] at sd
  have fz1 : freezes (List.take k (l.map (M.val ∘ D.int))) = (l.map D.int).take k := by
    rw [freezes_map, List.map_take, List.map_map]
    rfl
  have fz2 : freezes (List.drop (k + 1) (l.map (M.val ∘ D.int))) = (l.map D.int).drop (k + 1) := by
    rw [freezes_map, List.map_drop, List.map_map]
    rfl
  simp only [x_eN, x_vNw, x_vM, x_slN, x_oNo, x_oSome]
  simp [hj, sl_take, sd, freeze, freezes, freezes_val, ad1, ad2, fz1, fz2, badL]
theorem refusals_ok (ns : List Int) {x : Dy} (o : x.Ok) {a : Sto} (ha : St4 a) : ∃ a', f_law_refusals_hold [.scr ns, .loc 0, rowD x, .int x.dry.length] a = .ok (.val (.bl true)) a' ∧ St4 a' := by
  have l1 := o.l1
  have l4 := o.l4
  have rl := o.rl
  obtain ⟨at_, a1, h0, h1, e1, s1⟩ := draw_at ns (lim := x.dry.length) (by omega) (by omega) ha
  obtain ⟨r, a2, h2, h3, e2, s2⟩ := draw_at ns (lim := 4) (by decide) (by decide) s1
  obtain ⟨d, wd, hw⟩ := wrong_at h2 h3
  obtain ⟨k, rfl⟩ : ∃ k : Nat, at_ = k := ⟨at_.toNat, by omega⟩
  have hk : k < x.dry.length := by omega
  have hk2 : k < x.rain.length := by omega
  obtain ⟨i0, i1, i2, i3⟩ := row_at x a2
  have fr := s2.fresh
  refine ⟨a2, ?_, s2⟩
  have q1 : rh_1 (RS8 ns x none none none none) a = .nx (RS8 ns x (some (.int k)) none none none) a1 := by
    unfold rh_1
    simp [e1, freeze, put_e]
  have q2 : rh_2 (RS8 ns x (some (.int k)) none none none) a1 = .nx (RS8 ns x (some (.int k)) (some d) none none) a2 := by
    unfold rh_2
    simp [gNeg, x_pow, freeze, freezes, e2, wd, put_e]
  have b1 := cutR ns x k d x.dry (by omega) 0 a2 i0 none none
  have b2 := cutR ns x k d x.rain (by omega) 1 a2 i1 (some (.lst (badL x.dry k d))) none
  have q3 : rh_3 (RS8 ns x (some (.int k)) (some d) none none) a2 = .nx (RS8 ns x (some (.int k)) (some d) (some (.lst (badL x.dry k d))) none) a2 := by
    unfold rh_3
    rw [x_sSet, x_lift, show see [] 0 (RS8 ns x (some (.int k)) (some d) none none) = [some (.scr ns), some (.loc 0), some (rowD x), some (.int x.dry.length), some (.int k), some d, none, none] from rfl, x_mV, x_vM, b1]
    simp [freeze, freezes_val, put_e]
  have q4 : rh_4 (RS8 ns x (some (.int k)) (some d) (some (.lst (badL x.dry k d))) none) a2 = .nx (RS8 ns x (some (.int k)) (some d) (some (.lst (badL x.dry k d))) (some (.lst (badL x.rain k d)))) a2 := by
    unfold rh_4
    rw [x_sSet, x_lift, show see [] 0 (RS8 ns x (some (.int k)) (some d) (some (.lst (badL x.dry k d))) none) = [some (.scr ns), some (.loc 0), some (rowD x), some (.int x.dry.length), some (.int k), some d, some (.lst (badL x.dry k d)), none] from rfl, x_mV, x_vM, b2]
    simp [freeze, freezes_val, put_e]
  have lb1 := bad_len (l := x.dry) (k := k) d hk
  have lb2 := bad_len (l := x.rain) (k := k) d hk2
  have pd := plain_is x.dry
  have pr := plain_is x.rain
  have pb1 := bad_plain (l := x.dry) (k := k) hw.p
  have pb2 := bad_plain (l := x.rain) (k := k) hw.p
  have k1 : okB (.int (x.dry.map D.int).length) 1 4 = true := ok_in (by rw [List.length_map]; omega) (by rw [List.length_map]; omega)
  have k1b : okB (.int (badL x.dry k d).length) 1 4 = true := ok_in (by rw [lb1]; omega) (by rw [lb1]; omega)
  have fd := find_ok o.ed
  have frn := find_ok o.er
  have k2 : okB (.int (x.rain.map D.int).length) (x.dry.map D.int).length (x.dry.map D.int).length = true := ok_in (by rw [List.length_map, List.length_map]; omega) (by rw [List.length_map, List.length_map]; omega)
  have k2b : okB (.int (badL x.rain k d).length) (x.dry.map D.int).length (x.dry.map D.int).length = true := ok_in (by rw [lb2, List.length_map]; omega) (by rw [lb2, List.length_map]; omega)
  have pz : ∀ (l : List D), (∀ y ∈ l, plain y = true) → ∀ y ∈ l ++ [D.int 0], plain y = true := fun l hl y hy => by
    rcases List.mem_append.mp hy with hy | hy
    · exact hl y hy
    · rw [List.mem_singleton.mp hy]
      rfl
  have k2c : okB (.int (badL x.rain k d ++ [D.int 0]).length) (x.dry.map D.int).length (x.dry.map D.int).length = false := by
    show (decide _ && decide _) = false
    rw [decide_eq_false (p := ((badL x.rain k d ++ [D.int 0]).length : Int) ≤ (x.dry.map D.int).length) (by rw [List.length_append, lb2, List.length_map, List.length_singleton]; omega), Bool.and_false]
  have r5 := ref_dry (L := .lst (badL x.dry k d)) (L2 := .lst (x.rain.map D.int ++ [.int 0])) (T := .int 9) (M' := .int 9) (a := a2) (.inl rfl) (.inl rfl) pb1 (pz _ pr) rfl rfl fr k1b (bad_find k o.ed hw.k8)
  have r6 := ref_rain (L := .lst (x.dry.map D.int)) (L2 := .lst (badL x.rain k d)) (T := .int 9) (M' := .int 4) (a := a2) (.inl rfl) (.inl rfl) pd pb2 rfl rfl fr k1 fd k2b (bad_find k o.er hw.k8)
  have r7 := ref_len2 (L := .lst (x.dry.map D.int)) (L2 := .lst (badL x.rain k d ++ [.int 0])) (T := .int 9) (M' := .int 9) (a := a2) (.inl rfl) (.inl rfl) pd (pz _ pb2) rfl rfl fr k1 fd k2c
  have e7 : ((badL x.rain k d ++ [D.int 0]).length : Int) = (x.dry.length : Int) + 1 := by
    rw [List.length_append, lb2, List.length_singleton]
    omega
  rw [e7] at r7
  have r8 : f_law_refusal [.lst [], .lst [], .int 9, .int 9] a2 = .ok (.val (.tup [.str "plots", .int 0])) a2 := ref_len (ds := []) (rs := []) (.inl rfl) (.inl rfl) (fun x hx => nomatch hx) (fun x hx => nomatch hx) rfl rfl fr rfl
  have r8b : f_law_refusal [.lst [.int 1, .int 1, .int 1, .int 1, .int 1], .lst [.int 1, .int 1, .int 1, .int 1, .int 1], .int 0, .int 0] a2 = .ok (.val (.tup [.str "plots", .int 5])) a2 := ref_len (ds := [.int 1, .int 1, .int 1, .int 1, .int 1]) (rs := [.int 1, .int 1, .int 1, .int 1, .int 1]) (.inl rfl) (.inl rfl) (plain_is [1, 1, 1, 1, 1]) (plain_is [1, 1, 1, 1, 1]) rfl rfl fr rfl
  have r9 := ref_fill (L := .lst (x.dry.map D.int)) (L2 := .lst (x.rain.map D.int)) (T := d) (M' := .int 4) (a := a2) (.inl rfl) (.inl rfl) pd pr hw.p rfl fr k1 fd k2 frn hw.k8
  have r10 := ref_mood (L := .lst (x.dry.map D.int)) (L2 := .lst (x.rain.map D.int)) (T := .int 8) (M' := .int 4) (a := a2) (.inl rfl) (.inl rfl) pd pr rfl rfl fr k1 fd k2 frn rfl rfl
  have r11 : f_law_refusal [.lst (x.dry.map D.int), .lst (x.rain.map D.int), .int 0, .int 3] a2 = .ok (.val (.tup [.str "none", .int 0])) a2 := refusal_none (dy_made (b := 1) (s := 2) (x := ⟨x.dry, x.rain, 0, 3⟩) (.inl rfl) (.inl rfl) ⟨o.l1, o.l4, o.rl, o.ed, o.er, ⟨Int.le_refl 0, (by decide : (0 : Int) ≤ 8)⟩, ⟨(by decide : (0 : Int) ≤ 3), Int.le_refl 3⟩⟩ fr)
  have n5 := (eqs_self (w := "dry") (by decide +kernel) hw.fl).1
  have n6 := (eqs_self (w := "rain") (by decide +kernel) hw.fl).1
  have n7 := (eqs_self (w := "plots") (d := .int ((x.dry.length : Int) + 1)) (by decide +kernel) (int_self _)).1
  have n8 := (eqs_self (w := "plots") (d := .int 0) (by decide +kernel) (int_self _)).1
  have n8b := (eqs_self (w := "plots") (d := .int 5) (by decide +kernel) (int_self _)).1
  have n9 := (eqs_self (w := "fill") (by decide +kernel) hw.fl).1
  have n10 := (eqs_self (w := "mood") (d := .int 4) (by decide +kernel) (int_self _)).1
  have n11 := (eqs_self (w := "none") (d := .int 0) (by decide +kernel) (int_self _)).2
  have ad : ∀ l : List D, l.length ≤ 100 → dAdd (.lst l) (.lst [.int 0]) = some (.lst (l ++ [.int 0])) := fun l hl => r_addL (by simp; omega)
  have ad1 := ad (x.rain.map D.int) (by rw [List.length_map]; omega)
  have ad2 := ad (badL x.rain k d) (by rw [lb2]; omega)
  have mu : dMul (.lst [.int 1]) (.int 5) = some (.lst [.int 1, .int 1, .int 1, .int 1, .int 1]) := rfl
  generalize badL x.dry k d = B1 at *
  generalize badL x.rain k d = B2 at *
  have q5 : rh_5 (RS8 ns x (some (.int k)) (some d) (some (.lst B1)) (some (.lst B2))) a2 = .nx (RS8 ns x (some (.int k)) (some d) (some (.lst B1)) (some (.lst B2))) a2 := by
    unfold rh_5
    simp [i1, ad1, r5, freeze, freezes, mkTup, allV, n5]
  have q6 : rh_6 (RS8 ns x (some (.int k)) (some d) (some (.lst B1)) (some (.lst B2))) a2 = .nx (RS8 ns x (some (.int k)) (some d) (some (.lst B1)) (some (.lst B2))) a2 := by
    unfold rh_6
    simp [i0, r6, freeze, freezes, mkTup, allV, n6]
  have q7 : rh_7 (RS8 ns x (some (.int k)) (some d) (some (.lst B1)) (some (.lst B2))) a2 = .nx (RS8 ns x (some (.int k)) (some d) (some (.lst B1)) (some (.lst B2))) a2 := by
    unfold rh_7
    simp [i0, ad2, r7, freeze, freezes, mkTup, allV, n7]
  have q8 : rh_8 (RS8 ns x (some (.int k)) (some d) (some (.lst B1)) (some (.lst B2))) a2 = .nx (RS8 ns x (some (.int k)) (some d) (some (.lst B1)) (some (.lst B2))) a2 := by
    unfold rh_8
    simp [r8, r8b, mu, freeze, freezes, mkTup, allV, n8, n8b]
  have q9 : rh_9 (RS8 ns x (some (.int k)) (some d) (some (.lst B1)) (some (.lst B2))) a2 = .nx (RS8 ns x (some (.int k)) (some d) (some (.lst B1)) (some (.lst B2))) a2 := by
    unfold rh_9
    simp [i0, i1, r9, freeze, freezes, mkTup, allV, n9]
  have q10 : rh_10 (RS8 ns x (some (.int k)) (some d) (some (.lst B1)) (some (.lst B2))) a2 = .nx (RS8 ns x (some (.int k)) (some d) (some (.lst B1)) (some (.lst B2))) a2 := by
    unfold rh_10
    simp [i0, i1, r10, freeze, freezes, mkTup, allV, n10]
  have q11 : rh_11 (RS8 ns x (some (.int k)) (some d) (some (.lst B1)) (some (.lst B2))) a2 = .rt (.val (.bl true)) a2 := by
    unfold rh_11
    simp [i0, i1, r11, freeze, freezes, mkTup, allV, n11]
  show bodyM 4 8 m_law_refusals_hold _ _ = _
  rw [show bodyM 4 8 m_law_refusals_hold [.scr ns, .loc 0, rowD x, .int x.dry.length] a = outF (m_law_refusals_hold (ent 8 [.scr ns, .loc 0, rowD x, .int x.dry.length]) a) from x_bodyM rfl, rh_is]
  show outF (sSeq rh_1 _ (RS8 ns x none none none none) a) = _
  rw [seq_then q1, seq_then q2, seq_then q3, seq_then q4, seq_then q5, seq_then q6, seq_then q7, seq_then q8, seq_then q9, seq_then q10, q11]
  rfl
/-! #### the law -/
theorem dd_row (x : Dy) : [D.lst (x.dry.map D.int), .lst (x.rain.map D.int), .int x.fill, .int x.mood].all (dd 7) = true := by
  show (dd 7 (.lst (x.dry.map D.int)) && (dd 7 (.lst (x.rain.map D.int)) && (dd 7 (.int x.fill) && (dd 7 (.int x.mood) && true)))) = true
  rw [show dd 7 (.lst (x.dry.map D.int)) = (x.dry.map D.int).all (dd 6) from rfl, show dd 7 (.lst (x.rain.map D.int)) = (x.rain.map D.int).all (dd 6) from rfl, dd_ints, dd_ints]
  rfl
theorem eqv_row (x y : Dy) : eqvDs [D.lst (x.dry.map D.int), .lst (x.rain.map D.int), .int x.fill, .int x.mood] [D.lst (y.dry.map D.int), .lst (y.rain.map D.int), .int y.fill, .int y.mood] = x.eqB y := by
  show (eqvDs (x.dry.map D.int) (y.dry.map D.int) && (eqvDs (x.rain.map D.int) (y.rain.map D.int) && ((x.fill == y.fill) && ((x.mood == y.mood) && true)))) = _
  rw [eqvDs_ints, eqvDs_ints, Bool.and_true]
  unfold Dy.eqB
  congr 2
theorem rows_eq (x y : Dy) (a : Sto) : opW [(2, f_Day_eq)] false dEq a (rowD x) (rowD y) = .ok (.bl (x.eqB y)) a := by
  show (match dEq (rowD x) (rowD y) with | some r => Out.ok r a | none => .stuck) = _
  unfold rowD
  rw [dEq_lst (dd_row x) (dd_row y), eqv_row]
theorem rows_ne (x y : Dy) (a : Sto) : opW [(2, f_Day_eq)] true dNe a (rowD x) (rowD y) = .ok (.bl (!x.eqB y)) a := by
  show (match dNe (rowD x) (rowD y) with | some r => Out.ok r a | none => .stuck) = _
  unfold rowD
  rw [dNe_lst (dd_row x) (dd_row y), eqv_row]
theorem dd_rowT (x : Dy) : [D.tup (x.dry.map D.int), .tup (x.rain.map D.int), .int x.fill, .int x.mood].all (dd 7) = true := by
  show (dd 7 (.tup (x.dry.map D.int)) && (dd 7 (.tup (x.rain.map D.int)) && (dd 7 (.int x.fill) && (dd 7 (.int x.mood) && true)))) = true
  rw [show dd 7 (.tup (x.dry.map D.int)) = (x.dry.map D.int).all (dd 6) from rfl, show dd 7 (.tup (x.rain.map D.int)) = (x.rain.map D.int).all (dd 6) from rfl, dd_ints, dd_ints]
  rfl
theorem ne_rowT (x : Dy) : dNe (.tup [D.tup (x.dry.map D.int), .tup (x.rain.map D.int), .int x.fill, .int x.mood]) (.tup [D.tup (x.dry.map D.int), .tup (x.rain.map D.int), .int x.fill, .int x.mood]) = some (.bl false) := by
  rw [dNe_tup (dd_rowT x) (dd_rowT x)]
  have z : eqvDs [D.tup (x.dry.map D.int), .tup (x.rain.map D.int), .int x.fill, .int x.mood] [D.tup (x.dry.map D.int), .tup (x.rain.map D.int), .int x.fill, .int x.mood] = true := by
    show (eqvDs (x.dry.map D.int) (x.dry.map D.int) && (eqvDs (x.rain.map D.int) (x.rain.map D.int) && ((x.fill == x.fill) && ((x.mood == x.mood) && true)))) = true
    rw [eqvDs_ints, eqvDs_ints]
    simp
  rw [z]
  rfl
theorem ne_blK (b : Bool) : dNe (.bl b) (.bl b) = some (.bl false) := by cases b <;> rfl
abbrev LS (ns : List Int) (o2 o3 o4 : Option D) (o5 o6 : Option M) (o7 o8 : Option D) : SlM := [some (.val (.scr ns)), some (.val (.loc 0)), o2.map M.val, o3.map M.val, o4.map M.val, o5, o6, o7.map M.val, o8.map M.val]
theorem kin56 (ns : List Int) (n2 d3 d4 : D) (l r : List Int) (o7 o8 : Option D) : kin [5, 6] 0 (LS ns (some n2) (some d3) (some d4) (some (.lst (vD l))) (some (.lst (vD r))) o7 o8) = ⟨true, false, false⟩ := by
  have z1 : kdMs (vD l) = .no := kdMs_vals _
  have z2 : kdMs (vD r) = .no := kdMs_vals _
  cases o7 <;> cases o8 <;> simp [LS, kin, kdM, z1, z2, Kd.or, Kd.no]
theorem see56 (ns : List Int) (n2 d3 d4 : D) (l r : List Int) (o7 o8 : Option D) : see [5, 6] 0 (LS ns (some n2) (some d3) (some d4) (some (.lst (vD l))) (some (.lst (vD r))) o7 o8) = [some (.scr ns), some (.loc 0), some n2, some d3, some d4, some (.lst (l.map D.int)), some (.lst (r.map D.int)), o7, o8] := by
  have z1 := fz_v l
  have z2 := fz_v r
  simp [LS, freeze, z1, z2]
theorem sel0 (ns : List Int) (n2 d3 d4 : D) (l r : List Int) (o7 o8 : Option D) : ∃ z5 z6, see [] 0 (LS ns (some n2) (some d3) (some d4) (some (.lst (vD l))) (some (.lst (vD r))) o7 o8) = [some (.scr ns), some (.loc 0), some n2, some d3, some d4, z5, z6, o7, o8] := ⟨none, none, by simp [LS]⟩
def l_1 : SM := (sSet 2 [] (mV (vNw dAdd (eC (.int 1)) (vM (callM 3 f_law_draw (aCons (eVar 0) (aCons (eVar 1) (aCons (eC (.int 4)) aNil))))))))
def l_2 : SM := (sSet 3 [] (mV (vM (callM 3 f_law_parts (aCons (eVar 0) (aCons (eVar 1) (aCons (eVar 2) aNil)))))))
def l_3 : SM := (sSet 4 [] (mV (vM (callM 4 f_law_other (aCons (eVar 0) (aCons (eVar 1) (aCons (eVar 3) (aCons (eVar 2) aNil))))))))
def l_4 : SM := (sSet 5 [] (cN (un1 gList) (aCons (vS dIx (eVar 3) (eC (.int 0))) aNil)))
def l_5 : SM := (sSet 6 [] (cN (un1 gList) (aCons (vS dIx (eVar 3) (eC (.int 1))) aNil)))
def l_6 : SM := (sSet 7 [5, 6] (mV (vM (mkM 2 5 f_Day_init (aCons (eVar 5) (aCons (eVar 6) (aCons (vS dIx (eVar 3) (eC (.int 2))) (aCons (vS dIx (eVar 3) (eC (.int 3))) aNil))))))))
def l_7 : SM := (sSet 8 [] (mV (vM (mkM 2 5 f_Day_init (aCons (cV (un1 gTuple) (aCons (vS dIx (eVar 4) (eC (.int 0))) aNil)) (aCons (cV (un1 gTuple) (aCons (vS dIx (eVar 4) (eC (.int 1))) aNil)) (aCons (vS dIx (eVar 4) (eC (.int 2))) (aCons (vS dIx (eVar 4) (eC (.int 3))) aNil))))))))
def l_8 : SM := (sIf [5, 6] (tOn (tV (evW [(2, f_Day_eq)] true dNe (eVar 5) (vS dIx (eVar 3) (eC (.int 0))))) (tV (evW [(2, f_Day_eq)] true dNe (eVar 6) (vS dIx (eVar 3) (eC (.int 1)))))) (sRet [] (mV (eC (.bl false)))) sNil)
def l_9 : SM := (sSetP [] 5 ptNil (qInt 0) (mV (eC (.int 9))))
def l_10 : SM := (sSetP [] 6 ptNil (fun δ => ((qInt 1) δ).map fun i => -i) (mV (eC (.int 9))))
def l_11 : SM := (sIf [] (tV (ev2 dNe (vM (mTup (lCons (mV (ev1 (dFld [2] [] "dry") (eVar 7))) (lCons (mV (ev1 (dFld [2] [] "rain") (eVar 7))) (lCons (mV (ev1 (dFld [2] [] "fill") (eVar 7))) (lCons (mV (ev1 (dFld [2] [] "mood") (eVar 7))) lNil)))))) (vM (mTup (lCons (mV (cV (un1 gTuple) (aCons (vS dIx (eVar 3) (eC (.int 0))) aNil))) (lCons (mV (cV (un1 gTuple) (aCons (vS dIx (eVar 3) (eC (.int 1))) aNil))) (lCons (mV (vS dIx (eVar 3) (eC (.int 2)))) (lCons (mV (vS dIx (eVar 3) (eC (.int 3)))) lNil)))))))) (sRet [] (mV (eC (.bl false)))) sNil)
def l_12 : SM := (sIf [] (tOn (tV (ev2 dNe (evW [(2, f_Day_eq)] false dEq (eVar 7) (eVar 8)) (evW [(2, f_Day_eq)] false dEq (eVar 3) (eVar 4)))) (tV (ev2 dNe (evW [(2, f_Day_eq)] true dNe (eVar 7) (eVar 8)) (evW [(2, f_Day_eq)] true dNe (eVar 3) (eVar 4))))) (sRet [] (mV (eC (.bl false)))) sNil)
def l_13 : SM := (sIf [] (tOn (tV (ev2 dNe (evW [(2, f_Day_le)] false (dI gLe) (eVar 7) (eVar 8)) (vM (callM 2 f_law_harsher (aCons (eVar 3) (aCons (eVar 4) aNil)))))) (tV (ev2 dNe (evW [(2, f_Day_le)] false (dI gLe) (eVar 8) (eVar 7)) (vM (callM 2 f_law_harsher (aCons (eVar 4) (aCons (eVar 3) aNil))))))) (sRet [] (mV (eC (.bl false)))) sNil)
def l_14 : SM := (sIf [] (tN (tV (vM (callM 4 f_law_sums_hold (aCons (eVar 0) (aCons (eVar 1) (aCons (eVar 7) (aCons (eVar 3) aNil)))))))) (sRet [] (mV (eC (.bl false)))) sNil)
def l_15 : SM := (sRet [] (callM 4 f_law_refusals_hold (aCons (eVar 0) (aCons (eVar 1) (aCons (eVar 3) (aCons (eVar 2) aNil))))))
theorem l_is : m_law = mLaw 1 (sSet 1 [] (callM 1 f_law_start (aCons (eVar 0) aNil))) (sSeq l_1 (sSeq l_2 (sSeq l_3 (sSeq l_4 (sSeq l_5 (sSeq l_6 (sSeq l_7 (sSeq l_8 (sSeq l_9 (sSeq l_10 (sSeq l_11 (sSeq l_12 (sSeq l_13 (sSeq l_14 l_15)))))))))))))) := rfl
theorem l4_ok (ns : List Int) (n : Nat) (x y : Dy) (a3 : Sto) : l_4 (LS ns (some (.int n)) (some (rowD x)) (some (rowD y)) none none none none) a3 = .nx (LS ns (some (.int n)) (some (rowD x)) (some (rowD y)) (some (.lst (vD x.dry))) none none none) a3 := by
  obtain ⟨i0, i1, i2, i3⟩ := row_at x a3
  have gl : ∀ l : List Int, gList a3 (.lst (l.map D.int)) = some (.lst (l.map D.int)) := fun l => rfl
  unfold l_4
  simp [i0, gl]
  rw [put_e (by simp)]
  simp [vD]
theorem l5_ok (ns : List Int) (n : Nat) (x y : Dy) (a3 : Sto) : l_5 (LS ns (some (.int n)) (some (rowD x)) (some (rowD y)) (some (.lst (vD x.dry))) none none none) a3 = .nx (LS ns (some (.int n)) (some (rowD x)) (some (rowD y)) (some (.lst (vD x.dry))) (some (.lst (vD x.rain))) none none) a3 := by
  obtain ⟨i0, i1, i2, i3⟩ := row_at x a3
  have gl : ∀ l : List Int, gList a3 (.lst (l.map D.int)) = some (.lst (l.map D.int)) := fun l => rfl
  unfold l_5
  simp [i1, gl]
  rw [put_e (by simp)]
  simp [vD]
theorem st6_ok (ns : List Int) (n : Nat) {x y : Dy} (ox : x.Ok) (oy : y.Ok) {a3 : Sto} (s3 : St4 a3) : l_6 (LS ns (some (.int n)) (some (rowD x)) (some (rowD y)) (some (.lst (vD x.dry))) (some (.lst (vD x.rain))) none none) a3 = .nx (LS ns (some (.int n)) (some (rowD x)) (some (rowD y)) (some (.lst (vD x.dry))) (some (.lst (vD x.rain))) (some (dD x)) none) a3 := by
  obtain ⟨i0, i1, i2, i3⟩ := row_at x a3
  obtain ⟨j0, j1, j2, j3⟩ := row_at y a3
  have ca := clA_st s3
  have clx : clM (⟨true, false, false⟩ : Kd) (.val (dD x)) = true := by
    show (true && ((true && cls _ (x.dry.map D.int)) && ((true && cls _ (x.rain.map D.int)) && (true && (true && true))))) = true
    rw [cls_ints, cls_ints]
    rfl
  have mkx := dy_made (b := 1) (s := 2) (x := x) (L := .lst (x.dry.map D.int)) (L2 := .lst (x.rain.map D.int)) (a := a3) (.inl rfl) (.inl rfl) ox s3.fresh
  have mkx' : mkEnd 2 a3.length (f_Day_init [.loc a3.length, .lst (x.dry.map D.int), .lst (x.rain.map D.int), .int x.fill, .int x.mood] (a3 ++ [.obj 2 [] []])) = _ := mkx
  have ev : mV (vM (mkM 2 5 f_Day_init (aCons (eVar 5) (aCons (eVar 6) (aCons (vS dIx (eVar 3) (eC (.int 2))) (aCons (vS dIx (eVar 3) (eC (.int 3))) aNil)))))) (see [5, 6] 0 (LS ns (some (.int n)) (some (rowD x)) (some (rowD y)) (some (.lst (vD x.dry))) (some (.lst (vD x.rain))) none none)) a3 = .ok (.val (dD x)) a3 := by
    rw [see56]
    simp [x_mkM, i2, i3]
    rw [mkx']
    rfl
  unfold l_6
  rw [x_sSet, x_lift, ev, lift_seen (by rw [kin56]; exact clx) ca]
  simp only [oseq_ok]
  rw [put_e (by simp)]
  rfl
theorem st7_ok (ns : List Int) (n : Nat) {x y : Dy} (ox : x.Ok) (oy : y.Ok) {a3 : Sto} (s3 : St4 a3) : l_7 (LS ns (some (.int n)) (some (rowD x)) (some (rowD y)) (some (.lst (vD x.dry))) (some (.lst (vD x.rain))) (some (dD x)) none) a3 = .nx (LS ns (some (.int n)) (some (rowD x)) (some (rowD y)) (some (.lst (vD x.dry))) (some (.lst (vD x.rain))) (some (dD x)) (some (dD y))) a3 := by
  obtain ⟨i0, i1, i2, i3⟩ := row_at x a3
  obtain ⟨j0, j1, j2, j3⟩ := row_at y a3
  have tp : ∀ l : List Int, gTuple a3 (.lst (l.map D.int)) = some (.tup (l.map D.int)) := fun l => rfl
  have mky := dy_made (b := 1) (s := 2) (x := y) (L := .tup (y.dry.map D.int)) (L2 := .tup (y.rain.map D.int)) (a := a3) (.inr rfl) (.inr rfl) oy s3.fresh
  have mky' : mkEnd 2 a3.length (f_Day_init [.loc a3.length, .tup (y.dry.map D.int), .tup (y.rain.map D.int), .int y.fill, .int y.mood] (a3 ++ [.obj 2 [] []])) = _ := mky
  obtain ⟨z5, z6, hz⟩ := sel0 ns (.int n) (rowD x) (rowD y) x.dry x.rain (some (dD x)) none
  have ev : mV (vM (mkM 2 5 f_Day_init (aCons (cV (un1 gTuple) (aCons (vS dIx (eVar 4) (eC (.int 0))) aNil)) (aCons (cV (un1 gTuple) (aCons (vS dIx (eVar 4) (eC (.int 1))) aNil)) (aCons (vS dIx (eVar 4) (eC (.int 2))) (aCons (vS dIx (eVar 4) (eC (.int 3))) aNil)))))) (see [] 0 (LS ns (some (.int n)) (some (rowD x)) (some (rowD y)) (some (.lst (vD x.dry))) (some (.lst (vD x.rain))) (some (dD x)) none)) a3 = .ok (.val (dD y)) a3 := by
    rw [hz]
    simp [x_mkM, j0, j1, j2, j3, tp]
    rw [mky']
    rfl
  unfold l_7
  rw [x_sSet, x_lift, ev, k_ok]
  simp only [oseq_ok]
  rw [put_e (by simp)]
  rfl
theorem st8_ok (ns : List Int) (n : Nat) {x y : Dy} (ox : x.Ok) (oy : y.Ok) {a3 : Sto} (s3 : St4 a3) : l_8 (LS ns (some (.int n)) (some (rowD x)) (some (rowD y)) (some (.lst (vD x.dry))) (some (.lst (vD x.rain))) (some (dD x)) (some (dD y))) a3 = .nx (LS ns (some (.int n)) (some (rowD x)) (some (rowD y)) (some (.lst (vD x.dry))) (some (.lst (vD x.rain))) (some (dD x)) (some (dD y))) a3 := by
  obtain ⟨i0, i1, i2, i3⟩ := row_at x a3
  obtain ⟨j0, j1, j2, j3⟩ := row_at y a3
  have ca := clA_st s3
  have w : ∀ l : List Int, opW [(2, f_Day_eq)] true dNe a3 (.lst (l.map D.int)) (.lst (l.map D.int)) = .ok (.bl false) a3 := fun l => by
    show (match dNe (.lst (l.map D.int)) (.lst (l.map D.int)) with | some r => Out.ok r a3 | none => .stuck) = _
    rw [dNe_lints]
    simp
  have ev : tOn (tV (evW [(2, f_Day_eq)] true dNe (eVar 5) (vS dIx (eVar 3) (eC (.int 0))))) (tV (evW [(2, f_Day_eq)] true dNe (eVar 6) (vS dIx (eVar 3) (eC (.int 1))))) (see [5, 6] 0 (LS ns (some (.int n)) (some (rowD x)) (some (rowD y)) (some (.lst (vD x.dry))) (some (.lst (vD x.rain))) (some (dD x)) (some (dD y)))) a3 = .ok false a3 := by
    rw [see56]
    simp [x_evW, i0, i1, w]
  unfold l_8
  rw [x_sIf, x_liftT, ev, kinT ca]
  rfl
theorem st9_ok (ns : List Int) (n : Nat) {x y : Dy} (ox : x.Ok) (oy : y.Ok) {a3 : Sto} (s3 : St4 a3) : l_9 (LS ns (some (.int n)) (some (rowD x)) (some (rowD y)) (some (.lst (vD x.dry))) (some (.lst (vD x.rain))) (some (dD x)) (some (dD y))) a3 = .nx (LS ns (some (.int n)) (some (rowD x)) (some (rowD y)) (some (.lst (vD (x.dry.set 0 9)))) (some (.lst (vD x.rain))) (some (dD x)) (some (dD y))) a3 := by
  have ix : ixN (vD x.dry).length 0 = some 0 := ixN_nat (k := 0) (by unfold vD; rw [List.length_map, List.length_map]; exact ox.l1)
  have ss : (vD x.dry).set 0 (.val (.int 9)) = vD (x.dry.set 0 9) := by simp [vD, List.map_set]
  unfold l_9 sSetP
  simp [ptNil, focL, qInt, putL, ix, ss]
theorem st10_ok (ns : List Int) (n : Nat) {x y : Dy} (ox : x.Ok) (oy : y.Ok) {a3 : Sto} (s3 : St4 a3) : l_10 (LS ns (some (.int n)) (some (rowD x)) (some (rowD y)) (some (.lst (vD (x.dry.set 0 9)))) (some (.lst (vD x.rain))) (some (dD x)) (some (dD y))) a3 = .nx (LS ns (some (.int n)) (some (rowD x)) (some (rowD y)) (some (.lst (vD (x.dry.set 0 9)))) (some (.lst (vD (x.rain.set (x.rain.length - 1) 9)))) (some (dD x)) (some (dD y))) a3 := by
  have lr : 0 < x.rain.length := by rw [ox.rl]; exact ox.l1
  have ix : ixN (vD x.rain).length (-1) = some (x.rain.length - 1) := by
    have le : (vD x.rain).length = x.rain.length := by unfold vD; rw [List.length_map, List.length_map]
    rw [le]
    unfold ixN
    rw [if_neg (by decide), if_pos (by omega)]
    refine congrArg some ?_
    omega
  have ss : (vD x.rain).set (x.rain.length - 1) (.val (.int 9)) = vD (x.rain.set (x.rain.length - 1) 9) := by simp [vD, List.map_set]
  unfold l_10 sSetP
  simp [ptNil, focL, qInt, putL, ix, ss]
theorem st11_ok (ns : List Int) (n : Nat) {x y : Dy} (ox : x.Ok) (oy : y.Ok) {a3 : Sto} (s3 : St4 a3) (A B : List Int) : l_11 (LS ns (some (.int n)) (some (rowD x)) (some (rowD y)) (some (.lst (vD A))) (some (.lst (vD B))) (some (dD x)) (some (dD y))) a3 = .nx (LS ns (some (.int n)) (some (rowD x)) (some (rowD y)) (some (.lst (vD A))) (some (.lst (vD B))) (some (dD x)) (some (dD y))) a3 := by
  obtain ⟨i0, i1, i2, i3⟩ := row_at x a3
  obtain ⟨j0, j1, j2, j3⟩ := row_at y a3
  have tp : ∀ l : List Int, gTuple a3 (.lst (l.map D.int)) = some (.tup (l.map D.int)) := fun l => rfl
  have f1 : ∀ z : Dy, dFld [2] [] "dry" (dD z) = _ := fun z => fld_dry []
  have f2 : ∀ z : Dy, dFld [2] [] "rain" (dD z) = _ := fun z => fld_rain []
  have f3 : ∀ z : Dy, dFld [2] [] "fill" (dD z) = _ := fun z => fld_fill []
  have f4 : ∀ z : Dy, dFld [2] [] "mood" (dD z) = _ := fun z => fld_moodD []
  obtain ⟨z5, z6, hz⟩ := sel0 ns (.int n) (rowD x) (rowD y) A B (some (dD x)) (some (dD y))
  have nn := ne_rowT x
  unfold l_11
  rw [x_sIf, x_liftT, hz]
  simp [f1, f2, f3, f4, i0, i1, i2, i3, tp, mkTup, allV, freeze, nn]
theorem st12_ok (ns : List Int) (n : Nat) {x y : Dy} (ox : x.Ok) (oy : y.Ok) {a3 : Sto} (s3 : St4 a3) (A B : List Int) : l_12 (LS ns (some (.int n)) (some (rowD x)) (some (rowD y)) (some (.lst (vD A))) (some (.lst (vD B))) (some (dD x)) (some (dD y))) a3 = .nx (LS ns (some (.int n)) (some (rowD x)) (some (rowD y)) (some (.lst (vD A))) (some (.lst (vD B))) (some (dD x)) (some (dD y))) a3 := by
  obtain ⟨i0, i1, i2, i3⟩ := row_at x a3
  obtain ⟨j0, j1, j2, j3⟩ := row_at y a3
  obtain ⟨z5, z6, hz⟩ := sel0 ns (.int n) (rowD x) (rowD y) A B (some (dD x)) (some (dD y))
  have w1 := ow_eq x y a3
  have w2 := ow_ne x y a3
  have w3 := rows_eq x y a3
  have w4 := rows_ne x y a3
  unfold l_12
  rw [x_sIf, x_liftT, hz]
  simp [x_evW, w1, w2, w3, w4, ne_blK]
theorem st13_ok (ns : List Int) (n : Nat) {x y : Dy} (ox : x.Ok) (oy : y.Ok) {a3 : Sto} (s3 : St4 a3) (A B : List Int) : l_13 (LS ns (some (.int n)) (some (rowD x)) (some (rowD y)) (some (.lst (vD A))) (some (.lst (vD B))) (some (dD x)) (some (dD y))) a3 = .nx (LS ns (some (.int n)) (some (rowD x)) (some (rowD y)) (some (.lst (vD A))) (some (.lst (vD B))) (some (dD x)) (some (dD y))) a3 := by
  obtain ⟨z5, z6, hz⟩ := sel0 ns (.int n) (rowD x) (rowD y) A B (some (dD x)) (some (dD y))
  have w1 := ow_le ox oy a3
  have w2 := ow_le oy ox a3
  have w3 := harsher_ok ox oy a3
  have w4 := harsher_ok oy ox a3
  unfold l_13
  rw [x_sIf, x_liftT, hz]
  simp [x_evW, w1, w2, w3, w4, ne_blK, freeze]
theorem one_ok (ns : List Int) (p q : Int) : ∃ (n : Nat) (a1 : Sto), 1 ≤ n ∧ n ≤ 4 ∧ l_1 (LS ns none none none none none none none) [.nums [p, q, 1, 0]] = .nx (LS ns (some (.int n)) none none none none none none) a1 ∧ St4 a1 := by
  obtain ⟨r1, a1, h10, h11, e1, s1⟩ := draw_at ns (lim := 4) (by decide) (by decide) (St4.mk p q 1 0)
  refine ⟨(1 + r1).toNat, a1, by omega, by omega, ?_, s1⟩
  have z : ((1 + r1).toNat : Int) = 1 + r1 := by omega
  rw [z]
  unfold l_1
  simp [e1, freeze, put_e]
theorem call3 (g : FM) (x y z : D) (r : Sw) (a : Sto) : callM 3 g (aCons (eVar 0) (aCons (eVar 1) (aCons (eVar 2) aNil))) (some x :: some y :: some z :: r) a = g [x, y, z] a := by
  rw [x_callM]
  simp
theorem two_gen (g : FM) (x y z w : D) (m : M) (a1 a2 : Sto) (e2 : g [x, y, z] a1 = .ok m a2) (fx : freeze m = w) : sSet 3 [] (mV (vM (callM 3 g (aCons (eVar 0) (aCons (eVar 1) (aCons (eVar 2) aNil)))))) [some (.val x), some (.val y), some (.val z), none, none, none, none, none, none] a1 = .nx [some (.val x), some (.val y), some (.val z), some (.val w), none, none, none, none, none] a2 := by
  have c := call3 g x y z [none, none, none, none, none, none] a1
  have s : see [] 0 [some (.val x), some (.val y), some (.val z), none, none, none, none, none, none] = [some x, some y, some z, none, none, none, none, none, none] := rfl
  rw [x_sSet, x_lift, s, x_mV, x_vM, c, e2, map_ok, map_ok, fx, k_ok]
  simp only [oseq_ok]
  rw [put_e (by simp)]
  rfl
theorem two_ok (ns : List Int) (n : Nat) {mx : M} {x : Dy} {a1 a2 : Sto} (e2 : f_law_parts [.scr ns, .loc 0, .int n] a1 = .ok mx a2) (fx : freeze mx = rowD x) : l_2 (LS ns (some (.int n)) none none none none none none) a1 = .nx (LS ns (some (.int n)) (some (rowD x)) none none none none none) a2 :=
  two_gen f_law_parts (.scr ns) (.loc 0) (.int n) (rowD x) mx a1 a2 e2 fx
theorem three_ok (ns : List Int) (n : Nat) {my : M} {x y : Dy} {a2 a3 : Sto} (e3 : f_law_other [.scr ns, .loc 0, rowD x, .int n] a2 = .ok my a3) (fy : freeze my = rowD y) : l_3 (LS ns (some (.int n)) (some (rowD x)) none none none none none) a2 = .nx (LS ns (some (.int n)) (some (rowD x)) (some (rowD y)) none none none none) a3 := by
  unfold l_3
  simp [e3, fy, put_e]
theorem first_ok (ns : List Int) (p q : Int) : ∃ (n : Nat) (x y : Dy) (a2 a3 : Sto) (a1 : Sto), x.Ok ∧ y.Ok ∧ x.dry.length = n ∧ l_1 (LS ns none none none none none none none) [.nums [p, q, 1, 0]] = .nx (LS ns (some (.int n)) none none none none none none) a1 ∧ l_2 (LS ns (some (.int n)) none none none none none none) a1 = .nx (LS ns (some (.int n)) (some (rowD x)) none none none none none) a2 ∧ l_3 (LS ns (some (.int n)) (some (rowD x)) none none none none none) a2 = .nx (LS ns (some (.int n)) (some (rowD x)) (some (rowD y)) none none none none) a3 ∧ St4 a3 := by
  obtain ⟨r1, a1, h10, h11, e1, s1⟩ := draw_at ns (lim := 4) (by decide) (by decide) (St4.mk p q 1 0)
  have q1 : l_1 (LS ns none none none none none none none) [.nums [p, q, 1, 0]] = .nx (LS ns (some (.int (1 + r1))) none none none none none none) a1 := by
    unfold l_1
    simp [e1, freeze, put_e]
  obtain ⟨n, hn⟩ : ∃ n : Nat, 1 + r1 = n := ⟨(1 + r1).toNat, by omega⟩
  rw [hn] at q1
  obtain ⟨x, mx, a2, ox, lx, e2, fx, s2⟩ := parts_ok ns (many := n) (by omega) (by omega) s1
  have q2 := two_ok ns n e2 fx
  obtain ⟨y, my, a3, oy, e3, fy, s3⟩ := other_ok ns ox s2
  rw [lx] at e3
  have q3 := three_ok ns n (x := x) (y := y) e3 fy
  exact ⟨n, x, y, a2, a3, a1, ox, oy, lx, q1, q2, q3, s3⟩
theorem body_ok (ns : List Int) (p q : Int) : ∃ a5, (sSeq l_1 (sSeq l_2 (sSeq l_3 (sSeq l_4 (sSeq l_5 (sSeq l_6 (sSeq l_7 (sSeq l_8 (sSeq l_9 (sSeq l_10 (sSeq l_11 (sSeq l_12 (sSeq l_13 (sSeq l_14 l_15)))))))))))))) (LS ns none none none none none none none) [.nums [p, q, 1, 0]] = .rt (.val (.bl true)) a5 ∧ St4 a5 := by
  obtain ⟨n, x, y, a2, a3, a1, ox, oy, lx, q1, q2, q3, s3⟩ := first_ok ns p q
  have q4 := l4_ok ns n x y a3
  have q5 := l5_ok ns n x y a3
  have q6 := st6_ok ns n ox oy s3
  have q7 := st7_ok ns n ox oy s3
  have q8 := st8_ok ns n ox oy s3
  have q9 := st9_ok ns n ox oy s3
  have q10 := st10_ok ns n ox oy s3
  generalize x.dry.set 0 9 = A at q9 q10
  generalize x.rain.set (x.rain.length - 1) 9 = B at q10
  have q11 := st11_ok ns n ox oy s3 A B
  have q12 := st12_ok ns n ox oy s3 A B
  have q13 := st13_ok ns n ox oy s3 A B
  obtain ⟨z5, z6, hz⟩ := sel0 ns (.int n) (rowD x) (rowD y) A B (some (dD x)) (some (dD y))
  obtain ⟨a4, e4, s4⟩ := sums_ok ns ox s3
  have q14 : l_14 (LS ns (some (.int n)) (some (rowD x)) (some (rowD y)) (some (.lst (vD A))) (some (.lst (vD B))) (some (dD x)) (some (dD y))) a3 = .nx (LS ns (some (.int n)) (some (rowD x)) (some (rowD y)) (some (.lst (vD A))) (some (.lst (vD B))) (some (dD x)) (some (dD y))) a4 := by
    unfold l_14
    rw [x_sIf, x_liftT, hz]
    simp [e4, freeze]
  obtain ⟨a5, e5, s5⟩ := refusals_ok ns ox s4
  rw [lx] at e5
  have q15 : l_15 (LS ns (some (.int n)) (some (rowD x)) (some (rowD y)) (some (.lst (vD A))) (some (.lst (vD B))) (some (dD x)) (some (dD y))) a4 = .rt (.val (.bl true)) a5 := by
    unfold l_15
    rw [x_sRet, x_lift, hz]
    simp [e5]
  refine ⟨a5, ?_, s5⟩
  rw [seq_then q1, seq_then q2, seq_then q3, seq_then q4, seq_then q5, seq_then q6, seq_then q7, seq_then q8, seq_then q9, seq_then q10, seq_then q11, seq_then q12, seq_then q13, seq_then q14, q15]
theorem main : ∀ ns : List Int, ns.length ≤ 63 → f_law [.scr ns] [] = .ok (.val (.bl true)) [] := by
  intro ns _
  obtain ⟨p, q, e⟩ := start_ok ns
  have st : sSet 1 [] (callM 1 f_law_start (aCons (eVar 0) aNil)) [some (.val (.scr ns)), none, none, none, none, none, none, none, none] [] = .nx [some (.val (.scr ns)), some (.lst [.val (.int p), .val (.int q), .val (.int 1), .val (.int 0)]), none, none, none, none, none, none, none] [] := by
    simp [start_is, e, put_e]
  obtain ⟨a5, body, s5⟩ := body_ok ns p q
  show bodyM 1 9 m_law _ _ = _
  rw [show bodyM 1 9 m_law [.scr ns] [] = outF (m_law (ent 9 [.scr ns]) []) from x_bodyM rfl, l_is, mLaw_e]
  show outF (lawGo 1 _ (sSet 1 [] (callM 1 f_law_start (aCons (eVar 0) aNil)) [some (.val (.scr ns)), none, none, none, none, none, none, none, none] [])) = _
  rw [st, law_go4]
  have e0 : LS ns none none none none none none none = [some (.val (.scr ns)), some (.val (.loc 0)), none, none, none, none, none, none, none] := rfl
  rw [e0] at body
  rw [body]
  obtain ⟨_, _, _, _, rfl⟩ := s5
  rfl

/-! ### derivations -/
section
variable {w : World} {K : PySem.W.Frag} {mg : Str → Option Value} {base : Heap} {G : Gx}
theorem o_law_start (hK : G.K = K) (n_abs : mg "abs" = none) (n_int : mg "int" = none) (n_len : mg "len" = none) {f : Addr} {fd : FuncData} (F : Fun K "_law_start" "_law_start" s_law_start f fd) (b : Binds K fd ["_law_script"] []) (hm : mg "_law_start" = some (.ref f)) : DefD PySem.Challenge.pw_waterbyturns_k09_days w K mg base G "_law_start" 1 1 f_law_start :=
  defD F sc_law_start b hm fun cdv A outer s H E hr =>
    have tk := takes_of (X := cxOf (L2.CX PySem.Challenge.pw_waterbyturns_k09_days w) PySem.Challenge.pw_waterbyturns_k09_days w K mg base ["_law_script", "_law_first"] "_law_start" (defScope s_law_start) f cdv A outer s H E) rfl rfl rfl rfl
    have ps := passes_of (X := cxOf (L2.CX PySem.Challenge.pw_waterbyturns_k09_days w) PySem.Challenge.pw_waterbyturns_k09_days w K mg base ["_law_script", "_law_first"] "_law_start" (defScope s_law_start) f cdv A outer s H E) rfl
    (dss_cons (ds_set (i := 1) [] sc_law_start.nd rfl (.inl rfl) (dm_v dv_int))
    (dss_cons (ds_if [] (dt_gt (dv_len hK n_len (da_cons (dv_var (i := 0) rfl (.inl rfl)) da_nil)) dv_int) (dss_one (ds_set (i := 1) [] sc_law_start.nd rfl (.inl rfl) (dm_v (dv_ix hK (dv_var (i := 0) rfl (.inl rfl)) dv_int (fun _ _ => rfl))))) dss_nil)
    (dss_one (ds_ret [] (dm_lst (dl_cons (dm_v (dv_abs n_abs (da_cons (dv_toint n_int (da_cons (dv_var (i := 1) rfl (.inl rfl)) da_nil)) da_nil))) (dl_cons (dm_v (dv_toint n_int (da_cons (dv_ge (dv_abs n_abs (da_cons (dv_toint n_int (da_cons (dv_var (i := 1) rfl (.inl rfl)) da_nil)) da_nil)) (dv_pow dv_int dv_int)) da_nil))) (dl_cons (dm_v dv_int) (dl_cons (dm_v dv_int) dl_nil)))))))))
theorem o_law_draw (hK : G.K = K) (n_int : mg "int" = none) (n_len : mg "len" = none) {f : Addr} {fd : FuncData} (F : Fun K "_law_draw" "_law_draw" s_law_draw f fd) (b : Binds K fd ["_law_script", "_law_state", "_law_limit"] []) (hm : mg "_law_draw" = some (.ref f)) : DefD PySem.Challenge.pw_waterbyturns_k09_days w K mg base G "_law_draw" 1 3 f_law_draw :=
  defD F sc_law_draw b hm fun cdv A outer s H E hr =>
    have tk := takes_of (X := cxOf (L2.CX PySem.Challenge.pw_waterbyturns_k09_days w) PySem.Challenge.pw_waterbyturns_k09_days w K mg base ["_law_script", "_law_state", "_law_limit", "_law_number", "_law_cell", "_law_mixed"] "_law_draw" (defScope s_law_draw) f cdv A outer s H E) rfl rfl rfl rfl
    have ps := passes_of (X := cxOf (L2.CX PySem.Challenge.pw_waterbyturns_k09_days w) PySem.Challenge.pw_waterbyturns_k09_days w K mg base ["_law_script", "_law_state", "_law_limit", "_law_number", "_law_cell", "_law_mixed"] "_law_draw" (defScope s_law_draw) f cdv A outer s H E) rfl
    (dss_cons (ds_sto (ko := 1) [] (dm_v (dv_add hK (dv_ix hK (dv_var (i := 1) rfl (.inl rfl)) dv_int (fun _ _ => rfl)) dv_int)) rfl (.inl rfl))
    (dss_cons (ds_if [] (dt_w (dw_and (dt_eq hK hr (dv_ix hK (dv_var (i := 1) rfl (.inl rfl)) dv_int (fun _ _ => rfl)) dv_int) (dw_and1 (dt_gt (dv_ix hK (dv_var (i := 1) rfl (.inl rfl)) dv_int (fun _ _ => rfl)) dv_int)))) (dss_cons (ds_set (i := 3) [] sc_law_draw.nd rfl (.inl rfl) (dm_v (dv_mod (dv_toint n_int (da_cons (dv_ix hK (dv_var (i := 1) rfl (.inl rfl)) dv_int (fun _ _ => rfl)) da_nil)) (dv_var (i := 2) rfl (.inl rfl)))))
    (dss_cons (ds_sto (ko := 1) [] (dm_v (dv_div (dv_ix hK (dv_var (i := 1) rfl (.inl rfl)) dv_int (fun _ _ => rfl)) (dv_var (i := 2) rfl (.inl rfl)))) rfl (.inl rfl))
    (dss_one (ds_ret [] (dm_v (dv_var (i := 3) rfl (.inl rfl))))))) dss_nil)
    (dss_cons (ds_sto (ko := 1) [] (dm_v dv_int) rfl (.inl rfl))
    (dss_cons (ds_set (i := 4) [] sc_law_draw.nd rfl (.inl rfl) (dm_v dv_int))
    (dss_cons (ds_if [] (dt_gt (dv_len hK n_len (da_cons (dv_var (i := 0) rfl (.inl rfl)) da_nil)) dv_int) (dss_one (ds_set (i := 4) [] sc_law_draw.nd rfl (.inl rfl) (dm_v (dv_ix hK (dv_var (i := 0) rfl (.inl rfl)) (dv_mod (dv_toint n_int (da_cons (dv_ix hK (dv_var (i := 1) rfl (.inl rfl)) dv_int (fun _ _ => rfl)) da_nil)) (dv_len hK n_len (da_cons (dv_var (i := 0) rfl (.inl rfl)) da_nil))) (fun _ _ => rfl))))) dss_nil)
    (dss_cons (ds_sto (ko := 1) [] (dm_v (dv_add hK (dv_ix hK (dv_var (i := 1) rfl (.inl rfl)) dv_int (fun _ _ => rfl)) dv_int)) rfl (.inl rfl))
    (dss_cons (ds_set (i := 5) [] sc_law_draw.nd rfl (.inl rfl) (dm_v (dv_mul (dv_mod (dv_toint n_int (da_cons (dv_ix hK (dv_var (i := 1) rfl (.inl rfl)) dv_int (fun _ _ => rfl)) da_nil)) dv_int) dv_int)))
    (dss_cons (ds_set (i := 5) [] sc_law_draw.nd rfl (.inl rfl) (dm_v (dv_add hK (dv_add hK (dv_add hK (dv_var (i := 5) rfl (.inl rfl)) (dv_mod (dv_toint n_int (da_cons (dv_var (i := 4) rfl (.inl rfl)) da_nil)) dv_int)) (dv_mul dv_int (dv_ix hK (dv_var (i := 1) rfl (.inl rfl)) dv_int (fun _ _ => rfl)))) dv_int)))
    (dss_cons (ds_sto (ko := 1) [] (dm_v (dv_mod (dv_toint n_int (da_cons (dv_var (i := 5) rfl (.inl rfl)) da_nil)) dv_int)) rfl (.inl rfl))
    (dss_cons (ds_set (i := 5) [] sc_law_draw.nd rfl (.inl rfl) (dm_v (dv_mod (dv_toint n_int (da_cons (dv_add hK (dv_mul (dv_ix hK (dv_var (i := 1) rfl (.inl rfl)) dv_int (fun _ _ => rfl)) dv_int) (dv_ix hK (dv_var (i := 1) rfl (.inl rfl)) dv_int (fun _ _ => rfl))) da_nil)) dv_int)))
    (dss_one (ds_ret [] (dm_v (dv_mod (dv_toint n_int (da_cons (dv_div (dv_var (i := 5) rfl (.inl rfl)) dv_int) da_nil)) (dv_var (i := 2) rfl (.inl rfl))))))))))))))))
theorem o_law_parts (hK : G.K = K) (d__law_draw : DefD PySem.Challenge.pw_waterbyturns_k09_days w K mg base G "_law_draw" 1 3 f_law_draw) (n_range : mg "range" = none) {f : Addr} {fd : FuncData} (F : Fun K "_law_parts" "_law_parts" s_law_parts f fd) (b : Binds K fd ["_law_script", "_law_state", "_law_many"] []) (hm : mg "_law_parts" = some (.ref f)) : DefD PySem.Challenge.pw_waterbyturns_k09_days w K mg base G "_law_parts" 2 3 f_law_parts :=
  defD F sc_law_parts b hm fun cdv A outer s H E hr =>
    have tk := takes_of (X := cxOf (L2.CX PySem.Challenge.pw_waterbyturns_k09_days w) PySem.Challenge.pw_waterbyturns_k09_days w K mg base ["_law_script", "_law_state", "_law_many", "_law_dry", "_law_rain", "_law_k"] "_law_parts" (defScope s_law_parts) f cdv A outer s H E) rfl rfl rfl rfl
    have ps := passes_of (X := cxOf (L2.CX PySem.Challenge.pw_waterbyturns_k09_days w) PySem.Challenge.pw_waterbyturns_k09_days w K mg base ["_law_script", "_law_state", "_law_many", "_law_dry", "_law_rain", "_law_k"] "_law_parts" (defScope s_law_parts) f cdv A outer s H E) rfl
    (dss_cons (ds_setLcV (i := 3) [] rfl sc_law_parts.nd rfl rfl (sw_true rfl rfl rfl (by decide +kernel)) (own := [("_law_k", 5)]) (di_range1 rfl n_range (da_cons (dv_var (i := 2) rfl (.inl rfl)) da_nil)) (blkOk_by (N := ["_law_script", "_law_state", "_law_many", "_law_dry", "_law_rain", "_law_k"]) (sc := defScope s_law_parts) (own := [("_law_k", 5)]) (by decide +kernel)) (fun _ _ _ _ _ => (dgx_name (i := 5) sc_law_parts.nd rfl (.inl rfl) (by decide))) (fun _ _ _ _ _ => dps_nil) (fun _ _ _ _ _ => (dm_call d__law_draw (hr.mono (by decide)) takes0 (da_cons (dv_var (i := 0) rfl (vis_blk (by decide +kernel))) (da_cons (dv_var (i := 1) rfl (vis_blk (by decide +kernel))) (da_cons dv_int da_nil))))))
    (dss_cons (ds_setLcV (i := 4) [] rfl sc_law_parts.nd rfl rfl (sw_true rfl rfl rfl (by decide +kernel)) (own := [("_law_k", 5)]) (di_range1 rfl n_range (da_cons (dv_var (i := 2) rfl (.inl rfl)) da_nil)) (blkOk_by (N := ["_law_script", "_law_state", "_law_many", "_law_dry", "_law_rain", "_law_k"]) (sc := defScope s_law_parts) (own := [("_law_k", 5)]) (by decide +kernel)) (fun _ _ _ _ _ => (dgx_name (i := 5) sc_law_parts.nd rfl (.inl rfl) (by decide))) (fun _ _ _ _ _ => dps_nil) (fun _ _ _ _ _ => (dm_call d__law_draw (hr.mono (by decide)) takes0 (da_cons (dv_var (i := 0) rfl (vis_blk (by decide +kernel))) (da_cons (dv_var (i := 1) rfl (vis_blk (by decide +kernel))) (da_cons dv_int da_nil))))))
    (dss_one (ds_ret [] (dm_lst (dl_cons (dm_v (dv_var (i := 3) rfl (.inl rfl))) (dl_cons (dm_v (dv_var (i := 4) rfl (.inl rfl))) (dl_cons (dm_call d__law_draw (hr.mono (by decide)) tk (da_cons (dv_var (i := 0) rfl (.inr (.inl rfl))) (da_cons (dv_var (i := 1) rfl (.inr (.inl rfl))) (da_cons dv_int da_nil)))) (dl_cons (dm_call d__law_draw (hr.mono (by decide)) tk (da_cons (dv_var (i := 0) rfl (.inr (.inl rfl))) (da_cons (dv_var (i := 1) rfl (.inr (.inl rfl))) (da_cons dv_int da_nil)))) dl_nil)))))))))
theorem o_law_near (hK : G.K = K) (n_abs : mg "abs" = none) {f : Addr} {fd : FuncData} (F : Fun K "_law_near" "_law_near" s_law_near f fd) (b : Binds K fd ["_law_value", "_law_shift"] []) (hm : mg "_law_near" = some (.ref f)) : DefD PySem.Challenge.pw_waterbyturns_k09_days w K mg base G "_law_near" 1 2 f_law_near :=
  defD F sc_law_near b hm fun cdv A outer s H E hr =>
    have tk := takes_of (X := cxOf (L2.CX PySem.Challenge.pw_waterbyturns_k09_days w) PySem.Challenge.pw_waterbyturns_k09_days w K mg base ["_law_value", "_law_shift"] "_law_near" (defScope s_law_near) f cdv A outer s H E) rfl rfl rfl rfl
    have ps := passes_of (X := cxOf (L2.CX PySem.Challenge.pw_waterbyturns_k09_days w) PySem.Challenge.pw_waterbyturns_k09_days w K mg base ["_law_value", "_law_shift"] "_law_near" (defScope s_law_near) f cdv A outer s H E) rfl
    (dss_one (ds_ret [] (dm_v (dv_ix hK (dv_m (dm_lst (dl_cons (dm_v (dv_var (i := 0) rfl (.inl rfl))) (dl_cons (dm_v (dv_abs n_abs (da_cons (dv_sub (dv_var (i := 0) rfl (.inl rfl)) dv_int) da_nil))) (dl_cons (dm_v (dv_sub dv_int (dv_abs n_abs (da_cons (dv_sub (dv_sub dv_int (dv_var (i := 0) rfl (.inl rfl))) dv_int) da_nil)))) dl_nil))))) (dv_var (i := 1) rfl (.inl rfl)) (fun _ _ => rfl)))))
theorem o_law_other (hK : G.K = K) (d__law_draw : DefD PySem.Challenge.pw_waterbyturns_k09_days w K mg base G "_law_draw" 1 3 f_law_draw) (d__law_near : DefD PySem.Challenge.pw_waterbyturns_k09_days w K mg base G "_law_near" 1 2 f_law_near) (n_int : mg "int" = none) (n_list : mg "list" = none) (n_range : mg "range" = none) {f : Addr} {fd : FuncData} (F : Fun K "_law_other" "_law_other" s_law_other f fd) (b : Binds K fd ["_law_script", "_law_state", "_law_one", "_law_many"] []) (hm : mg "_law_other" = some (.ref f)) : DefD PySem.Challenge.pw_waterbyturns_k09_days w K mg base G "_law_other" 2 4 f_law_other :=
  defD F sc_law_other b hm fun cdv A outer s H E hr =>
    have tk := takes_of (X := cxOf (L2.CX PySem.Challenge.pw_waterbyturns_k09_days w) PySem.Challenge.pw_waterbyturns_k09_days w K mg base ["_law_script", "_law_state", "_law_one", "_law_many", "_law_two", "_law_k", "_law_part", "_law_at"] "_law_other" (defScope s_law_other) f cdv A outer s H E) rfl rfl rfl rfl
    have ps := passes_of (X := cxOf (L2.CX PySem.Challenge.pw_waterbyturns_k09_days w) PySem.Challenge.pw_waterbyturns_k09_days w K mg base ["_law_script", "_law_state", "_law_one", "_law_many", "_law_two", "_law_k", "_law_part", "_law_at"] "_law_other" (defScope s_law_other) f cdv A outer s H E) rfl
    (dss_cons (ds_set (i := 4) [] sc_law_other.nd rfl (.inl rfl) (dm_lst (dl_cons (dm_tolst hK n_list (da_cons (dv_ix hK (dv_var (i := 2) rfl (.inl rfl)) dv_int (fun _ _ => rfl)) da_nil)) (dl_cons (dm_tolst hK n_list (da_cons (dv_ix hK (dv_var (i := 2) rfl (.inl rfl)) dv_int (fun _ _ => rfl)) da_nil)) (dl_cons (dm_v (dv_ix hK (dv_var (i := 2) rfl (.inl rfl)) dv_int (fun _ _ => rfl))) (dl_cons (dm_v (dv_ix hK (dv_var (i := 2) rfl (.inl rfl)) dv_int (fun _ _ => rfl))) dl_nil))))))
    (dss_cons (ds_with (j := 4) (k := 0) (ds_with (j := 4) (k := 1) (ds_for [] ps rfl (di_range1 rfl n_range (da_cons (dv_m (dm_call d__law_draw (hr.mono (by decide)) tk (da_cons (dv_var (i := 0) rfl (.inl rfl)) (da_cons (dv_var (i := 1) rfl (.inl rfl)) (da_cons dv_int da_nil))))) da_nil)) (dg_name (i := 5) sc_law_other.nd rfl (.inl rfl)) (dss_cons (ds_set (i := 6) [4] sc_law_other.nd rfl (.inl rfl) (dm_v (dv_ix hK (dv_var (i := 4) rfl (.inl rfl)) (dv_m (dm_call d__law_draw (hr.mono (by decide)) tk (da_cons (dv_var (i := 0) rfl (.inl rfl)) (da_cons (dv_var (i := 1) rfl (.inl rfl)) (da_cons dv_int da_nil))))) (fun _ _ => rfl))))
    (dss_cons (ds_set (i := 7) [] sc_law_other.nd rfl (.inl rfl) (dm_v (dv_m (dm_call d__law_draw (hr.mono (by decide)) tk (da_cons (dv_var (i := 0) rfl (.inl rfl)) (da_cons (dv_var (i := 1) rfl (.inl rfl)) (da_cons (dv_var (i := 3) rfl (.inl rfl)) da_nil)))))))
    (dss_one (ds_stoQ (ko := 6) [] (dm_call d__law_near (hr.mono (by decide)) tk (da_cons (dv_ix hK (dv_var (i := 6) rfl (.inl rfl)) (dv_var (i := 7) rfl (.inl rfl)) (fun _ _ => rfl)) (da_cons (dv_m (dm_call d__law_draw (hr.mono (by decide)) tk (da_cons (dv_var (i := 0) rfl (.inl rfl)) (da_cons (dv_var (i := 1) rfl (.inl rfl)) (da_cons dv_int da_nil))))) da_nil))) (dq_var (i := 7) rfl (.inl rfl)) rfl (.inl rfl))))))))
    (dss_cons (ds_setP (i := 4) [4] (dm_call d__law_near (hr.mono (by decide)) tk (da_cons (dv_ix hK (dv_var (i := 4) rfl (.inl rfl)) dv_int (fun _ _ => rfl)) (da_cons (dv_m (dm_call d__law_draw (hr.mono (by decide)) tk (da_cons (dv_var (i := 0) rfl (.inl rfl)) (da_cons (dv_var (i := 1) rfl (.inl rfl)) (da_cons dv_int da_nil))))) da_nil))) (dpt_nil (i := 4) rfl (.inl rfl)) dq_int)
    (dss_cons (ds_if [] (dt_eq hK hr (dv_m (dm_call d__law_draw (hr.mono (by decide)) tk (da_cons (dv_var (i := 0) rfl (.inl rfl)) (da_cons (dv_var (i := 1) rfl (.inl rfl)) (da_cons dv_int da_nil))))) dv_int) (dss_cons (ds_set (i := 4) [4] sc_law_other.nd rfl (.inl rfl) (dm_lst (dl_cons (dm_add hK (dv_ix hK (dv_var (i := 4) rfl (.inl rfl)) dv_int (fun _ _ => rfl)) (dv_m (dm_lst (dl_cons (dm_v dv_int) dl_nil)))) (dl_cons (dm_add hK (dv_ix hK (dv_var (i := 4) rfl (.inl rfl)) dv_int (fun _ _ => rfl)) (dv_m (dm_lst (dl_cons (dm_v dv_int) dl_nil)))) (dl_cons (dm_v (dv_ix hK (dv_var (i := 4) rfl (.inl rfl)) dv_int (fun _ _ => rfl))) (dl_cons (dm_v (dv_ix hK (dv_var (i := 4) rfl (.inl rfl)) dv_int (fun _ _ => rfl))) dl_nil))))))
    (dss_one (ds_set (i := 4) [4] sc_law_other.nd rfl (.inl rfl) (dm_lst (dl_cons (dm_slice hK (dv_ix hK (dv_var (i := 4) rfl (.inl rfl)) dv_int (fun _ _ => rfl)) do_no (do_some dv_int)) (dl_cons (dm_slice hK (dv_ix hK (dv_var (i := 4) rfl (.inl rfl)) dv_int (fun _ _ => rfl)) do_no (do_some dv_int)) (dl_cons (dm_v (dv_ix hK (dv_var (i := 4) rfl (.inl rfl)) dv_int (fun _ _ => rfl))) (dl_cons (dm_v (dv_mod (dv_toint n_int (da_cons (dv_add hK (dv_ix hK (dv_var (i := 2) rfl (.inl rfl)) dv_int (fun _ _ => rfl)) (dv_m (dm_call d__law_draw (hr.mono (by decide)) tk (da_cons (dv_var (i := 0) rfl (.inl rfl)) (da_cons (dv_var (i := 1) rfl (.inl rfl)) (da_cons dv_int da_nil)))))) da_nil)) dv_int)) dl_nil)))))))) dss_nil)
    (dss_one (ds_retO (i := 4) rfl (.inl rfl)))))))
theorem o_is_integer (hK : G.K = K) (n_bool : mg "bool" = none) (n_int : mg "int" = none) (n_isinstance : mg "isinstance" = none) {f : Addr} {fd : FuncData} (F : Fun K "is_integer" "is_integer" s_is_integer f fd) (b : Binds K fd ["value"] []) (hm : mg "is_integer" = some (.ref f)) : DefD PySem.Challenge.pw_waterbyturns_k09_days w K mg base G "is_integer" 1 1 f_is_integer :=
  defD F sc_is_integer b hm fun cdv A outer s H E hr =>
    have tk := takes_of (X := cxOf (L2.CX PySem.Challenge.pw_waterbyturns_k09_days w) PySem.Challenge.pw_waterbyturns_k09_days w K mg base ["value"] "is_integer" (defScope s_is_integer) f cdv A outer s H E) rfl rfl rfl rfl
    have ps := passes_of (X := cxOf (L2.CX PySem.Challenge.pw_waterbyturns_k09_days w) PySem.Challenge.pw_waterbyturns_k09_days w K mg base ["value"] "is_integer" (defScope s_is_integer) f cdv A outer s H E) rfl
    (dss_one (ds_ret [] (dm_v (dv_and (dv_isT hK tab_int n_isinstance n_int boot_int (dv_var (i := 0) rfl (.inl rfl))) (dv_one (dv_not (dv_isT hK tab_bool n_isinstance n_bool boot_bool (dv_var (i := 0) rfl (.inl rfl)))))))))
theorem o_check_number (hK : G.K = K) (d_is_integer : DefD PySem.Challenge.pw_waterbyturns_k09_days w K mg base G "is_integer" 1 1 f_is_integer) {i_BadNumber : Addr} (e_BadNumber : DX.Txt PySem.Challenge.pw_waterbyturns_k09_days K mg (G.T 1) i_BadNumber "BadNumber" "BadNumber.__init__" "bad number" ["what", "value"] s_BadNumber_init) {f : Addr} {fd : FuncData} (F : Fun K "check_number" "check_number" s_check_number f fd) (b : Binds K fd ["what", "value", "low", "high"] []) (hm : mg "check_number" = some (.ref f)) : DefD PySem.Challenge.pw_waterbyturns_k09_days w K mg base G "check_number" 2 4 f_check_number :=
  defD F sc_check_number b hm fun cdv A outer s H E hr =>
    have tk := takes_of (X := cxOf (L2.CX PySem.Challenge.pw_waterbyturns_k09_days w) PySem.Challenge.pw_waterbyturns_k09_days w K mg base ["what", "value", "low", "high"] "check_number" (defScope s_check_number) f cdv A outer s H E) rfl rfl rfl rfl
    have ps := passes_of (X := cxOf (L2.CX PySem.Challenge.pw_waterbyturns_k09_days w) PySem.Challenge.pw_waterbyturns_k09_days w K mg base ["what", "value", "low", "high"] "check_number" (defScope s_check_number) f cdv A outer s H E) rfl
    (dss_cons (ds_if [] (dt_w (dw_or (dt_not (dt_val (dv_m (dm_call d_is_integer (hr.mono (by decide)) tk (da_cons (dv_var (i := 1) rfl (.inl rfl)) da_nil))))) (dw_or (dt_lt (dv_var (i := 1) rfl (.inl rfl)) (dv_var (i := 2) rfl (.inl rfl))) (dw_or1 (dt_gt (dv_var (i := 1) rfl (.inl rfl)) (dv_var (i := 3) rfl (.inl rfl))))))) (dss_one (ds_raise [] rfl tk (dr_x (c := 1) e_BadNumber hr (da_cons (dv_var (i := 0) rfl (.inl rfl)) (da_cons (dv_var (i := 1) rfl (.inl rfl)) da_nil))))) dss_nil)
    (dss_one (ds_ret [] (dm_v (dv_var (i := 1) rfl (.inl rfl))))))
theorem o_Day_init (hK : G.K = K) (c_Day : Cls K (G.T 2)) (d_check_number : DefD PySem.Challenge.pw_waterbyturns_k09_days w K mg base G "check_number" 2 4 f_check_number) {k_MOST_UNITS : Tok} (g_MOST_UNITS : mg "MOST_UNITS" = some (.int 8 k_MOST_UNITS)) (n_len : mg "len" = none) (n_tuple : mg "tuple" = none) (o_dry : ∀ c ∈ ([2] : List Nat), FldC K G.T "dry" c) (o_fill : ∀ c ∈ ([2] : List Nat), FldC K G.T "fill" c) (o_mood : ∀ c ∈ ([2] : List Nat), FldC K G.T "mood" c) (o_rain : ∀ c ∈ ([2] : List Nat), FldC K G.T "rain" c) {f : Addr} {fd : FuncData} (F : Fun K "__init__" "Day.__init__" s_Day_init f fd) (b : Binds K fd ["self", "dry", "rain", "fill", "mood"] []) (hm : mg "Day" = some (.ref (G.T 2))) (M : Mk K (G.T 2) f) : InitD PySem.Challenge.pw_waterbyturns_k09_days w K mg base G "Day" 2 3 5 f_Day_init :=
  ⟨f, fd, _, rfl, fn_ok F sc_Day_init fun cdv A outer s H E hr =>
    have tk := takes_of (X := cxOf (L2.CX PySem.Challenge.pw_waterbyturns_k09_days w) PySem.Challenge.pw_waterbyturns_k09_days w K mg base ["self", "dry", "rain", "fill", "mood", "value"] "Day.__init__" (defScope s_Day_init) f cdv A outer s H E) rfl rfl rfl rfl
    have ps := passes_of (X := cxOf (L2.CX PySem.Challenge.pw_waterbyturns_k09_days w) PySem.Challenge.pw_waterbyturns_k09_days w K mg base ["self", "dry", "rain", "fill", "mood", "value"] "Day.__init__" (defScope s_Day_init) f cdv A outer s H E) rfl
    (dss_cons (ds_expr [] (dm_call d_check_number (hr.mono (by decide)) tk (da_cons dv_str (da_cons (dv_len hK n_len (da_cons (dv_var (i := 1) rfl (.inl rfl)) da_nil)) (da_cons dv_int (da_cons dv_int da_nil))))))
    (dss_cons (ds_for [] ps rfl (di_seq hK (dv_var (i := 1) rfl (.inl rfl))) (dg_name (i := 5) sc_Day_init.nd rfl (.inl rfl)) (dss_one (ds_expr [] (dm_call d_check_number (hr.mono (by decide)) tk (da_cons dv_str (da_cons (dv_var (i := 5) rfl (.inl rfl)) (da_cons dv_int (da_cons (dv_glob (v := .int 8) rfl g_MOST_UNITS ⟨_, rfl⟩ fun _ _ => rfl) da_nil))))))))
    (dss_cons (ds_expr [] (dm_call d_check_number (hr.mono (by decide)) tk (da_cons dv_str (da_cons (dv_len hK n_len (da_cons (dv_var (i := 2) rfl (.inl rfl)) da_nil)) (da_cons (dv_len hK n_len (da_cons (dv_var (i := 1) rfl (.inl rfl)) da_nil)) (da_cons (dv_len hK n_len (da_cons (dv_var (i := 1) rfl (.inl rfl)) da_nil)) da_nil))))))
    (dss_cons (ds_for [] ps rfl (di_seq hK (dv_var (i := 2) rfl (.inl rfl))) (dg_name (i := 5) sc_Day_init.nd rfl (.inl rfl)) (dss_one (ds_expr [] (dm_call d_check_number (hr.mono (by decide)) tk (da_cons dv_str (da_cons (dv_var (i := 5) rfl (.inl rfl)) (da_cons dv_int (da_cons (dv_glob (v := .int 8) rfl g_MOST_UNITS ⟨_, rfl⟩ fun _ _ => rfl) da_nil))))))))
    (dss_cons (ds_self (i := 0) [] (dv_totup hK n_tuple (da_cons (dv_var (i := 1) rfl (.inl rfl)) da_nil)) rfl (.inl rfl) c_Day (o_dry 2 (by decide)).2)
    (dss_cons (ds_self (i := 0) [] (dv_totup hK n_tuple (da_cons (dv_var (i := 2) rfl (.inl rfl)) da_nil)) rfl (.inl rfl) c_Day (o_rain 2 (by decide)).2)
    (dss_cons (ds_self (i := 0) [] (dv_m (dm_call d_check_number (hr.mono (by decide)) tk (da_cons dv_str (da_cons (dv_var (i := 3) rfl (.inl rfl)) (da_cons dv_int (da_cons (dv_glob (v := .int 8) rfl g_MOST_UNITS ⟨_, rfl⟩ fun _ _ => rfl) da_nil)))))) rfl (.inl rfl) c_Day (o_fill 2 (by decide)).2)
    (dss_one (ds_self (i := 0) [] (dv_m (dm_call d_check_number (hr.mono (by decide)) tk (da_cons dv_str (da_cons (dv_var (i := 4) rfl (.inl rfl)) (da_cons dv_int (da_cons dv_int da_nil)))))) rfl (.inl rfl) c_Day (o_mood 2 (by decide)).2))))))))), hm, M, b⟩
theorem o_law_refusal (hK : G.K = K) (g_BadNumber : mg "BadNumber" = some (.ref (G.T 1))) (j_Day : InitD PySem.Challenge.pw_waterbyturns_k09_days w K mg base G "Day" 2 3 5 f_Day_init) (m_BadNumber : ∀ c ∈ ([1] : List Nat), PySem.W.exmOne K (.ref (G.T c)) (.ref (G.T 1)) = some (decide (c ∈ ([1] : List Nat)))) (x_value : ∀ c ∈ ([1] : List Nat), FldX K G.T "value" c) (x_what : ∀ c ∈ ([1] : List Nat), FldX K G.T "what" c) {f : Addr} {fd : FuncData} (F : Fun K "_law_refusal" "_law_refusal" s_law_refusal f fd) (b : Binds K fd ["_law_dry", "_law_rain", "_law_fill", "_law_mood"] []) (hm : mg "_law_refusal" = some (.ref f)) : DefD PySem.Challenge.pw_waterbyturns_k09_days w K mg base G "_law_refusal" 5 4 f_law_refusal :=
  defD F sc_law_refusal b hm fun cdv A outer s H E hr =>
    have tk := takes_of (X := cxOf (L2.CX PySem.Challenge.pw_waterbyturns_k09_days w) PySem.Challenge.pw_waterbyturns_k09_days w K mg base ["_law_dry", "_law_rain", "_law_fill", "_law_mood", "e"] "_law_refusal" (defScope s_law_refusal) f cdv A outer s H E) rfl rfl rfl rfl
    have ps := passes_of (X := cxOf (L2.CX PySem.Challenge.pw_waterbyturns_k09_days w) PySem.Challenge.pw_waterbyturns_k09_days w K mg base ["_law_dry", "_law_rain", "_law_fill", "_law_mood", "e"] "_law_refusal" (defScope s_law_refusal) f cdv A outer s H E) rfl
    (dss_cons (ds_try rfl rfl rfl tk (fun W2 pn2 xe2 tk2 ps2 => (dss_one (ds_expr [] (dm_make j_Day (hr.mono (by decide)) tk2 (da_cons (dv_var (i := 0) rfl (.inl rfl)) (da_cons (dv_var (i := 1) rfl (.inl rfl)) (da_cons (dv_var (i := 2) rfl (.inl rfl)) (da_cons (dv_var (i := 3) rfl (.inl rfl)) da_nil)))))))) (.named (i := 4) (ms := [1]) ⟨rfl, by decide, .inl g_BadNumber⟩ m_BadNumber sc_law_refusal.nd rfl rfl (fun a pn => (dss_one (ds_ret [] (dm_tup (dl_cons (dm_v (dv_attr (cs := []) (xs := [1]) hK (dv_var (i := 4) rfl (.inl rfl)) all_nil x_what)) (dl_cons (dm_v (dv_attr (cs := []) (xs := [1]) hK (dv_var (i := 4) rfl (.inl rfl)) all_nil x_value)) dl_nil)))))) .nil))
    (dss_one (ds_ret [] (dm_tup (dl_cons (dm_v dv_str) (dl_cons (dm_v dv_int) dl_nil))))))
theorem o_law_refusals_hold (hK : G.K = K) (d__law_draw : DefD PySem.Challenge.pw_waterbyturns_k09_days w K mg base G "_law_draw" 1 3 f_law_draw) (d__law_refusal : DefD PySem.Challenge.pw_waterbyturns_k09_days w K mg base G "_law_refusal" 5 4 f_law_refusal) {f : Addr} {fd : FuncData} (F : Fun K "_law_refusals_hold" "_law_refusals_hold" s_law_refusals_hold f fd) (b : Binds K fd ["_law_script", "_law_state", "_law_one", "_law_many"] []) (hm : mg "_law_refusals_hold" = some (.ref f)) : DefD PySem.Challenge.pw_waterbyturns_k09_days w K mg base G "_law_refusals_hold" 6 4 f_law_refusals_hold :=
  defD F sc_law_refusals_hold b hm fun cdv A outer s H E hr =>
    have tk := takes_of (X := cxOf (L2.CX PySem.Challenge.pw_waterbyturns_k09_days w) PySem.Challenge.pw_waterbyturns_k09_days w K mg base ["_law_script", "_law_state", "_law_one", "_law_many", "_law_at", "_law_wrong", "_law_bad", "_law_wet"] "_law_refusals_hold" (defScope s_law_refusals_hold) f cdv A outer s H E) rfl rfl rfl rfl
    have ps := passes_of (X := cxOf (L2.CX PySem.Challenge.pw_waterbyturns_k09_days w) PySem.Challenge.pw_waterbyturns_k09_days w K mg base ["_law_script", "_law_state", "_law_one", "_law_many", "_law_at", "_law_wrong", "_law_bad", "_law_wet"] "_law_refusals_hold" (defScope s_law_refusals_hold) f cdv A outer s H E) rfl
    (dss_cons (ds_set (i := 4) [] sc_law_refusals_hold.nd rfl (.inl rfl) (dm_v (dv_m (dm_call d__law_draw (hr.mono (by decide)) tk (da_cons (dv_var (i := 0) rfl (.inl rfl)) (da_cons (dv_var (i := 1) rfl (.inl rfl)) (da_cons (dv_var (i := 3) rfl (.inl rfl)) da_nil)))))))
    (dss_cons (ds_set (i := 5) [] sc_law_refusals_hold.nd rfl (.inl rfl) (dm_v (dv_ix hK (dv_m (dm_lst (dl_cons (dm_v (dv_neg dv_int)) (dl_cons (dm_v dv_int) (dl_cons (dm_v (dv_pow dv_int dv_int)) (dl_cons (dm_v dv_bl) dl_nil)))))) (dv_m (dm_call d__law_draw (hr.mono (by decide)) tk (da_cons (dv_var (i := 0) rfl (.inl rfl)) (da_cons (dv_var (i := 1) rfl (.inl rfl)) (da_cons dv_int da_nil))))) (fun _ _ => rfl))))
    (dss_cons (ds_set (i := 6) [] sc_law_refusals_hold.nd rfl (.inl rfl) (dm_v (dv_m (dm_add hK (dv_add hK (dv_m (dm_slice hK (dv_ix hK (dv_var (i := 2) rfl (.inl rfl)) dv_int (fun _ _ => rfl)) do_no (do_some (dv_var (i := 4) rfl (.inl rfl))))) (dv_m (dm_lst (dl_cons (dm_v (dv_var (i := 5) rfl (.inl rfl))) dl_nil)))) (dv_m (dm_slice hK (dv_ix hK (dv_var (i := 2) rfl (.inl rfl)) dv_int (fun _ _ => rfl)) (do_some (dv_add hK (dv_var (i := 4) rfl (.inl rfl)) dv_int)) do_no))))))
    (dss_cons (ds_set (i := 7) [] sc_law_refusals_hold.nd rfl (.inl rfl) (dm_v (dv_m (dm_add hK (dv_add hK (dv_m (dm_slice hK (dv_ix hK (dv_var (i := 2) rfl (.inl rfl)) dv_int (fun _ _ => rfl)) do_no (do_some (dv_var (i := 4) rfl (.inl rfl))))) (dv_m (dm_lst (dl_cons (dm_v (dv_var (i := 5) rfl (.inl rfl))) dl_nil)))) (dv_m (dm_slice hK (dv_ix hK (dv_var (i := 2) rfl (.inl rfl)) dv_int (fun _ _ => rfl)) (do_some (dv_add hK (dv_var (i := 4) rfl (.inl rfl)) dv_int)) do_no))))))
    (dss_cons (ds_if [] (dt_ne hK hr (dv_m (dm_call d__law_refusal (hr.mono (by decide)) tk (da_cons (dv_var (i := 6) rfl (.inl rfl)) (da_cons (dv_add hK (dv_ix hK (dv_var (i := 2) rfl (.inl rfl)) dv_int (fun _ _ => rfl)) (dv_m (dm_lst (dl_cons (dm_v dv_int) dl_nil)))) (da_cons dv_int (da_cons dv_int da_nil)))))) (dv_m (dm_tup (dl_cons (dm_v dv_str) (dl_cons (dm_v (dv_var (i := 5) rfl (.inl rfl))) dl_nil))))) (dss_one (ds_ret [] (dm_v dv_bl))) dss_nil)
    (dss_cons (ds_if [] (dt_ne hK hr (dv_m (dm_call d__law_refusal (hr.mono (by decide)) tk (da_cons (dv_ix hK (dv_var (i := 2) rfl (.inl rfl)) dv_int (fun _ _ => rfl)) (da_cons (dv_var (i := 7) rfl (.inl rfl)) (da_cons dv_int (da_cons dv_int da_nil)))))) (dv_m (dm_tup (dl_cons (dm_v dv_str) (dl_cons (dm_v (dv_var (i := 5) rfl (.inl rfl))) dl_nil))))) (dss_one (ds_ret [] (dm_v dv_bl))) dss_nil)
    (dss_cons (ds_if [] (dt_ne hK hr (dv_m (dm_call d__law_refusal (hr.mono (by decide)) tk (da_cons (dv_ix hK (dv_var (i := 2) rfl (.inl rfl)) dv_int (fun _ _ => rfl)) (da_cons (dv_add hK (dv_var (i := 7) rfl (.inl rfl)) (dv_m (dm_lst (dl_cons (dm_v dv_int) dl_nil)))) (da_cons dv_int (da_cons dv_int da_nil)))))) (dv_m (dm_tup (dl_cons (dm_v dv_str) (dl_cons (dm_v (dv_add hK (dv_var (i := 3) rfl (.inl rfl)) dv_int)) dl_nil))))) (dss_one (ds_ret [] (dm_v dv_bl))) dss_nil)
    (dss_cons (ds_if [] (dt_w (dw_or (dt_ne hK hr (dv_m (dm_call d__law_refusal (hr.mono (by decide)) tk (da_cons (dv_m (dm_lst dl_nil)) (da_cons (dv_m (dm_lst dl_nil)) (da_cons dv_int (da_cons dv_int da_nil)))))) (dv_m (dm_tup (dl_cons (dm_v dv_str) (dl_cons (dm_v dv_int) dl_nil))))) (dw_or1 (dt_ne hK hr (dv_m (dm_call d__law_refusal (hr.mono (by decide)) tk (da_cons (dv_mul (dv_m (dm_lst (dl_cons (dm_v dv_int) dl_nil))) dv_int) (da_cons (dv_mul (dv_m (dm_lst (dl_cons (dm_v dv_int) dl_nil))) dv_int) (da_cons dv_int (da_cons dv_int da_nil)))))) (dv_m (dm_tup (dl_cons (dm_v dv_str) (dl_cons (dm_v dv_int) dl_nil)))))))) (dss_one (ds_ret [] (dm_v dv_bl))) dss_nil)
    (dss_cons (ds_if [] (dt_ne hK hr (dv_m (dm_call d__law_refusal (hr.mono (by decide)) tk (da_cons (dv_ix hK (dv_var (i := 2) rfl (.inl rfl)) dv_int (fun _ _ => rfl)) (da_cons (dv_ix hK (dv_var (i := 2) rfl (.inl rfl)) dv_int (fun _ _ => rfl)) (da_cons (dv_var (i := 5) rfl (.inl rfl)) (da_cons dv_int da_nil)))))) (dv_m (dm_tup (dl_cons (dm_v dv_str) (dl_cons (dm_v (dv_var (i := 5) rfl (.inl rfl))) dl_nil))))) (dss_one (ds_ret [] (dm_v dv_bl))) dss_nil)
    (dss_cons (ds_if [] (dt_ne hK hr (dv_m (dm_call d__law_refusal (hr.mono (by decide)) tk (da_cons (dv_ix hK (dv_var (i := 2) rfl (.inl rfl)) dv_int (fun _ _ => rfl)) (da_cons (dv_ix hK (dv_var (i := 2) rfl (.inl rfl)) dv_int (fun _ _ => rfl)) (da_cons dv_int (da_cons dv_int da_nil)))))) (dv_m (dm_tup (dl_cons (dm_v dv_str) (dl_cons (dm_v dv_int) dl_nil))))) (dss_one (ds_ret [] (dm_v dv_bl))) dss_nil)
    (dss_one (ds_ret [] (dm_v (dv_eq hK hr (dv_m (dm_call d__law_refusal (hr.mono (by decide)) tk (da_cons (dv_ix hK (dv_var (i := 2) rfl (.inl rfl)) dv_int (fun _ _ => rfl)) (da_cons (dv_ix hK (dv_var (i := 2) rfl (.inl rfl)) dv_int (fun _ _ => rfl)) (da_cons dv_int (da_cons dv_int da_nil)))))) (dv_m (dm_tup (dl_cons (dm_v dv_str) (dl_cons (dm_v dv_int) dl_nil))))))))))))))))))
theorem o_Day_eq (hK : G.K = K) (g_Day : mg "Day" = some (.ref (G.T 2))) (n_isinstance : mg "isinstance" = none) (o_dry : ∀ c ∈ ([2] : List Nat), FldC K G.T "dry" c) (o_fill : ∀ c ∈ ([2] : List Nat), FldC K G.T "fill" c) (o_mood : ∀ c ∈ ([2] : List Nat), FldC K G.T "mood" c) (o_rain : ∀ c ∈ ([2] : List Nat), FldC K G.T "rain" c) (t_Day : IsTab K G (.ref (G.T 2)) (tabC [(2, true)] [(1, false)])) {f : Addr} {fd : FuncData} (F : Fun K "__eq__" "Day.__eq__" s_Day_eq f fd) (b : Binds K fd ["self", "other"] []) (hs : PySem.W.findIn K (.ref (G.T 2)) "__eq__" = some (some (.ref f))) (hf : PySem.W.isFn K (.ref f) = true) : OwnD PySem.Challenge.pw_waterbyturns_k09_days w K mg base G "__eq__" 1 (2, f_Day_eq) :=
  ⟨f, fd, _, fn_ok F sc_Day_eq fun cdv A outer s H E hr =>
    have tk := takes_of (X := cxOf (L2.CX PySem.Challenge.pw_waterbyturns_k09_days w) PySem.Challenge.pw_waterbyturns_k09_days w K mg base ["self", "other"] "Day.__eq__" (defScope s_Day_eq) f cdv A outer s H E) rfl rfl rfl rfl
    have ps := passes_of (X := cxOf (L2.CX PySem.Challenge.pw_waterbyturns_k09_days w) PySem.Challenge.pw_waterbyturns_k09_days w K mg base ["self", "other"] "Day.__eq__" (defScope s_Day_eq) f cdv A outer s H E) rfl
    (dss_cons (ds_if [] (dt_not (dt_val (dv_isC hK t_Day n_isinstance g_Day (dv_var (i := 1) rfl (.inl rfl))))) (dss_one ds_stuck) dss_nil)
    (dss_cons (ds_if [] (dt_w (dw_or (dt_ne hK hr (dv_attr (cs := [2]) (xs := []) hK (dv_var (i := 0) rfl (.inl rfl)) o_dry all_nil) (dv_attr (cs := [2]) (xs := []) hK (dv_var (i := 1) rfl (.inl rfl)) o_dry all_nil)) (dw_or1 (dt_ne hK hr (dv_attr (cs := [2]) (xs := []) hK (dv_var (i := 0) rfl (.inl rfl)) o_rain all_nil) (dv_attr (cs := [2]) (xs := []) hK (dv_var (i := 1) rfl (.inl rfl)) o_rain all_nil))))) (dss_one (ds_ret [] (dm_v dv_bl))) dss_nil)
    (dss_one (ds_ret [] (dm_v (dv_and (dv_eq hK hr (dv_attr (cs := [2]) (xs := []) hK (dv_var (i := 0) rfl (.inl rfl)) o_fill all_nil) (dv_attr (cs := [2]) (xs := []) hK (dv_var (i := 1) rfl (.inl rfl)) o_fill all_nil)) (dv_one (dv_eq hK hr (dv_attr (cs := [2]) (xs := []) hK (dv_var (i := 0) rfl (.inl rfl)) o_mood all_nil) (dv_attr (cs := [2]) (xs := []) hK (dv_var (i := 1) rfl (.inl rfl)) o_mood all_nil))))))))), hs, hf, b⟩
theorem o_Day_add (hK : G.K = K) (d_check_number : DefD PySem.Challenge.pw_waterbyturns_k09_days w K mg base G "check_number" 2 4 f_check_number) {k_MOST_UNITS : Tok} (g_MOST_UNITS : mg "MOST_UNITS" = some (.int 8 k_MOST_UNITS)) (j_Day : InitD PySem.Challenge.pw_waterbyturns_k09_days w K mg base G "Day" 2 3 5 f_Day_init) (n_int : mg "int" = none) (n_min : mg "min" = none) (o_dry : ∀ c ∈ ([2] : List Nat), FldC K G.T "dry" c) (o_fill : ∀ c ∈ ([2] : List Nat), FldC K G.T "fill" c) (o_mood : ∀ c ∈ ([2] : List Nat), FldC K G.T "mood" c) (o_rain : ∀ c ∈ ([2] : List Nat), FldC K G.T "rain" c) {f : Addr} {fd : FuncData} (F : Fun K "__add__" "Day.__add__" s_Day_add f fd) (b : Binds K fd ["self", "units"] []) (hs : PySem.W.findIn K (.ref (G.T 2)) "__add__" = some (some (.ref f))) (hf : PySem.W.isFn K (.ref f) = true) (h1 : PySem.W.selfFirst K (G.T 2) = true) {rc fo ro : Option Value} (h2 : PySem.W.findIn K (.ref (G.T 2)) "__radd__" = some rc) (h3 : rc = none ∨ ∃ g : Addr, rc = some (.ref g)) (h4 : PySem.W.findIn K (.type "int") "__add__" = some fo) (h5 : PySem.W.findIn K (.type "int") "__radd__" = some ro) (h6 : PySem.W.subIn K (.type "int") (.ref (G.T 2)) = some false) : BinD PySem.Challenge.pw_waterbyturns_k09_days w K mg base G .Add 5 (2, f_Day_add) :=
  ⟨⟨f, fd, _, fn_ok F sc_Day_add fun cdv A outer s H E hr =>
    have tk := takes_of (X := cxOf (L2.CX PySem.Challenge.pw_waterbyturns_k09_days w) PySem.Challenge.pw_waterbyturns_k09_days w K mg base ["self", "units", "rain", "value"] "Day.__add__" (defScope s_Day_add) f cdv A outer s H E) rfl rfl rfl rfl
    have ps := passes_of (X := cxOf (L2.CX PySem.Challenge.pw_waterbyturns_k09_days w) PySem.Challenge.pw_waterbyturns_k09_days w K mg base ["self", "units", "rain", "value"] "Day.__add__" (defScope s_Day_add) f cdv A outer s H E) rfl
    (dss_cons (ds_expr [] (dm_call d_check_number (hr.mono (by decide)) tk (da_cons dv_str (da_cons (dv_var (i := 1) rfl (.inr (.inl rfl))) (da_cons dv_int (da_cons (dv_glob (v := .int 8) rfl g_MOST_UNITS ⟨_, rfl⟩ fun _ _ => rfl) da_nil))))))
    (dss_cons (ds_setLcV (i := 2) [] rfl sc_Day_add.nd rfl rfl (sw_true rfl rfl rfl (by decide +kernel)) (own := [("value", 3)]) (di_seq hK (dv_attr (cs := [2]) (xs := []) hK (dv_var (i := 0) rfl (.inl rfl)) o_rain all_nil)) (blkOk_by (N := ["self", "units", "rain", "value"]) (sc := defScope s_Day_add) (own := [("value", 3)]) (by decide +kernel)) (fun _ _ _ _ _ => (dgx_name (i := 3) sc_Day_add.nd rfl (.inl rfl) (by decide))) (fun _ _ _ _ _ => dps_nil) (fun _ _ _ _ _ => (dm_v (dv_min2 rfl n_min (da_cons (dv_glob (v := .int 8) rfl g_MOST_UNITS ⟨_, rfl⟩ fun _ _ => rfl) (da_cons (dv_toint n_int (da_cons (dv_add hK (dv_var (i := 3) rfl (vis_blk (by decide +kernel))) (dv_var (i := 1) rfl (vis_blk (by decide +kernel)))) da_nil)) da_nil))))))
    (dss_one (ds_ret [] (dm_make j_Day (hr.mono (by decide)) tk (da_cons (dv_attr (cs := [2]) (xs := []) hK (dv_var (i := 0) rfl (.inl rfl)) o_dry all_nil) (da_cons (dv_var (i := 2) rfl (.inl rfl)) (da_cons (dv_attr (cs := [2]) (xs := []) hK (dv_var (i := 0) rfl (.inl rfl)) o_fill all_nil) (da_cons (dv_attr (cs := [2]) (xs := []) hK (dv_var (i := 0) rfl (.inl rfl)) o_mood all_nil) da_nil))))))))), hs, hf, b⟩, h1, ⟨rc, fo, ro, h2, h3, h4, h5, h6⟩⟩
theorem o_law_sum (hK : G.K = K) (g_BadNumber : mg "BadNumber" = some (.ref (G.T 1))) (m_BadNumber : ∀ c ∈ ([1] : List Nat), PySem.W.exmOne K (.ref (G.T c)) (.ref (G.T 1)) = some (decide (c ∈ ([1] : List Nat)))) (w_Day_add : BinD PySem.Challenge.pw_waterbyturns_k09_days w K mg base G .Add 5 (2, f_Day_add)) (x_value : ∀ c ∈ ([1] : List Nat), FldX K G.T "value" c) (x_what : ∀ c ∈ ([1] : List Nat), FldX K G.T "what" c) {f : Addr} {fd : FuncData} (F : Fun K "_law_sum" "_law_sum" s_law_sum f fd) (b : Binds K fd ["_law_day", "_law_units"] []) (hm : mg "_law_sum" = some (.ref f)) : DefD PySem.Challenge.pw_waterbyturns_k09_days w K mg base G "_law_sum" 6 2 f_law_sum :=
  defD F sc_law_sum b hm fun cdv A outer s H E hr =>
    have tk := takes_of (X := cxOf (L2.CX PySem.Challenge.pw_waterbyturns_k09_days w) PySem.Challenge.pw_waterbyturns_k09_days w K mg base ["_law_day", "_law_units", "e"] "_law_sum" (defScope s_law_sum) f cdv A outer s H E) rfl rfl rfl rfl
    have ps := passes_of (X := cxOf (L2.CX PySem.Challenge.pw_waterbyturns_k09_days w) PySem.Challenge.pw_waterbyturns_k09_days w K mg base ["_law_day", "_law_units", "e"] "_law_sum" (defScope s_law_sum) f cdv A outer s H E) rfl
    (dss_one (ds_try rfl rfl rfl tk (fun W2 pn2 xe2 tk2 ps2 => (dss_one (ds_ret [] (dm_addO (T := [(2, f_Day_add)]) hK (all_cons (binD_mono (j := 5) w_Day_add (by decide)) all_nil) (hr.mono (by decide)) tk2 (dv_var (i := 0) rfl (.inl rfl)) (dv_var (i := 1) rfl (.inl rfl)))))) (.named (i := 2) (ms := [1]) ⟨rfl, by decide, .inl g_BadNumber⟩ m_BadNumber sc_law_sum.nd rfl rfl (fun a pn => (dss_one (ds_ret [] (dm_tup (dl_cons (dm_v (dv_attr (cs := []) (xs := [1]) hK (dv_var (i := 2) rfl (.inl rfl)) all_nil x_what)) (dl_cons (dm_v (dv_attr (cs := []) (xs := [1]) hK (dv_var (i := 2) rfl (.inl rfl)) all_nil x_value)) dl_nil)))))) .nil)))
theorem o_law_sums_hold (hK : G.K = K) (d__law_draw : DefD PySem.Challenge.pw_waterbyturns_k09_days w K mg base G "_law_draw" 1 3 f_law_draw) (d__law_sum : DefD PySem.Challenge.pw_waterbyturns_k09_days w K mg base G "_law_sum" 6 2 f_law_sum) (j_Day : InitD PySem.Challenge.pw_waterbyturns_k09_days w K mg base G "Day" 2 3 5 f_Day_init) (n_int : mg "int" = none) (n_min : mg "min" = none) (n_tuple : mg "tuple" = none) (o_rain : ∀ c ∈ ([2] : List Nat), FldC K G.T "rain" c) (v_Day : NeD K (G.T 2)) (w_Day_eq : OwnD PySem.Challenge.pw_waterbyturns_k09_days w K mg base G "__eq__" 1 (2, f_Day_eq)) {f : Addr} {fd : FuncData} (F : Fun K "_law_sums_hold" "_law_sums_hold" s_law_sums_hold f fd) (b : Binds K fd ["_law_script", "_law_state", "_law_a", "_law_one"] []) (hm : mg "_law_sums_hold" = some (.ref f)) : DefD PySem.Challenge.pw_waterbyturns_k09_days w K mg base G "_law_sums_hold" 7 4 f_law_sums_hold :=
  defD F sc_law_sums_hold b hm fun cdv A outer s H E hr =>
    have tk := takes_of (X := cxOf (L2.CX PySem.Challenge.pw_waterbyturns_k09_days w) PySem.Challenge.pw_waterbyturns_k09_days w K mg base ["_law_script", "_law_state", "_law_a", "_law_one", "_law_units", "_law_told", "_law_more", "_law_value"] "_law_sums_hold" (defScope s_law_sums_hold) f cdv A outer s H E) rfl rfl rfl rfl
    have ps := passes_of (X := cxOf (L2.CX PySem.Challenge.pw_waterbyturns_k09_days w) PySem.Challenge.pw_waterbyturns_k09_days w K mg base ["_law_script", "_law_state", "_law_a", "_law_one", "_law_units", "_law_told", "_law_more", "_law_value"] "_law_sums_hold" (defScope s_law_sums_hold) f cdv A outer s H E) rfl
    (dss_cons (ds_set (i := 4) [] sc_law_sums_hold.nd rfl (.inr rfl) (dm_v (dv_sub (dv_m (dm_call d__law_draw (hr.mono (by decide)) tk (da_cons (dv_var (i := 0) rfl (.inl rfl)) (da_cons (dv_var (i := 1) rfl (.inl rfl)) (da_cons dv_int da_nil))))) dv_int)))
    (dss_cons (ds_set (i := 5) [] sc_law_sums_hold.nd rfl (.inl rfl) (dm_v (dv_m (dm_call d__law_sum (hr.mono (by decide)) tk (da_cons (dv_var (i := 2) rfl (.inl rfl)) (da_cons (dv_var (i := 4) rfl (.inr (.inl rfl))) da_nil))))))
    (dss_cons (ds_if [] (dt_w (dw_or (dt_lt (dv_var (i := 4) rfl (.inr (.inl rfl))) dv_int) (dw_or1 (dt_gt (dv_var (i := 4) rfl (.inr (.inl rfl))) dv_int)))) (dss_one (ds_ret [] (dm_v (dv_eq hK hr (dv_var (i := 5) rfl (.inl rfl)) (dv_m (dm_tup (dl_cons (dm_v dv_str) (dl_cons (dm_v (dv_var (i := 4) rfl (.inr (.inl rfl)))) dl_nil)))))))) dss_nil)
    (dss_cons (ds_setLcV (i := 6) [] rfl sc_law_sums_hold.nd rfl rfl (sw_true rfl rfl rfl (by decide +kernel)) (own := [("_law_value", 7)]) (di_seq hK (dv_ix hK (dv_var (i := 3) rfl (.inl rfl)) dv_int (fun _ _ => rfl))) (blkOk_by (N := ["_law_script", "_law_state", "_law_a", "_law_one", "_law_units", "_law_told", "_law_more", "_law_value"]) (sc := defScope s_law_sums_hold) (own := [("_law_value", 7)]) (by decide +kernel)) (fun _ _ _ _ _ => (dgx_name (i := 7) sc_law_sums_hold.nd rfl (.inl rfl) (by decide))) (fun _ _ _ _ _ => dps_nil) (fun _ _ _ _ _ => (dm_v (dv_min2 rfl n_min (da_cons dv_int (da_cons (dv_toint n_int (da_cons (dv_add hK (dv_var (i := 7) rfl (vis_blk (by decide +kernel))) (dv_var (i := 4) rfl (vis_blk (by decide +kernel)))) da_nil)) da_nil))))))
    (dss_one (ds_ret [] (dm_v (dv_and (dv_eqW (T := [(2, f_Day_eq)]) hK (all_cons (ownD_mono (j := 1) w_Day_eq (by decide)) all_nil) (hr.mono (by decide)) (dv_var (i := 5) rfl (.inl rfl)) (dv_m (dm_make j_Day (hr.mono (by decide)) tk (da_cons (dv_ix hK (dv_var (i := 3) rfl (.inl rfl)) dv_int (fun _ _ => rfl)) (da_cons (dv_var (i := 6) rfl (.inl rfl)) (da_cons (dv_ix hK (dv_var (i := 3) rfl (.inl rfl)) dv_int (fun _ _ => rfl)) (da_cons (dv_ix hK (dv_var (i := 3) rfl (.inl rfl)) dv_int (fun _ _ => rfl)) da_nil))))))) (dv_one (dv_eq hK hr (dv_attr (cs := [2]) (xs := []) hK (dv_var (i := 2) rfl (.inl rfl)) o_rain all_nil) (dv_totup hK n_tuple (da_cons (dv_ix hK (dv_var (i := 3) rfl (.inl rfl)) dv_int (fun _ _ => rfl)) da_nil))))))))))))
theorem o_at_least (hK : G.K = K) (n_enumerate : mg "enumerate" = none) {f : Addr} {fd : FuncData} (F : Fun K "at_least" "at_least" s_at_least f fd) (b : Binds K fd ["more", "less"] []) (hm : mg "at_least" = some (.ref f)) : DefD PySem.Challenge.pw_waterbyturns_k09_days w K mg base G "at_least" 1 2 f_at_least :=
  defD F sc_at_least b hm fun cdv A outer s H E hr =>
    have tk := takes_of (X := cxOf (L2.CX PySem.Challenge.pw_waterbyturns_k09_days w) PySem.Challenge.pw_waterbyturns_k09_days w K mg base ["more", "less", "at", "value"] "at_least" (defScope s_at_least) f cdv A outer s H E) rfl rfl rfl rfl
    have ps := passes_of (X := cxOf (L2.CX PySem.Challenge.pw_waterbyturns_k09_days w) PySem.Challenge.pw_waterbyturns_k09_days w K mg base ["more", "less", "at", "value"] "at_least" (defScope s_at_least) f cdv A outer s H E) rfl
    (dss_cons (ds_for [] ps rfl (di_enum hK n_enumerate (da_cons (dv_var (i := 1) rfl (.inl rfl)) da_nil)) (dg_tup 2 rfl hK (dgs_cons (dg_name (i := 2) sc_at_least.nd rfl (.inl rfl)) (dgs_cons (dg_name (i := 3) sc_at_least.nd rfl (.inl rfl)) dgs_nil))) (dss_one (ds_if [] (dt_lt (dv_ix hK (dv_var (i := 0) rfl (.inl rfl)) (dv_var (i := 2) rfl (.inl rfl)) (fun _ _ => rfl)) (dv_var (i := 3) rfl (.inl rfl))) (dss_one (ds_ret [] (dm_v dv_bl))) dss_nil)))
    (dss_one (ds_ret [] (dm_v dv_bl))))
theorem o_Day_le (hK : G.K = K) (d_at_least : DefD PySem.Challenge.pw_waterbyturns_k09_days w K mg base G "at_least" 1 2 f_at_least) (g_Day : mg "Day" = some (.ref (G.T 2))) (n_isinstance : mg "isinstance" = none) (n_len : mg "len" = none) (o_dry : ∀ c ∈ ([2] : List Nat), FldC K G.T "dry" c) (o_fill : ∀ c ∈ ([2] : List Nat), FldC K G.T "fill" c) (o_mood : ∀ c ∈ ([2] : List Nat), FldC K G.T "mood" c) (o_rain : ∀ c ∈ ([2] : List Nat), FldC K G.T "rain" c) (t_Day : IsTab K G (.ref (G.T 2)) (tabC [(2, true)] [(1, false)])) {f : Addr} {fd : FuncData} (F : Fun K "__le__" "Day.__le__" s_Day_le f fd) (b : Binds K fd ["self", "other"] []) (hs : PySem.W.findIn K (.ref (G.T 2)) "__le__" = some (some (.ref f))) (hf : PySem.W.isFn K (.ref f) = true) : OwnD PySem.Challenge.pw_waterbyturns_k09_days w K mg base G "__le__" 2 (2, f_Day_le) :=
  ⟨f, fd, _, fn_ok F sc_Day_le fun cdv A outer s H E hr =>
    have tk := takes_of (X := cxOf (L2.CX PySem.Challenge.pw_waterbyturns_k09_days w) PySem.Challenge.pw_waterbyturns_k09_days w K mg base ["self", "other"] "Day.__le__" (defScope s_Day_le) f cdv A outer s H E) rfl rfl rfl rfl
    have ps := passes_of (X := cxOf (L2.CX PySem.Challenge.pw_waterbyturns_k09_days w) PySem.Challenge.pw_waterbyturns_k09_days w K mg base ["self", "other"] "Day.__le__" (defScope s_Day_le) f cdv A outer s H E) rfl
    (dss_cons (ds_if [] (dt_not (dt_val (dv_isC hK t_Day n_isinstance g_Day (dv_var (i := 1) rfl (.inl rfl))))) (dss_one ds_stuck) dss_nil)
    (dss_cons (ds_if [] (dt_w (dw_or (dt_ne hK hr (dv_len hK n_len (da_cons (dv_attr (cs := [2]) (xs := []) hK (dv_var (i := 0) rfl (.inl rfl)) o_dry all_nil) da_nil)) (dv_len hK n_len (da_cons (dv_attr (cs := [2]) (xs := []) hK (dv_var (i := 1) rfl (.inl rfl)) o_dry all_nil) da_nil))) (dw_or1 (dt_ne hK hr (dv_attr (cs := [2]) (xs := []) hK (dv_var (i := 0) rfl (.inl rfl)) o_mood all_nil) (dv_attr (cs := [2]) (xs := []) hK (dv_var (i := 1) rfl (.inl rfl)) o_mood all_nil))))) (dss_one (ds_ret [] (dm_v dv_bl))) dss_nil)
    (dss_cons (ds_if [] (dt_w (dw_or (dt_not (dt_val (dv_m (dm_call d_at_least (hr.mono (by decide)) tk (da_cons (dv_attr (cs := [2]) (xs := []) hK (dv_var (i := 0) rfl (.inl rfl)) o_dry all_nil) (da_cons (dv_attr (cs := [2]) (xs := []) hK (dv_var (i := 1) rfl (.inl rfl)) o_dry all_nil) da_nil)))))) (dw_or1 (dt_not (dt_val (dv_m (dm_call d_at_least (hr.mono (by decide)) tk (da_cons (dv_attr (cs := [2]) (xs := []) hK (dv_var (i := 1) rfl (.inl rfl)) o_rain all_nil) (da_cons (dv_attr (cs := [2]) (xs := []) hK (dv_var (i := 0) rfl (.inl rfl)) o_rain all_nil) da_nil))))))))) (dss_one (ds_ret [] (dm_v dv_bl))) dss_nil)
    (dss_one (ds_ret [] (dm_v (dv_le (dv_attr (cs := [2]) (xs := []) hK (dv_var (i := 0) rfl (.inl rfl)) o_fill all_nil) (dv_attr (cs := [2]) (xs := []) hK (dv_var (i := 1) rfl (.inl rfl)) o_fill all_nil)))))))), hs, hf, b⟩
theorem o_law_harsher (hK : G.K = K) (n_enumerate : mg "enumerate" = none) (n_len : mg "len" = none) (v_Day : NeD K (G.T 2)) (w_Day_eq : OwnD PySem.Challenge.pw_waterbyturns_k09_days w K mg base G "__eq__" 1 (2, f_Day_eq)) {f : Addr} {fd : FuncData} (F : Fun K "_law_harsher" "_law_harsher" s_law_harsher f fd) (b : Binds K fd ["_law_one", "_law_two"] []) (hm : mg "_law_harsher" = some (.ref f)) : DefD PySem.Challenge.pw_waterbyturns_k09_days w K mg base G "_law_harsher" 3 2 f_law_harsher :=
  defD F sc_law_harsher b hm fun cdv A outer s H E hr =>
    have tk := takes_of (X := cxOf (L2.CX PySem.Challenge.pw_waterbyturns_k09_days w) PySem.Challenge.pw_waterbyturns_k09_days w K mg base ["_law_one", "_law_two", "_law_at", "_law_units"] "_law_harsher" (defScope s_law_harsher) f cdv A outer s H E) rfl rfl rfl rfl
    have ps := passes_of (X := cxOf (L2.CX PySem.Challenge.pw_waterbyturns_k09_days w) PySem.Challenge.pw_waterbyturns_k09_days w K mg base ["_law_one", "_law_two", "_law_at", "_law_units"] "_law_harsher" (defScope s_law_harsher) f cdv A outer s H E) rfl
    (dss_cons (ds_if [] (dt_w (dw_or (dt_ne hK hr (dv_len hK n_len (da_cons (dv_ix hK (dv_var (i := 0) rfl (.inl rfl)) dv_int (fun _ _ => rfl)) da_nil)) (dv_len hK n_len (da_cons (dv_ix hK (dv_var (i := 1) rfl (.inl rfl)) dv_int (fun _ _ => rfl)) da_nil))) (dw_or (dt_neW (T := [(2, f_Day_eq)]) hK (all_cons (ownD_mono (j := 1) w_Day_eq (by decide)) all_nil) (all_cons v_Day all_nil) (hr.mono (by decide)) (dv_ix hK (dv_var (i := 0) rfl (.inl rfl)) dv_int (fun _ _ => rfl)) (dv_ix hK (dv_var (i := 1) rfl (.inl rfl)) dv_int (fun _ _ => rfl))) (dw_or1 (dt_gt (dv_ix hK (dv_var (i := 0) rfl (.inl rfl)) dv_int (fun _ _ => rfl)) (dv_ix hK (dv_var (i := 1) rfl (.inl rfl)) dv_int (fun _ _ => rfl))))))) (dss_one (ds_ret [] (dm_v dv_bl))) dss_nil)
    (dss_cons (ds_for [] ps rfl (di_enum hK n_enumerate (da_cons (dv_ix hK (dv_var (i := 0) rfl (.inl rfl)) dv_int (fun _ _ => rfl)) da_nil)) (dg_tup 2 rfl hK (dgs_cons (dg_name (i := 2) sc_law_harsher.nd rfl (.inl rfl)) (dgs_cons (dg_name (i := 3) sc_law_harsher.nd rfl (.inl rfl)) dgs_nil))) (dss_one (ds_if [] (dt_w (dw_or (dt_lt (dv_var (i := 3) rfl (.inl rfl)) (dv_ix hK (dv_ix hK (dv_var (i := 1) rfl (.inl rfl)) dv_int (fun _ _ => rfl)) (dv_var (i := 2) rfl (.inl rfl)) (fun _ _ => rfl))) (dw_or1 (dt_gt (dv_ix hK (dv_ix hK (dv_var (i := 0) rfl (.inl rfl)) dv_int (fun _ _ => rfl)) (dv_var (i := 2) rfl (.inl rfl)) (fun _ _ => rfl)) (dv_ix hK (dv_ix hK (dv_var (i := 1) rfl (.inl rfl)) dv_int (fun _ _ => rfl)) (dv_var (i := 2) rfl (.inl rfl)) (fun _ _ => rfl)))))) (dss_one (ds_ret [] (dm_v dv_bl))) dss_nil)))
    (dss_one (ds_ret [] (dm_v dv_bl)))))
theorem o_law (hK : G.K = K) (d__law_draw : DefD PySem.Challenge.pw_waterbyturns_k09_days w K mg base G "_law_draw" 1 3 f_law_draw) (d__law_harsher : DefD PySem.Challenge.pw_waterbyturns_k09_days w K mg base G "_law_harsher" 3 2 f_law_harsher) (d__law_other : DefD PySem.Challenge.pw_waterbyturns_k09_days w K mg base G "_law_other" 2 4 f_law_other) (d__law_parts : DefD PySem.Challenge.pw_waterbyturns_k09_days w K mg base G "_law_parts" 2 3 f_law_parts) (d__law_refusals_hold : DefD PySem.Challenge.pw_waterbyturns_k09_days w K mg base G "_law_refusals_hold" 6 4 f_law_refusals_hold) (d__law_start : DefD PySem.Challenge.pw_waterbyturns_k09_days w K mg base G "_law_start" 1 1 f_law_start) (d__law_sums_hold : DefD PySem.Challenge.pw_waterbyturns_k09_days w K mg base G "_law_sums_hold" 7 4 f_law_sums_hold) (j_Day : InitD PySem.Challenge.pw_waterbyturns_k09_days w K mg base G "Day" 2 3 5 f_Day_init) (n_list : mg "list" = none) (n_tuple : mg "tuple" = none) (o_dry : ∀ c ∈ ([2] : List Nat), FldC K G.T "dry" c) (o_fill : ∀ c ∈ ([2] : List Nat), FldC K G.T "fill" c) (o_mood : ∀ c ∈ ([2] : List Nat), FldC K G.T "mood" c) (o_rain : ∀ c ∈ ([2] : List Nat), FldC K G.T "rain" c) (v_Day : NeD K (G.T 2)) (w_Day_eq : OwnD PySem.Challenge.pw_waterbyturns_k09_days w K mg base G "__eq__" 1 (2, f_Day_eq)) (w_Day_le : OwnD PySem.Challenge.pw_waterbyturns_k09_days w K mg base G "__le__" 2 (2, f_Day_le)) {f : Addr} {fd : FuncData} (F : Fun K "law" "law" s_law f fd) : FnOk PySem.Challenge.pw_waterbyturns_k09_days w K mg base (L2.CX PySem.Challenge.pw_waterbyturns_k09_days w) 8 f fd ["_law_script"] (spD G f_law 1) :=
  fn_ok F sc_law fun cdv A outer s H E hr =>
    have tk := takes_of (X := cxOf (L2.CX PySem.Challenge.pw_waterbyturns_k09_days w) PySem.Challenge.pw_waterbyturns_k09_days w K mg base ["_law_script", "_law_state", "_law_many", "_law_one", "_law_two", "_law_dry", "_law_rain", "_law_a", "_law_b"] "law" (defScope s_law) f cdv A outer s H E) rfl rfl rfl rfl
    have ps := passes_of (X := cxOf (L2.CX PySem.Challenge.pw_waterbyturns_k09_days w) PySem.Challenge.pw_waterbyturns_k09_days w K mg base ["_law_script", "_law_state", "_law_many", "_law_one", "_law_two", "_law_dry", "_law_rain", "_law_a", "_law_b"] "law" (defScope s_law) f cdv A outer s H E) rfl
    (dss_law 1 (ds_set (i := 1) [] sc_law.nd rfl (.inl rfl) (dm_call d__law_start (hr.mono (by decide)) tk (da_cons (dv_var (i := 0) rfl (.inl rfl)) da_nil)))
    (dss_cons (ds_set (i := 2) [] sc_law.nd rfl (.inl rfl) (dm_v (dv_add hK dv_int (dv_m (dm_call d__law_draw (hr.mono (by decide)) tk (da_cons (dv_var (i := 0) rfl (.inl rfl)) (da_cons (dv_var (i := 1) rfl (.inl rfl)) (da_cons dv_int da_nil))))))))
    (dss_cons (ds_set (i := 3) [] sc_law.nd rfl (.inl rfl) (dm_v (dv_m (dm_call d__law_parts (hr.mono (by decide)) tk (da_cons (dv_var (i := 0) rfl (.inl rfl)) (da_cons (dv_var (i := 1) rfl (.inl rfl)) (da_cons (dv_var (i := 2) rfl (.inl rfl)) da_nil)))))))
    (dss_cons (ds_set (i := 4) [] sc_law.nd rfl (.inl rfl) (dm_v (dv_m (dm_call d__law_other (hr.mono (by decide)) tk (da_cons (dv_var (i := 0) rfl (.inl rfl)) (da_cons (dv_var (i := 1) rfl (.inl rfl)) (da_cons (dv_var (i := 3) rfl (.inl rfl)) (da_cons (dv_var (i := 2) rfl (.inl rfl)) da_nil))))))))
    (dss_cons (ds_set (i := 5) [] sc_law.nd rfl (.inl rfl) (dm_tolst hK n_list (da_cons (dv_ix hK (dv_var (i := 3) rfl (.inl rfl)) dv_int (fun _ _ => rfl)) da_nil)))
    (dss_cons (ds_set (i := 6) [] sc_law.nd rfl (.inl rfl) (dm_tolst hK n_list (da_cons (dv_ix hK (dv_var (i := 3) rfl (.inl rfl)) dv_int (fun _ _ => rfl)) da_nil)))
    (dss_cons (ds_set (i := 7) [5, 6] sc_law.nd rfl (.inl rfl) (dm_v (dv_m (dm_make j_Day (hr.mono (by decide)) tk (da_cons (dv_var (i := 5) rfl (.inl rfl)) (da_cons (dv_var (i := 6) rfl (.inl rfl)) (da_cons (dv_ix hK (dv_var (i := 3) rfl (.inl rfl)) dv_int (fun _ _ => rfl)) (da_cons (dv_ix hK (dv_var (i := 3) rfl (.inl rfl)) dv_int (fun _ _ => rfl)) da_nil))))))))
    (dss_cons (ds_set (i := 8) [] sc_law.nd rfl (.inl rfl) (dm_v (dv_m (dm_make j_Day (hr.mono (by decide)) tk (da_cons (dv_totup hK n_tuple (da_cons (dv_ix hK (dv_var (i := 4) rfl (.inl rfl)) dv_int (fun _ _ => rfl)) da_nil)) (da_cons (dv_totup hK n_tuple (da_cons (dv_ix hK (dv_var (i := 4) rfl (.inl rfl)) dv_int (fun _ _ => rfl)) da_nil)) (da_cons (dv_ix hK (dv_var (i := 4) rfl (.inl rfl)) dv_int (fun _ _ => rfl)) (da_cons (dv_ix hK (dv_var (i := 4) rfl (.inl rfl)) dv_int (fun _ _ => rfl)) da_nil))))))))
    (dss_cons (ds_if [5, 6] (dt_w (dw_or (dt_neW (T := [(2, f_Day_eq)]) hK (all_cons (ownD_mono (j := 1) w_Day_eq (by decide)) all_nil) (all_cons v_Day all_nil) (hr.mono (by decide)) (dv_var (i := 5) rfl (.inl rfl)) (dv_ix hK (dv_var (i := 3) rfl (.inl rfl)) dv_int (fun _ _ => rfl))) (dw_or1 (dt_neW (T := [(2, f_Day_eq)]) hK (all_cons (ownD_mono (j := 1) w_Day_eq (by decide)) all_nil) (all_cons v_Day all_nil) (hr.mono (by decide)) (dv_var (i := 6) rfl (.inl rfl)) (dv_ix hK (dv_var (i := 3) rfl (.inl rfl)) dv_int (fun _ _ => rfl)))))) (dss_one (ds_ret [] (dm_v dv_bl))) dss_nil)
    (dss_cons (ds_setP (i := 5) [] (dm_v dv_int) (dpt_nil (i := 5) rfl (.inl rfl)) dq_int)
    (dss_cons (ds_setP (i := 6) [] (dm_v dv_int) (dpt_nil (i := 6) rfl (.inl rfl)) (dq_neg dq_int))
    (dss_cons (ds_if [] (dt_ne hK hr (dv_m (dm_tup (dl_cons (dm_v (dv_attr (cs := [2]) (xs := []) hK (dv_var (i := 7) rfl (.inl rfl)) o_dry all_nil)) (dl_cons (dm_v (dv_attr (cs := [2]) (xs := []) hK (dv_var (i := 7) rfl (.inl rfl)) o_rain all_nil)) (dl_cons (dm_v (dv_attr (cs := [2]) (xs := []) hK (dv_var (i := 7) rfl (.inl rfl)) o_fill all_nil)) (dl_cons (dm_v (dv_attr (cs := [2]) (xs := []) hK (dv_var (i := 7) rfl (.inl rfl)) o_mood all_nil)) dl_nil)))))) (dv_m (dm_tup (dl_cons (dm_v (dv_totup hK n_tuple (da_cons (dv_ix hK (dv_var (i := 3) rfl (.inl rfl)) dv_int (fun _ _ => rfl)) da_nil))) (dl_cons (dm_v (dv_totup hK n_tuple (da_cons (dv_ix hK (dv_var (i := 3) rfl (.inl rfl)) dv_int (fun _ _ => rfl)) da_nil))) (dl_cons (dm_v (dv_ix hK (dv_var (i := 3) rfl (.inl rfl)) dv_int (fun _ _ => rfl))) (dl_cons (dm_v (dv_ix hK (dv_var (i := 3) rfl (.inl rfl)) dv_int (fun _ _ => rfl))) dl_nil))))))) (dss_one (ds_ret [] (dm_v dv_bl))) dss_nil)
    (dss_cons (ds_if [] (dt_w (dw_or (dt_ne hK hr (dv_eqW (T := [(2, f_Day_eq)]) hK (all_cons (ownD_mono (j := 1) w_Day_eq (by decide)) all_nil) (hr.mono (by decide)) (dv_var (i := 7) rfl (.inl rfl)) (dv_var (i := 8) rfl (.inl rfl))) (dv_eqW (T := [(2, f_Day_eq)]) hK (all_cons (ownD_mono (j := 1) w_Day_eq (by decide)) all_nil) (hr.mono (by decide)) (dv_var (i := 3) rfl (.inl rfl)) (dv_var (i := 4) rfl (.inl rfl)))) (dw_or1 (dt_ne hK hr (dv_neW (T := [(2, f_Day_eq)]) hK (all_cons (ownD_mono (j := 1) w_Day_eq (by decide)) all_nil) (all_cons v_Day all_nil) (hr.mono (by decide)) (dv_var (i := 7) rfl (.inl rfl)) (dv_var (i := 8) rfl (.inl rfl))) (dv_neW (T := [(2, f_Day_eq)]) hK (all_cons (ownD_mono (j := 1) w_Day_eq (by decide)) all_nil) (all_cons v_Day all_nil) (hr.mono (by decide)) (dv_var (i := 3) rfl (.inl rfl)) (dv_var (i := 4) rfl (.inl rfl))))))) (dss_one (ds_ret [] (dm_v dv_bl))) dss_nil)
    (dss_cons (ds_if [] (dt_w (dw_or (dt_ne hK hr (dv_leW (T := [(2, f_Day_le)]) (all_cons (ownD_mono (j := 2) w_Day_le (by decide)) all_nil) (hr.mono (by decide)) (dv_var (i := 7) rfl (.inl rfl)) (dv_var (i := 8) rfl (.inl rfl))) (dv_m (dm_call d__law_harsher (hr.mono (by decide)) tk (da_cons (dv_var (i := 3) rfl (.inl rfl)) (da_cons (dv_var (i := 4) rfl (.inl rfl)) da_nil))))) (dw_or1 (dt_ne hK hr (dv_leW (T := [(2, f_Day_le)]) (all_cons (ownD_mono (j := 2) w_Day_le (by decide)) all_nil) (hr.mono (by decide)) (dv_var (i := 8) rfl (.inl rfl)) (dv_var (i := 7) rfl (.inl rfl))) (dv_m (dm_call d__law_harsher (hr.mono (by decide)) tk (da_cons (dv_var (i := 4) rfl (.inl rfl)) (da_cons (dv_var (i := 3) rfl (.inl rfl)) da_nil)))))))) (dss_one (ds_ret [] (dm_v dv_bl))) dss_nil)
    (dss_cons (ds_if [] (dt_not (dt_val (dv_m (dm_call d__law_sums_hold (hr.mono (by decide)) tk (da_cons (dv_var (i := 0) rfl (.inl rfl)) (da_cons (dv_var (i := 1) rfl (.inl rfl)) (da_cons (dv_var (i := 7) rfl (.inl rfl)) (da_cons (dv_var (i := 3) rfl (.inl rfl)) da_nil)))))))) (dss_one (ds_ret [] (dm_v dv_bl))) dss_nil)
    (dss_one (ds_ret [] (dm_call d__law_refusals_hold (hr.mono (by decide)) tk (da_cons (dv_var (i := 0) rfl (.inl rfl)) (da_cons (dv_var (i := 1) rfl (.inl rfl)) (da_cons (dv_var (i := 3) rfl (.inl rfl)) (da_cons (dv_var (i := 2) rfl (.inl rfl)) da_nil))))))))))))))))))))))
end
/-! ### the top -/
def GT (l : List Addr) : Nat → Addr := fun i => l.getD i 0
set_option maxHeartbeats 8000000 in
theorem all_mk {w : World} {K : PySem.W.Frag} {h : Heap} {mg : Str → Option Value} {fa C0 C1 C2 f0 f1 f2 f3 f4 f5 f6 f7 f8 f9 f10 f11 f12 f13 f14 f15 f16 f17 i1 : Addr}
    {oc0 oc1 oc2 oc3 oc4 oc5 oc6 oc7 oc8 oc9 oc10 oc11 oc12 oc13 oc14 oc15 oc16 oc17 kV0 kV1 kV2 kV3 kV4 kV5 kV6 kV7 kV8 kV9 kV10 kV11 kV12 kV13 kV14 kV15 kV16 kV17 dc0 dc1 dc2 dc3 dc4 dc5 dc6 dc7 dc8 dc9 dc10 dc11 dc12 dc13 dc14 dc15 dc16 dc17 pm0 pm1 pm2 pm3 pm4 pm5 pm6 pm7 pm8 pm9 pm10 pm11 pm12 pm13 pm14 pm15 pm16 pm17 cd0 cd1 cd2 cd3 cd4 cd5 cd6 cd7 cd8 cd9 cd10 cd11 cd12 cd13 cd14 cd15 cd16 cd17 ct0 ct1 ct2 ct3 ct4 ct5 ct6 ct7 ct8 ct9 ct10 ct11 ct12 ct13 ct14 ct15 ct16 ct17 : Value} {od0 od1 od2 od3 od4 od5 od6 od7 od8 od9 od10 od11 od12 od13 od14 od15 od16 od17 an0 an1 an2 an3 an4 an5 an6 an7 an8 an9 an10 an11 an12 an13 an14 an15 an16 an17 : Option Addr} {sl0 sl1 sl2 sl3 sl4 sl5 sl6 sl7 sl8 sl9 sl10 sl11 sl12 sl13 sl14 sl15 sl16 sl17 : Array (Option Value)} {k_MOST_UNITS : Tok}
    {rc11 fo11 rw11 : Option Value}
    {nm1 q1 fil1 : Str} {bs1 bm1 sub1 : List Value} {sn1 : List Str} {ab1 : Bool} {col1 : Option Bool} {N1 cc1 cda1 : Addr} {dd1 odi1 ani1 cdd1 ced1 : Option Addr} {u1 v1 w1 x1 z1 : Option Value}
    {oci1 kVi1 dci1 pmi1 cti1 ccl1 cel1 : Value} {osi1 ccs1 ces1 : Array (Option Value)} {vsi1 : Array Value} {tfi1 : Tok}
    {nm2 q2 : Str} {bs2 sub2 : List Value} {sn2 : List Str} {ab2 hh2 : Bool} {col2 : Option Bool} {N2 : Addr} {dd2 : Option Addr} {u2 v2 w2 x2 z2 : Option Value} {nid2 : String} (X : K.In h) (G : h.Ns mainGlobals mg) (hfa : mg "law" = some (.ref fa))
    (qMOST_UNITS : PySem.W.nsIn K mainGlobals "MOST_UNITS" = some (some (.int 8 k_MOST_UNITS)))
    (zabs : PySem.W.nsIn K mainGlobals "abs" = some none)
    (zbool : PySem.W.nsIn K mainGlobals "bool" = some none)
    (zenumerate : PySem.W.nsIn K mainGlobals "enumerate" = some none)
    (zint : PySem.W.nsIn K mainGlobals "int" = some none)
    (zisinstance : PySem.W.nsIn K mainGlobals "isinstance" = some none)
    (zlen : PySem.W.nsIn K mainGlobals "len" = some none)
    (zlist : PySem.W.nsIn K mainGlobals "list" = some none)
    (zmin : PySem.W.nsIn K mainGlobals "min" = some none)
    (zrange : PySem.W.nsIn K mainGlobals "range" = some none)
    (ztuple : PySem.W.nsIn K mainGlobals "tuple" = some none)
    (a_WaterError : PySem.W.nsIn K mainGlobals "WaterError" = some (some (.ref C0)))
    (a_BadNumber : PySem.W.nsIn K mainGlobals "BadNumber" = some (some (.ref C1)))
    (a_Day : PySem.W.nsIn K mainGlobals "Day" = some (some (.ref C2)))
    (op : PySem.W.nsIn K cStatics "thirdparty.any" = some none)
    (ms : PySem.W.nsIn K mainGlobals "super" = some none)
    (gn : PySem.W.specialIn K (.builtin "object.__class__") "__get__" = some (some (.builtin "getset_descriptor.__get__")))
    (gt : PySem.W.takesIn K (.builtin "object.__class__") = some true)
    (b_WaterError : PySem.W.subIn K (.ref C0) (.type "BaseException") = some true)
    (y_WaterError : PySem.W.typeIn K (.ref C0) = some (.type "type"))
    (ic_WaterError : PySem.W.isClsIn K C0 = true)
    (b_BadNumber : PySem.W.subIn K (.ref C1) (.type "BaseException") = some true)
    (y_BadNumber : PySem.W.typeIn K (.ref C1) = some (.type "type"))
    (ic_BadNumber : PySem.W.isClsIn K C1 = true)
    (s_BadNumber_WaterError : PySem.W.subIn K (.ref C1) (.ref C0) = some true)
    (s_BadNumber_BadNumber : PySem.W.subIn K (.ref C1) (.ref C1) = some true)
    (s_WaterError_WaterError : PySem.W.subIn K (.ref C0) (.ref C0) = some true)
    (xl_BadNumber : K.lookup C1 = some (excClassObj nm1 q1 C1 N1 bs1 bm1 true sn1 sub1 ab1 col1 dd1 u1 v1 w1 x1 z1 "ValueError.__new__"))
    (sa_BadNumber : PySem.W.findIn K (.ref C1) "__setattr__" = some (some (.builtin "object.__setattr__")))
    (ga_BadNumber : PySem.W.findIn K (.ref C1) "__getattribute__" = some (some (.builtin "BaseException.__getattribute__")))
    (gg_BadNumber : PySem.W.findIn K (.ref C1) "__getattr__" = some none)
    (hd_BadNumber : PySem.W.hasDictIn K C1 = true)
    (cl_BadNumber : PySem.W.findIn K (.ref C1) "__class__" = some (some (.builtin "object.__class__")))
    (mo_BadNumber : PySem.W.mroIn K C1 (.type "object") = some true)
    (me_BadNumber : PySem.W.mroIn K C1 (.ref C1) = some true)
    (no_BadNumber_what : PySem.W.findIn K (.ref C1) "what" = some none)
    (no_BadNumber_value : PySem.W.findIn K (.ref C1) "value" = some none)
    (ii_BadNumber : PySem.W.findIn K (.ref C1) "__init__" = some (some (.ref i1)))
    (it_BadNumber : PySem.W.typeIn K (.ref i1) = some (.type "function"))
    (kc_BadNumber : PySem.W.keepIn K (.ref C1) = true)
    (ve_BadNumber : PySem.W.subIn K (.ref C1) (.type "ValueError") = some true)
    (su_BadNumber : PySem.W.ks_superIn K C1 C1 "__init__" = some (some (.builtin "ValueError.__init__")))
    (fl_BadNumber : K.lookup i1 = some ⟨oci1, odi1, .func (PySem.W.fnX "__init__" "BadNumber.__init__" (defArgs s_BadNumber_init) (defBody s_BadNumber_init) (defScope s_BadNumber_init) [("__class__", cc1)] .none kVi1 dci1 pmi1 ani1 (.ref cda1) cti1), osi1⟩)
    (fc_BadNumber : PySem.W.codeIn K (.ref cda1) "BadNumber.__init__" = true)
    (fd_BadNumber : K.lookup cda1 = some ⟨ccl1, cdd1, .fields vsi1, ccs1⟩)
    (fv_BadNumber : vsi1[2]? = some (.str fil1 tfi1))
    (ff_BadNumber : ((PySem.Challenge.pw_waterbyturns_k09_days.main.file : Str) == fil1) = true)
    (fe_BadNumber : K.lookup cc1 = some ⟨cel1, ced1, .cell (some (.ref C1)), ces1⟩)
    (pg_Day : PySem.W.plainGet K C2 Str.empty = true)
    (hd_Day : PySem.W.hasDictIn K C2 = true)
    (po_Day : PySem.W.plainOver K C2 = true)
    (sa_Day : PySem.W.findIn K (.ref C2) "__setattr__" = some (some (.builtin "object.__setattr__")))
    (cl_Day : PySem.W.findIn K (.ref C2) "__class__" = some (some (.builtin "object.__class__")))
    (mo_Day : PySem.W.mroIn K C2 (.type "object") = some true)
    (ic_Day : PySem.W.isClsIn K C2 = true)
    (y_Day : PySem.W.typeIn K (.ref C2) = some (.type "type"))
    (mk_Day : PySem.W.makesIn K C2 = true)
    (kc_Day : PySem.W.keepIn K (.ref C2) = true)
    (no_Day_dry : PySem.W.findIn K (.ref C2) "dry" = some none)
    (no_Day_rain : PySem.W.findIn K (.ref C2) "rain" = some none)
    (no_Day_fill : PySem.W.findIn K (.ref C2) "fill" = some none)
    (no_Day_mood : PySem.W.findIn K (.ref C2) "mood" = some none)
    (ne_Day : PySem.W.findIn K (.ref C2) "__ne__" = some (some (.builtin "object.__ne__")))
    (xl_Day : K.lookup C2 = some (excClassObj nm2 q2 C2 N2 bs2 [.type "object"] hh2 sn2 sub2 ab2 col2 dd2 u2 v2 w2 x2 z2 nid2))
    (s_Day_Day : PySem.W.subIn K (.ref C2) (.ref C2) = some true)
    (s_BadNumber_Day : PySem.W.subIn K (.ref C1) (.ref C2) = some false)
    (a0 : PySem.W.nsIn K mainGlobals "_law_start" = some (some (.ref f0)))
    (l0 : K.lookup f0 = some ⟨oc0, od0, .func (PySem.W.fnOf "_law_start" "_law_start" (defArgs s_law_start) (defBody s_law_start) (defScope s_law_start) .none kV0 dc0 pm0 an0 cd0 ct0), sl0⟩)
    (c0 : PySem.W.codeIn K cd0 "_law_start" = true)
    (k0 : PySem.W.keepIn K (.ref f0) = true)
    (a1 : PySem.W.nsIn K mainGlobals "_law_draw" = some (some (.ref f1)))
    (l1 : K.lookup f1 = some ⟨oc1, od1, .func (PySem.W.fnOf "_law_draw" "_law_draw" (defArgs s_law_draw) (defBody s_law_draw) (defScope s_law_draw) .none kV1 dc1 pm1 an1 cd1 ct1), sl1⟩)
    (c1 : PySem.W.codeIn K cd1 "_law_draw" = true)
    (k1 : PySem.W.keepIn K (.ref f1) = true)
    (a2 : PySem.W.nsIn K mainGlobals "_law_parts" = some (some (.ref f2)))
    (l2 : K.lookup f2 = some ⟨oc2, od2, .func (PySem.W.fnOf "_law_parts" "_law_parts" (defArgs s_law_parts) (defBody s_law_parts) (defScope s_law_parts) .none kV2 dc2 pm2 an2 cd2 ct2), sl2⟩)
    (c2 : PySem.W.codeIn K cd2 "_law_parts" = true)
    (k2 : PySem.W.keepIn K (.ref f2) = true)
    (a3 : PySem.W.nsIn K mainGlobals "_law_near" = some (some (.ref f3)))
    (l3 : K.lookup f3 = some ⟨oc3, od3, .func (PySem.W.fnOf "_law_near" "_law_near" (defArgs s_law_near) (defBody s_law_near) (defScope s_law_near) .none kV3 dc3 pm3 an3 cd3 ct3), sl3⟩)
    (c3 : PySem.W.codeIn K cd3 "_law_near" = true)
    (k3 : PySem.W.keepIn K (.ref f3) = true)
    (a4 : PySem.W.nsIn K mainGlobals "_law_other" = some (some (.ref f4)))
    (l4 : K.lookup f4 = some ⟨oc4, od4, .func (PySem.W.fnOf "_law_other" "_law_other" (defArgs s_law_other) (defBody s_law_other) (defScope s_law_other) .none kV4 dc4 pm4 an4 cd4 ct4), sl4⟩)
    (c4 : PySem.W.codeIn K cd4 "_law_other" = true)
    (k4 : PySem.W.keepIn K (.ref f4) = true)
    (a5 : PySem.W.nsIn K mainGlobals "is_integer" = some (some (.ref f5)))
    (l5 : K.lookup f5 = some ⟨oc5, od5, .func (PySem.W.fnOf "is_integer" "is_integer" (defArgs s_is_integer) (defBody s_is_integer) (defScope s_is_integer) .none kV5 dc5 pm5 an5 cd5 ct5), sl5⟩)
    (c5 : PySem.W.codeIn K cd5 "is_integer" = true)
    (k5 : PySem.W.keepIn K (.ref f5) = true)
    (a6 : PySem.W.nsIn K mainGlobals "check_number" = some (some (.ref f6)))
    (l6 : K.lookup f6 = some ⟨oc6, od6, .func (PySem.W.fnOf "check_number" "check_number" (defArgs s_check_number) (defBody s_check_number) (defScope s_check_number) .none kV6 dc6 pm6 an6 cd6 ct6), sl6⟩)
    (c6 : PySem.W.codeIn K cd6 "check_number" = true)
    (k6 : PySem.W.keepIn K (.ref f6) = true)
    (a7 : PySem.W.findIn K (.ref C2) "__init__" = some (some (.ref f7)))
    (isf7 : PySem.W.isFn K (.ref f7) = true)
    (l7 : K.lookup f7 = some ⟨oc7, od7, .func (PySem.W.fnOf "__init__" "Day.__init__" (defArgs s_Day_init) (defBody s_Day_init) (defScope s_Day_init) .none kV7 dc7 pm7 an7 cd7 ct7), sl7⟩)
    (c7 : PySem.W.codeIn K cd7 "Day.__init__" = true)
    (k7 : PySem.W.keepIn K (.ref f7) = true)
    (a8 : PySem.W.nsIn K mainGlobals "_law_refusal" = some (some (.ref f8)))
    (l8 : K.lookup f8 = some ⟨oc8, od8, .func (PySem.W.fnOf "_law_refusal" "_law_refusal" (defArgs s_law_refusal) (defBody s_law_refusal) (defScope s_law_refusal) .none kV8 dc8 pm8 an8 cd8 ct8), sl8⟩)
    (c8 : PySem.W.codeIn K cd8 "_law_refusal" = true)
    (k8 : PySem.W.keepIn K (.ref f8) = true)
    (a9 : PySem.W.nsIn K mainGlobals "_law_refusals_hold" = some (some (.ref f9)))
    (l9 : K.lookup f9 = some ⟨oc9, od9, .func (PySem.W.fnOf "_law_refusals_hold" "_law_refusals_hold" (defArgs s_law_refusals_hold) (defBody s_law_refusals_hold) (defScope s_law_refusals_hold) .none kV9 dc9 pm9 an9 cd9 ct9), sl9⟩)
    (c9 : PySem.W.codeIn K cd9 "_law_refusals_hold" = true)
    (k9 : PySem.W.keepIn K (.ref f9) = true)
    (a10 : PySem.W.findIn K (.ref C2) "__eq__" = some (some (.ref f10)))
    (isf10 : PySem.W.isFn K (.ref f10) = true)
    (l10 : K.lookup f10 = some ⟨oc10, od10, .func (PySem.W.fnOf "__eq__" "Day.__eq__" (defArgs s_Day_eq) (defBody s_Day_eq) (defScope s_Day_eq) .none kV10 dc10 pm10 an10 cd10 ct10), sl10⟩)
    (c10 : PySem.W.codeIn K cd10 "Day.__eq__" = true)
    (k10 : PySem.W.keepIn K (.ref f10) = true)
    (a11 : PySem.W.findIn K (.ref C2) "__add__" = some (some (.ref f11)))
    (isf11 : PySem.W.isFn K (.ref f11) = true)
    (sf11 : PySem.W.selfFirst K C2 = true)
    (ri11 : PySem.W.findIn K (.ref C2) "__radd__" = some rc11)
    (ro11 : rc11 = none ∨ ∃ g : Addr, rc11 = some (.ref g))
    (fi11 : PySem.W.findIn K (.type "int") "__add__" = some fo11)
    (fr11 : PySem.W.findIn K (.type "int") "__radd__" = some rw11)
    (si11 : PySem.W.subIn K (.type "int") (.ref C2) = some false)
    (l11 : K.lookup f11 = some ⟨oc11, od11, .func (PySem.W.fnOf "__add__" "Day.__add__" (defArgs s_Day_add) (defBody s_Day_add) (defScope s_Day_add) .none kV11 dc11 pm11 an11 cd11 ct11), sl11⟩)
    (c11 : PySem.W.codeIn K cd11 "Day.__add__" = true)
    (k11 : PySem.W.keepIn K (.ref f11) = true)
    (a12 : PySem.W.nsIn K mainGlobals "_law_sum" = some (some (.ref f12)))
    (l12 : K.lookup f12 = some ⟨oc12, od12, .func (PySem.W.fnOf "_law_sum" "_law_sum" (defArgs s_law_sum) (defBody s_law_sum) (defScope s_law_sum) .none kV12 dc12 pm12 an12 cd12 ct12), sl12⟩)
    (c12 : PySem.W.codeIn K cd12 "_law_sum" = true)
    (k12 : PySem.W.keepIn K (.ref f12) = true)
    (a13 : PySem.W.nsIn K mainGlobals "_law_sums_hold" = some (some (.ref f13)))
    (l13 : K.lookup f13 = some ⟨oc13, od13, .func (PySem.W.fnOf "_law_sums_hold" "_law_sums_hold" (defArgs s_law_sums_hold) (defBody s_law_sums_hold) (defScope s_law_sums_hold) .none kV13 dc13 pm13 an13 cd13 ct13), sl13⟩)
    (c13 : PySem.W.codeIn K cd13 "_law_sums_hold" = true)
    (k13 : PySem.W.keepIn K (.ref f13) = true)
    (a14 : PySem.W.nsIn K mainGlobals "at_least" = some (some (.ref f14)))
    (l14 : K.lookup f14 = some ⟨oc14, od14, .func (PySem.W.fnOf "at_least" "at_least" (defArgs s_at_least) (defBody s_at_least) (defScope s_at_least) .none kV14 dc14 pm14 an14 cd14 ct14), sl14⟩)
    (c14 : PySem.W.codeIn K cd14 "at_least" = true)
    (k14 : PySem.W.keepIn K (.ref f14) = true)
    (a15 : PySem.W.findIn K (.ref C2) "__le__" = some (some (.ref f15)))
    (isf15 : PySem.W.isFn K (.ref f15) = true)
    (l15 : K.lookup f15 = some ⟨oc15, od15, .func (PySem.W.fnOf "__le__" "Day.__le__" (defArgs s_Day_le) (defBody s_Day_le) (defScope s_Day_le) .none kV15 dc15 pm15 an15 cd15 ct15), sl15⟩)
    (c15 : PySem.W.codeIn K cd15 "Day.__le__" = true)
    (k15 : PySem.W.keepIn K (.ref f15) = true)
    (a16 : PySem.W.nsIn K mainGlobals "_law_harsher" = some (some (.ref f16)))
    (l16 : K.lookup f16 = some ⟨oc16, od16, .func (PySem.W.fnOf "_law_harsher" "_law_harsher" (defArgs s_law_harsher) (defBody s_law_harsher) (defScope s_law_harsher) .none kV16 dc16 pm16 an16 cd16 ct16), sl16⟩)
    (c16 : PySem.W.codeIn K cd16 "_law_harsher" = true)
    (k16 : PySem.W.keepIn K (.ref f16) = true)
    (a17 : PySem.W.nsIn K mainGlobals "law" = some (some (.ref f17)))
    (l17 : K.lookup f17 = some ⟨oc17, od17, .func (PySem.W.fnOf "law" "law" (defArgs s_law) (defBody s_law) (defScope s_law) .none kV17 dc17 pm17 an17 cd17 ct17), sl17⟩)
    (c17 : PySem.W.codeIn K cd17 "law" = true)
    (k17 : PySem.W.keepIn K (.ref f17) = true)
    (bmok_BadNumber : PySem.HandSPX.refsVE bm1 = true)
    (main : ∀ ns : List Int, ns.length ≤ 63 → f_law [.scr ns] [] = .ok (.val (.bl true)) []) :
    ∃ fd : FuncData, (∀ (s : Shared) (v : Value), BindsTo s fd ⟨[v], []⟩ [("_law_script", v)]) ∧ ∀ base : Heap, K.In base → base.Ns mainGlobals mg → FnOk PySem.Challenge.pw_waterbyturns_k09_days w K mg base (L2.CX PySem.Challenge.pw_waterbyturns_k09_days w) 8 fa fd ["_law_script"] (spLaw K) := by
  have e := hfa.symm.trans (PySem.W.mg_of X G a17)
  cases e
  have F0 := fun_mk (st := s_law_start) l0 c0 k0
  have b0 := F0.binds (ps := ["_law_script"]) fun _ _ _ _ _ _ us hl => match us, hl with | [_], _ => rfl
  have F1 := fun_mk (st := s_law_draw) l1 c1 k1
  have b1 := F1.binds (ps := ["_law_script", "_law_state", "_law_limit"]) fun _ _ _ _ _ _ us hl => match us, hl with | [_, _, _], _ => rfl
  have F2 := fun_mk (st := s_law_parts) l2 c2 k2
  have b2 := F2.binds (ps := ["_law_script", "_law_state", "_law_many"]) fun _ _ _ _ _ _ us hl => match us, hl with | [_, _, _], _ => rfl
  have F3 := fun_mk (st := s_law_near) l3 c3 k3
  have b3 := F3.binds (ps := ["_law_value", "_law_shift"]) fun _ _ _ _ _ _ us hl => match us, hl with | [_, _], _ => rfl
  have F4 := fun_mk (st := s_law_other) l4 c4 k4
  have b4 := F4.binds (ps := ["_law_script", "_law_state", "_law_one", "_law_many"]) fun _ _ _ _ _ _ us hl => match us, hl with | [_, _, _, _], _ => rfl
  have F5 := fun_mk (st := s_is_integer) l5 c5 k5
  have b5 := F5.binds (ps := ["value"]) fun _ _ _ _ _ _ us hl => match us, hl with | [_], _ => rfl
  have F6 := fun_mk (st := s_check_number) l6 c6 k6
  have b6 := F6.binds (ps := ["what", "value", "low", "high"]) fun _ _ _ _ _ _ us hl => match us, hl with | [_, _, _, _], _ => rfl
  have F7 := fun_mk (st := s_Day_init) l7 c7 k7
  have b7 := F7.binds (ps := ["self", "dry", "rain", "fill", "mood"]) fun _ _ _ _ _ _ us hl => match us, hl with | [_, _, _, _, _], _ => rfl
  have F8 := fun_mk (st := s_law_refusal) l8 c8 k8
  have b8 := F8.binds (ps := ["_law_dry", "_law_rain", "_law_fill", "_law_mood"]) fun _ _ _ _ _ _ us hl => match us, hl with | [_, _, _, _], _ => rfl
  have F9 := fun_mk (st := s_law_refusals_hold) l9 c9 k9
  have b9 := F9.binds (ps := ["_law_script", "_law_state", "_law_one", "_law_many"]) fun _ _ _ _ _ _ us hl => match us, hl with | [_, _, _, _], _ => rfl
  have F10 := fun_mk (st := s_Day_eq) l10 c10 k10
  have b10 := F10.binds (ps := ["self", "other"]) fun _ _ _ _ _ _ us hl => match us, hl with | [_, _], _ => rfl
  have F11 := fun_mk (st := s_Day_add) l11 c11 k11
  have b11 := F11.binds (ps := ["self", "units"]) fun _ _ _ _ _ _ us hl => match us, hl with | [_, _], _ => rfl
  have F12 := fun_mk (st := s_law_sum) l12 c12 k12
  have b12 := F12.binds (ps := ["_law_day", "_law_units"]) fun _ _ _ _ _ _ us hl => match us, hl with | [_, _], _ => rfl
  have F13 := fun_mk (st := s_law_sums_hold) l13 c13 k13
  have b13 := F13.binds (ps := ["_law_script", "_law_state", "_law_a", "_law_one"]) fun _ _ _ _ _ _ us hl => match us, hl with | [_, _, _, _], _ => rfl
  have F14 := fun_mk (st := s_at_least) l14 c14 k14
  have b14 := F14.binds (ps := ["more", "less"]) fun _ _ _ _ _ _ us hl => match us, hl with | [_, _], _ => rfl
  have F15 := fun_mk (st := s_Day_le) l15 c15 k15
  have b15 := F15.binds (ps := ["self", "other"]) fun _ _ _ _ _ _ us hl => match us, hl with | [_, _], _ => rfl
  have F16 := fun_mk (st := s_law_harsher) l16 c16 k16
  have b16 := F16.binds (ps := ["_law_one", "_law_two"]) fun _ _ _ _ _ _ us hl => match us, hl with | [_, _], _ => rfl
  have F17 := fun_mk (st := s_law) l17 c17 k17
  have b17 := F17.binds (ps := ["_law_script"]) fun _ _ _ _ _ _ us hl => match us, hl with | [_], _ => rfl
  refine ⟨PySem.W.fnOf "law" "law" (defArgs s_law) (defBody s_law) (defScope s_law) .none kV17 dc17 pm17 an17 cd17 ct17, fun s v => .of_eq rfl, fun base _ _ => ?_⟩
  let GG : Gx := ⟨K, GT [C0, C1, C2]⟩
  have e_BadNumber : DX.Txt PySem.Challenge.pw_waterbyturns_k09_days K mg (GG.T 1) i1 "BadNumber" "BadNumber.__init__" "bad number" ["what", "value"] s_BadNumber_init := {
    gC := PySem.W.mg_of X G a_BadNumber, cls := ⟨_, _, _, _, _, _, _, _, _, _, _, _, _, _, _, xl_BadNumber, bmok_BadNumber⟩, sa := sa_BadNumber, noN := (all_cons no_BadNumber_what (all_cons no_BadNumber_value all_nil)), iC := ii_BadNumber, tC := it_BadNumber, kC := kc_BadNumber, exC := b_BadNumber, veC := ve_BadNumber, meC := me_BadNumber, tyC := y_BadNumber,
    su := su_BadNumber, op := op, ms := PySem.W.mg_none_of X G ms, top := by decide +kernel, fn := ⟨_, _, _, _, _, _, _, _, _, _, fl_BadNumber, fc_BadNumber, ⟨_, _, _, _, _, _, fd_BadNumber, fv_BadNumber, ff_BadNumber⟩, ⟨_, _, _, fe_BadNumber⟩⟩,
    sc := ⟨rfl, rfl, rfl, by decide +kernel, by decide +kernel, by decide +kernel, by decide +kernel, by decide +kernel⟩, bnd := fun _ _ _ _ _ _ _ us hl => match us, hl with | [_, _, _], _ => rfl, nd := by decide +kernel, body := ⟨_, _, _, _, _, _, _, [(_, _, _, _), (_, _, _, _)], rfl, rfl, rfl⟩, hd := rfl }
  have se_BadNumber : IsE K (GG.T 1) := ⟨⟨cl_BadNumber, gn, gt, mo_BadNumber⟩, by have z := ic_BadNumber; exact z, ga_BadNumber, gg_BadNumber, b_BadNumber⟩
  have xf_BadNumber : XfC K (GG.T 1) := ⟨ga_BadNumber, gg_BadNumber, b_BadNumber, hd_BadNumber⟩
  have k_Day : Cls K (GG.T 2) := ⟨pg_Day, hd_Day, po_Day, sa_Day⟩
  have D0 : DefD PySem.Challenge.pw_waterbyturns_k09_days w K mg base GG "_law_start" 1 1 f_law_start := o_law_start rfl (PySem.W.mg_none_of X G zabs) (PySem.W.mg_none_of X G zint) (PySem.W.mg_none_of X G zlen) F0 b0 (PySem.W.mg_of X G a0)
  have D1 : DefD PySem.Challenge.pw_waterbyturns_k09_days w K mg base GG "_law_draw" 1 3 f_law_draw := o_law_draw rfl (PySem.W.mg_none_of X G zint) (PySem.W.mg_none_of X G zlen) F1 b1 (PySem.W.mg_of X G a1)
  have D2 : DefD PySem.Challenge.pw_waterbyturns_k09_days w K mg base GG "_law_parts" 2 3 f_law_parts := o_law_parts rfl D1 (PySem.W.mg_none_of X G zrange) F2 b2 (PySem.W.mg_of X G a2)
  have D3 : DefD PySem.Challenge.pw_waterbyturns_k09_days w K mg base GG "_law_near" 1 2 f_law_near := o_law_near rfl (PySem.W.mg_none_of X G zabs) F3 b3 (PySem.W.mg_of X G a3)
  have D4 : DefD PySem.Challenge.pw_waterbyturns_k09_days w K mg base GG "_law_other" 2 4 f_law_other := o_law_other rfl D1 D3 (PySem.W.mg_none_of X G zint) (PySem.W.mg_none_of X G zlist) (PySem.W.mg_none_of X G zrange) F4 b4 (PySem.W.mg_of X G a4)
  have D5 : DefD PySem.Challenge.pw_waterbyturns_k09_days w K mg base GG "is_integer" 1 1 f_is_integer := o_is_integer rfl (PySem.W.mg_none_of X G zbool) (PySem.W.mg_none_of X G zint) (PySem.W.mg_none_of X G zisinstance) F5 b5 (PySem.W.mg_of X G a5)
  have D6 : DefD PySem.Challenge.pw_waterbyturns_k09_days w K mg base GG "check_number" 2 4 f_check_number := o_check_number rfl D5 e_BadNumber F6 b6 (PySem.W.mg_of X G a6)
  have D7 : InitD PySem.Challenge.pw_waterbyturns_k09_days w K mg base GG "Day" 2 3 5 f_Day_init := o_Day_init rfl k_Day D6 (PySem.W.mg_of X G qMOST_UNITS) (PySem.W.mg_none_of X G zlen) (PySem.W.mg_none_of X G ztuple) (all_cons ⟨k_Day, no_Day_dry⟩ all_nil) (all_cons ⟨k_Day, no_Day_fill⟩ all_nil) (all_cons ⟨k_Day, no_Day_mood⟩ all_nil) (all_cons ⟨k_Day, no_Day_rain⟩ all_nil) F7 b7 (PySem.W.mg_of X G a_Day) ⟨mk_Day, a7, isf7, kc_Day⟩
  have D8 : DefD PySem.Challenge.pw_waterbyturns_k09_days w K mg base GG "_law_refusal" 5 4 f_law_refusal := o_law_refusal rfl (PySem.W.mg_of X G a_BadNumber) D7 (all_cons (exm_own b_BadNumber ic_BadNumber y_BadNumber s_BadNumber_BadNumber) all_nil) (all_cons ⟨xf_BadNumber, no_BadNumber_value⟩ all_nil) (all_cons ⟨xf_BadNumber, no_BadNumber_what⟩ all_nil) F8 b8 (PySem.W.mg_of X G a8)
  have D9 : DefD PySem.Challenge.pw_waterbyturns_k09_days w K mg base GG "_law_refusals_hold" 6 4 f_law_refusals_hold := o_law_refusals_hold rfl D1 D8 F9 b9 (PySem.W.mg_of X G a9)
  have D10 : OwnD PySem.Challenge.pw_waterbyturns_k09_days w K mg base GG "__eq__" 1 (2, f_Day_eq) := o_Day_eq rfl (PySem.W.mg_of X G a_Day) (PySem.W.mg_none_of X G zisinstance) (all_cons ⟨k_Day, no_Day_dry⟩ all_nil) (all_cons ⟨k_Day, no_Day_fill⟩ all_nil) (all_cons ⟨k_Day, no_Day_mood⟩ all_nil) (all_cons ⟨k_Day, no_Day_rain⟩ all_nil) (tabC_ok (all_cons ⟨kit_own ic_Day y_Day s_Day_Day s_Day_Day, k_Day, ⟨cl_Day, gn, gt, mo_Day⟩⟩ all_nil) (all_cons ⟨kit_own ic_Day y_Day s_Day_Day s_BadNumber_Day, se_BadNumber⟩ all_nil)) F10 b10 a10 isf10
  have D11 : BinD PySem.Challenge.pw_waterbyturns_k09_days w K mg base GG .Add 5 (2, f_Day_add) := o_Day_add rfl D6 (PySem.W.mg_of X G qMOST_UNITS) D7 (PySem.W.mg_none_of X G zint) (PySem.W.mg_none_of X G zmin) (all_cons ⟨k_Day, no_Day_dry⟩ all_nil) (all_cons ⟨k_Day, no_Day_fill⟩ all_nil) (all_cons ⟨k_Day, no_Day_mood⟩ all_nil) (all_cons ⟨k_Day, no_Day_rain⟩ all_nil) F11 b11 a11 isf11 sf11 ri11 ro11 fi11 fr11 si11
  have D12 : DefD PySem.Challenge.pw_waterbyturns_k09_days w K mg base GG "_law_sum" 6 2 f_law_sum := o_law_sum rfl (PySem.W.mg_of X G a_BadNumber) (all_cons (exm_own b_BadNumber ic_BadNumber y_BadNumber s_BadNumber_BadNumber) all_nil) D11 (all_cons ⟨xf_BadNumber, no_BadNumber_value⟩ all_nil) (all_cons ⟨xf_BadNumber, no_BadNumber_what⟩ all_nil) F12 b12 (PySem.W.mg_of X G a12)
  have D13 : DefD PySem.Challenge.pw_waterbyturns_k09_days w K mg base GG "_law_sums_hold" 7 4 f_law_sums_hold := o_law_sums_hold rfl D1 D12 D7 (PySem.W.mg_none_of X G zint) (PySem.W.mg_none_of X G zmin) (PySem.W.mg_none_of X G ztuple) (all_cons ⟨k_Day, no_Day_rain⟩ all_nil) ⟨ne_Day, _, _, _, _, _, _, _, _, _, _, _, _, _, _, _, _, xl_Day⟩ D10 F13 b13 (PySem.W.mg_of X G a13)
  have D14 : DefD PySem.Challenge.pw_waterbyturns_k09_days w K mg base GG "at_least" 1 2 f_at_least := o_at_least rfl (PySem.W.mg_none_of X G zenumerate) F14 b14 (PySem.W.mg_of X G a14)
  have D15 : OwnD PySem.Challenge.pw_waterbyturns_k09_days w K mg base GG "__le__" 2 (2, f_Day_le) := o_Day_le rfl D14 (PySem.W.mg_of X G a_Day) (PySem.W.mg_none_of X G zisinstance) (PySem.W.mg_none_of X G zlen) (all_cons ⟨k_Day, no_Day_dry⟩ all_nil) (all_cons ⟨k_Day, no_Day_fill⟩ all_nil) (all_cons ⟨k_Day, no_Day_mood⟩ all_nil) (all_cons ⟨k_Day, no_Day_rain⟩ all_nil) (tabC_ok (all_cons ⟨kit_own ic_Day y_Day s_Day_Day s_Day_Day, k_Day, ⟨cl_Day, gn, gt, mo_Day⟩⟩ all_nil) (all_cons ⟨kit_own ic_Day y_Day s_Day_Day s_BadNumber_Day, se_BadNumber⟩ all_nil)) F15 b15 a15 isf15
  have D16 : DefD PySem.Challenge.pw_waterbyturns_k09_days w K mg base GG "_law_harsher" 3 2 f_law_harsher := o_law_harsher rfl (PySem.W.mg_none_of X G zenumerate) (PySem.W.mg_none_of X G zlen) ⟨ne_Day, _, _, _, _, _, _, _, _, _, _, _, _, _, _, _, _, xl_Day⟩ D10 F16 b16 (PySem.W.mg_of X G a16)
  exact law_fn (G := GG) rfl (o_law (w := w) (K := K) (base := base) (G := GG) rfl D1 D16 D4 D2 D9 D0 D13 D7 (PySem.W.mg_none_of X G zlist) (PySem.W.mg_none_of X G ztuple) (all_cons ⟨k_Day, no_Day_dry⟩ all_nil) (all_cons ⟨k_Day, no_Day_fill⟩ all_nil) (all_cons ⟨k_Day, no_Day_mood⟩ all_nil) (all_cons ⟨k_Day, no_Day_rain⟩ all_nil) ⟨ne_Day, _, _, _, _, _, _, _, _, _, _, _, _, _, _, _, _, xl_Day⟩ D10 D15 F17) main
end K09

open PySem PySem.W PyProof.Rows
set_option maxHeartbeats 0 in
theorem PySem.Challenge.cw_waterbyturns_k09_days_holds : PySem.Challenge.rw_waterbyturns_k09_days.Holds := by
  w_on; o_law; k_head; (case hw => w_witness2)
  k_fill
  refine L2.walk_of (l := PySem.Challenge.rw_waterbyturns_k09_days) (n := 63) (k := 8) (x := "_law_script") (CX := fun w => L2.CX PySem.Challenge.pw_waterbyturns_k09_days w) (sp := fun w => DL.spLaw _) rfl (by decide) rfl ⟨rfl, by decide, by decide⟩ (fun w h Y => PySem.W.kIn_of Y) ?F (fun _ _ a ns hl _ hS => ⟨a, ns, rfl, hS, hl, fun _ => rfl⟩) (fun _ _ _ _ _ h => DL.cx_no h)
  case F =>
    intro w mg fa h KX G hmg
    refine' K09.all_mk KX G hmg ?qMOST_UNITS ?zabs ?zbool ?zenumerate ?zint ?zisinstance ?zlen ?zlist ?zmin ?zrange ?ztuple ?a_WaterError ?a_BadNumber ?a_Day ?op ?ms ?gn ?gt ?b_WaterError ?y_WaterError ?ic_WaterError ?b_BadNumber ?y_BadNumber ?ic_BadNumber ?s_BadNumber_WaterError ?s_BadNumber_BadNumber ?s_WaterError_WaterError ?xl_BadNumber ?sa_BadNumber ?ga_BadNumber ?gg_BadNumber ?hd_BadNumber ?cl_BadNumber ?mo_BadNumber ?me_BadNumber ?no_BadNumber_what ?no_BadNumber_value ?ii_BadNumber ?it_BadNumber ?kc_BadNumber ?ve_BadNumber ?su_BadNumber ?fl_BadNumber ?fc_BadNumber ?fd_BadNumber ?fv_BadNumber ?ff_BadNumber ?fe_BadNumber ?pg_Day ?hd_Day ?po_Day ?sa_Day ?cl_Day ?mo_Day ?ic_Day ?y_Day ?mk_Day ?kc_Day ?no_Day_dry ?no_Day_rain ?no_Day_fill ?no_Day_mood ?ne_Day ?xl_Day ?s_Day_Day ?s_BadNumber_Day ?a0 ?l0 ?c0 ?k0 ?a1 ?l1 ?c1 ?k1 ?a2 ?l2 ?c2 ?k2 ?a3 ?l3 ?c3 ?k3 ?a4 ?l4 ?c4 ?k4 ?a5 ?l5 ?c5 ?k5 ?a6 ?l6 ?c6 ?k6 ?a7 ?isf7 ?l7 ?c7 ?k7 ?a8 ?l8 ?c8 ?k8 ?a9 ?l9 ?c9 ?k9 ?a10 ?isf10 ?l10 ?c10 ?k10 ?a11 ?isf11 ?sf11 ?ri11 ?ro11 ?fi11 ?fr11 ?si11 ?l11 ?c11 ?k11 ?a12 ?l12 ?c12 ?k12 ?a13 ?l13 ?c13 ?k13 ?a14 ?l14 ?c14 ?k14 ?a15 ?isf15 ?l15 ?c15 ?k15 ?a16 ?l16 ?c16 ?k16 ?a17 ?l17 ?c17 ?k17 ?bmok_BadNumber K09.main
    (case qMOST_UNITS => k_is)
    (case zabs => k_is)
    (case zbool => k_is)
    (case zenumerate => k_is)
    (case zint => k_is)
    (case zisinstance => k_is)
    (case zlen => k_is)
    (case zlist => k_is)
    (case zmin => k_is)
    (case zrange => k_is)
    (case ztuple => k_is)
    (case a_WaterError => k_is)
    (case a_BadNumber => k_is)
    (case a_Day => k_is)
    (case op => k_is)
    (case ms => k_is)
    (case gn => k_is)
    (case gt => k_is)
    (case b_WaterError => k_is)
    (case y_WaterError => k_is)
    (case ic_WaterError => k_is)
    (case b_BadNumber => k_is)
    (case y_BadNumber => k_is)
    (case ic_BadNumber => k_is)
    (case s_BadNumber_WaterError => first | k_is | rfl | decide +kernel)
    (case s_BadNumber_BadNumber => first | k_is | rfl | decide +kernel)
    (case s_WaterError_WaterError => first | k_is | rfl | decide +kernel)
    (case xl_BadNumber => k_is)
    (case sa_BadNumber => k_is)
    (case ga_BadNumber => k_is)
    (case gg_BadNumber => k_is)
    (case hd_BadNumber => k_is)
    (case cl_BadNumber => k_is)
    (case mo_BadNumber => k_is)
    (case me_BadNumber => k_is)
    (case no_BadNumber_what => k_is)
    (case no_BadNumber_value => k_is)
    (case ii_BadNumber => k_is)
    (case it_BadNumber => k_is)
    (case kc_BadNumber => k_is)
    (case ve_BadNumber => k_is)
    (case su_BadNumber => ks_is)
    (case fl_BadNumber => k_is)
    (case fc_BadNumber => k_is)
    (case fd_BadNumber => k_is)
    (case fv_BadNumber => first | rfl | decide +kernel)
    (case ff_BadNumber => first | rfl | decide +kernel)
    (case fe_BadNumber => k_is)
    (case pg_Day => k_is)
    (case hd_Day => k_is)
    (case po_Day => k_is)
    (case sa_Day => k_is)
    (case cl_Day => k_is)
    (case mo_Day => k_is)
    (case ic_Day => k_is)
    (case y_Day => k_is)
    (case mk_Day => k_is)
    (case kc_Day => k_is)
    (case no_Day_dry => k_is)
    (case no_Day_rain => k_is)
    (case no_Day_fill => k_is)
    (case no_Day_mood => k_is)
    (case ne_Day => k_is)
    (case xl_Day => k_is)
    (case s_Day_Day => first | k_is | rfl | decide +kernel)
    (case s_BadNumber_Day => first | k_is | rfl | decide +kernel)
    (case a0 => k_is)
    (case l0 => k_is)
    (case c0 => k_is)
    (case k0 => k_is)
    (case a1 => k_is)
    (case l1 => k_is)
    (case c1 => k_is)
    (case k1 => k_is)
    (case a2 => k_is)
    (case l2 => k_is)
    (case c2 => k_is)
    (case k2 => k_is)
    (case a3 => k_is)
    (case l3 => k_is)
    (case c3 => k_is)
    (case k3 => k_is)
    (case a4 => k_is)
    (case l4 => k_is)
    (case c4 => k_is)
    (case k4 => k_is)
    (case a5 => k_is)
    (case l5 => k_is)
    (case c5 => k_is)
    (case k5 => k_is)
    (case a6 => k_is)
    (case l6 => k_is)
    (case c6 => k_is)
    (case k6 => k_is)
    (case a7 => k_is)
    (case isf7 => k_is)
    (case l7 => k_is)
    (case c7 => k_is)
    (case k7 => k_is)
    (case a8 => k_is)
    (case l8 => k_is)
    (case c8 => k_is)
    (case k8 => k_is)
    (case a9 => k_is)
    (case l9 => k_is)
    (case c9 => k_is)
    (case k9 => k_is)
    (case a10 => k_is)
    (case isf10 => k_is)
    (case l10 => k_is)
    (case c10 => k_is)
    (case k10 => k_is)
    (case a11 => k_is)
    (case isf11 => k_is)
    (case sf11 => k_is)
    (case ri11 => k_is)
    (case ro11 => first | exact .inl rfl | exact .inr ⟨_, rfl⟩)
    (case fi11 => k_is)
    (case fr11 => k_is)
    (case si11 => k_is)
    (case l11 => k_is)
    (case c11 => k_is)
    (case k11 => k_is)
    (case a12 => k_is)
    (case l12 => k_is)
    (case c12 => k_is)
    (case k12 => k_is)
    (case a13 => k_is)
    (case l13 => k_is)
    (case c13 => k_is)
    (case k13 => k_is)
    (case a14 => k_is)
    (case l14 => k_is)
    (case c14 => k_is)
    (case k14 => k_is)
    (case a15 => k_is)
    (case isf15 => k_is)
    (case l15 => k_is)
    (case c15 => k_is)
    (case k15 => k_is)
    (case a16 => k_is)
    (case l16 => k_is)
    (case c16 => k_is)
    (case k16 => k_is)
    (case a17 => k_is)
    (case l17 => k_is)
    (case c17 => k_is)
    (case k17 => k_is)
    (case bmok_BadNumber => first | rfl | decide +kernel)
