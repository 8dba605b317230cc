import PyProof.Rows.All
import Wide.All
import OpenK.AllK
import Wide.FinOn
import HandS.Dict
import PyProof.ListRange
import PyProof.Rows.SortKeyStr
import HandS.Base
import HandS.Call
import HandS.List
import HandS.Comp
import HandS.Iter
import HandS.Sort
import HandS.RevTup
import HandS.Rev
import HandS.Words
import HandS.TupAny
import HandS.IsInst
import HandS.WordsList
import KE.KEqNest
import HandS.Zip
import HandS.Codes
import HandS.Style
import PySem.Challenge.RW_calm_k48_whole_any_paper_is_sound
set_option Elab.async false
set_option linter.all false
set_option maxRecDepth 100000
set_option maxHeartbeats 4000000
/-! Sums, forms, papers in plain Lean: no program in sight. -/
namespace Calm
open PySem L2

/-! ### sums -/
abbrev Lin := List (Str × Int)
abbrev Sm := Int × Lin
def lin (f : Str → Int) : Lin → Int
  | [] => 0
  | p :: r => p.2 * f p.1 + lin f r
def val (f : Str → Int) (s : Sm) : Int := s.1 + lin f s.2
theorem lin_app (f : Str → Int) : ∀ a b : Lin, lin f (a ++ b) = lin f a + lin f b
  | [], b => by simp [lin]
  | p :: r, b => by
    have h := lin_app f r b
    simp only [List.cons_append, lin, h]
    omega
theorem lin_perm (f : Str → Int) {a b : Lin} (h : a.Perm b) : lin f a = lin f b := by
  induction h with
  | nil => rfl
  | cons x _ ih => simp only [lin, ih]
  | swap x y l => simp only [lin]; omega
  | trans _ _ ih1 ih2 => exact ih1.trans ih2
def scale (t : Int) (l : Lin) : Lin := l.map fun p => (p.1, p.2 * t)
theorem lin_scale (f : Str → Int) (t : Int) : ∀ l : Lin, lin f (scale t l) = t * lin f l
  | [] => by simp [scale, lin]
  | p :: r => by
    have h : lin f (List.map (fun p => (p.1, p.2 * t)) r) = t * lin f r := lin_scale f t r
    have e : p.2 * t * f p.1 = t * (p.2 * f p.1) := by rw [Int.mul_comm p.2 t, Int.mul_assoc]
    simp only [scale, List.map_cons, lin, h, Int.mul_add, e]
theorem lin_filter (f : Str → Int) : ∀ l : Lin, lin f (l.filter fun p => !decide (p.2 = 0)) = lin f l
  | [] => rfl
  | p :: r => by
    have h := lin_filter f r
    by_cases e : p.2 = 0
    · rw [List.filter_cons_of_neg (by simp [e]), h]
      simp [lin, e]
    · rw [List.filter_cons_of_pos (by simp [e])]
      simp only [lin, h]
theorem lin_zero (f : Str → Int) : ∀ l : Lin, (∀ p ∈ l, f p.1 = 0) → lin f l = 0
  | [], _ => rfl
  | p :: r, h => by
    have h1 := h p List.mem_cons_self
    have h2 := lin_zero f r fun q hq => h q (List.mem_cons_of_mem _ hq)
    simp only [lin, h1, h2, Int.mul_zero, Int.add_zero]
/-- what sum_of gives: each box once, no times of 0 -/
def Good (l : Lin) : Prop := (l.map (·.1)).Nodup ∧ ∀ p ∈ l, p.2 ≠ 0
theorem good_nil {l : Lin} (g : Good l) (h : ∀ f, lin f l = 0) : l = [] := by
  cases l with
  | nil => rfl
  | cons p r =>
    exfalso
    have h1 := h fun b => if b = p.1 then 1 else 0
    have h2 : lin (fun b => if b = p.1 then 1 else 0) r = 0 := lin_zero _ r fun q hq => by
      have nd := g.1
      rw [List.map_cons, List.nodup_cons] at nd
      have ne : q.1 ≠ p.1 := fun e => nd.1 (by rw [← e]; exact List.mem_map.mpr ⟨q, hq, rfl⟩)
      show (if q.1 = p.1 then (1 : Int) else 0) = 0
      rw [if_neg ne]
    simp only [lin, h2, if_pos] at h1
    have h3 := g.2 p List.mem_cons_self
    omega
theorem good_of_nil : Good [] := ⟨List.nodup_nil, fun _ h => absurd h (by simp)⟩

/-! ### the book of sum_of -/
def enc (D : Lin) : List (Key × V) := D.map fun p => (Sum.inr p.1, V.int p.2)
def getB (D : Lin) (b : Str) : Int := ((D.find? fun p => decide (p.1 = b)).map (·.2)).getD 0
theorem valV_enc (b : Str) : ∀ D : Lin, (valV (enc D) (Sum.inr b)).getD (.int 0) = .int (getB D b)
  | [] => rfl
  | p :: r => by
    have ih := valV_enc b r
    by_cases e : p.1 = b
    · have h1 : valV (enc (p :: r)) (Sum.inr b) = some (.int p.2) := valV_pos (p := (Sum.inr p.1, V.int p.2)) (r := enc r) (by rw [e])
      have h2 : getB (p :: r) b = p.2 := by simp [getB, List.find?_cons, e]
      rw [h1, h2]
      rfl
    · have h1 : valV (enc (p :: r)) (Sum.inr b) = valV (enc r) (Sum.inr b) := valV_neg (p := (Sum.inr p.1, V.int p.2)) (r := enc r) (fun q => e (Sum.inr.inj q))
      have h2 : getB (p :: r) b = getB r b := by simp [getB, List.find?_cons, e]
      rw [h1, h2, ih]
def addB : Lin → Str → Int → Lin
  | [], b, t => [(b, t)]
  | p :: r, b, t => if p.1 = b then (p.1, p.2 + t) :: r else p :: addB r b t
theorem addB_lin (f : Str → Int) (b : Str) (t : Int) : ∀ D : Lin, lin f (addB D b t) = lin f D + t * f b
  | [] => by simp [addB, lin]
  | p :: r => by
    have ih := addB_lin f b t r
    by_cases e : p.1 = b
    · have h : (p.2 + t) * f p.1 = p.2 * f p.1 + t * f b := by rw [Int.add_mul, e]
      simp only [addB, if_pos e, lin, h]
      omega
    · simp only [addB, if_neg e, lin, ih]
      omega
theorem addB_mem {b : Str} {t : Int} {x : Str} : ∀ D : Lin, x ∈ (addB D b t).map (·.1) → x = b ∨ x ∈ D.map (·.1)
  | [], h => by simp [addB] at h; exact .inl h
  | p :: r, h => by
    by_cases e : p.1 = b
    · simp only [addB, if_pos e, List.map_cons] at h
      exact .inr h
    · simp only [addB, if_neg e, List.map_cons, List.mem_cons] at h
      rcases h with h | h
      · exact .inr (by rw [h]; exact List.mem_cons_self)
      · rcases addB_mem r h with q | q
        · exact .inl q
        · exact .inr (List.mem_cons_of_mem _ q)
theorem addB_nodup (b : Str) (t : Int) : ∀ D : Lin, (D.map (·.1)).Nodup → ((addB D b t).map (·.1)).Nodup
  | [], _ => by simp [addB]
  | p :: r, h => by
    rw [List.map_cons, List.nodup_cons] at h
    by_cases e : p.1 = b
    · simp only [addB, if_pos e, List.map_cons, List.nodup_cons]
      exact h
    · simp only [addB, if_neg e, List.map_cons, List.nodup_cons]
      refine ⟨fun q => ?_, addB_nodup b t r h.2⟩
      rcases addB_mem r q with z | z
      · exact e z
      · exact h.1 z
theorem addB_len (b : Str) (t : Int) : ∀ D : Lin, (addB D b t).length ≤ D.length + 1
  | [] => by simp [addB]
  | p :: r => by
    have ih := addB_len b t r
    by_cases e : p.1 = b
    · simp only [addB, if_pos e, List.length_cons]
      omega
    · simp only [addB, if_neg e, List.length_cons]
      omega
theorem any_enc (b : Str) : ∀ D : Lin, ((enc D).any fun kv => decide (kv.1 = Sum.inr b)) = decide (b ∈ D.map (·.1))
  | [] => rfl
  | p :: r => by
    have ih := any_enc b r
    show (decide ((Sum.inr p.1 : Key) = Sum.inr b) || (enc r).any fun kv => decide (kv.1 = Sum.inr b)) = _
    rw [ih]
    by_cases e : p.1 = b
    · simp [e]
    · have e' : ¬ b = p.1 := fun q => e q.symm
      simp [e, e']
theorem map_enc {b : Str} {v : V} : ∀ {D : Lin}, b ∉ D.map (·.1) → (enc D).map (fun kv => if kv.1 = Sum.inr b then (kv.1, v) else kv) = enc D
  | [], _ => rfl
  | p :: r, h => by
    rw [List.map_cons, List.mem_cons, not_or] at h
    have ih := map_enc (v := v) h.2
    show (if (Sum.inr p.1 : Key) = Sum.inr b then ((Sum.inr p.1 : Key), v) else (Sum.inr p.1, V.int p.2)) :: (enc r).map _ = _
    rw [ih, if_neg fun q => h.1 (Sum.inr.inj q).symm]
    rfl
theorem put_enc (b : Str) (t : Int) : ∀ D : Lin, (D.map (·.1)).Nodup → putK (enc D) (Sum.inr b) (.int (getB D b + t)) = enc (addB D b t)
  | [], _ => by
    show putK [] (Sum.inr b) (.int (0 + t)) = [(Sum.inr b, .int t)]
    rw [Int.zero_add]
    rfl
  | p :: r, h => by
    rw [List.map_cons, List.nodup_cons] at h
    by_cases e : p.1 = b
    · have h2 : getB (p :: r) b = p.2 := by simp [getB, List.find?_cons, e]
      have hb : b ∉ r.map (·.1) := by rw [← e]; exact h.1
      unfold putK
      rw [any_enc, if_pos (by simp [e]), h2]
      simp only [addB, if_pos e]
      show (if (Sum.inr p.1 : Key) = Sum.inr b then ((Sum.inr p.1 : Key), V.int (p.2 + t)) else (Sum.inr p.1, V.int p.2)) :: (enc r).map _ = _
      rw [map_enc hb, if_pos (by rw [e])]
      rfl
    · have h2 : getB (p :: r) b = getB r b := by simp [getB, List.find?_cons, e]
      have ih := put_enc b t r h.2
      have ne : ¬ (Sum.inr p.1 : Key) = Sum.inr b := fun q => e (Sum.inr.inj q)
      rw [h2]
      simp only [addB, if_neg e]
      unfold putK at ih ⊢
      rw [any_enc] at ih ⊢
      by_cases m : b ∈ r.map (·.1)
      · rw [if_pos (by simp [m])] at ih
        rw [if_pos (by rw [List.map_cons]; simp only [List.mem_cons, decide_eq_true_eq]; exact .inr m)]
        show (if (Sum.inr p.1 : Key) = Sum.inr b then ((Sum.inr p.1 : Key), V.int (getB r b + t)) else (Sum.inr p.1, V.int p.2)) :: (enc r).map _ = _
        rw [if_neg ne, ih]
        rfl
      · rw [if_neg (by simp [m])] at ih
        rw [if_neg (by
          rw [List.map_cons]
          simp only [List.mem_cons, decide_eq_true_eq, not_or]
          exact ⟨fun q => e q.symm, m⟩)]
        show (Sum.inr p.1, V.int p.2) :: (enc r ++ _) = _
        rw [ih]
        rfl

/-! ### forms -/
inductive Fm where
  | most (s : Sm)
  | rest (s : Sm) (m : Int)
  | and (fs : List Fm)
  | or (fs : List Fm)
mutual
def Fm.tru (f : Str → Int) : Fm → Prop
  | .most s => val f s ≤ 0
  | .rest s m => m ∣ val f s
  | .and fs => Fm.all f fs
  | .or fs => Fm.any f fs
def Fm.all (f : Str → Int) : List Fm → Prop
  | [] => True
  | F :: r => F.tru f ∧ Fm.all f r
def Fm.any (f : Str → Int) : List Fm → Prop
  | [] => False
  | F :: r => F.tru f ∨ Fm.any f r
end
def linD (l : Lin) : List PyData := l.map fun p => .tuple [.str p.1, .int p.2]
def smD (s : Sm) : PyData := .tuple [.int s.1, .tuple (linD s.2)]
mutual
def Fm.d : Fm → PyData
  | .most s => .tuple [.str "most", smD s]
  | .rest s m => .tuple [.str "rest", smD s, .int m]
  | .and fs => .tuple [.str "and", .tuple (Fm.ds fs)]
  | .or fs => .tuple [.str "or", .tuple (Fm.ds fs)]
def Fm.ds : List Fm → List PyData
  | [] => []
  | F :: r => F.d :: Fm.ds r
end
mutual
def Fm.sz : Fm → Nat
  | .most _ => 1
  | .rest _ _ => 1
  | .and fs => Fm.szs fs + 1
  | .or fs => Fm.szs fs + 1
def Fm.szs : List Fm → Nat
  | [] => 0
  | F :: r => F.sz + Fm.szs r
end
/-! all sums within are short, all divisors small -/
mutual
def Fm.ok : Fm → Prop
  | .most s => s.2.length ≤ 100
  | .rest s m => s.2.length ≤ 100 ∧ 2 ≤ m
  | .and fs => Fm.oks fs
  | .or fs => Fm.oks fs
def Fm.oks : List Fm → Prop
  | [] => True
  | F :: r => F.ok ∧ Fm.oks r
end
theorem all_iff {f : Str → Int} : ∀ {fs : List Fm}, Fm.all f fs ↔ ∀ F ∈ fs, F.tru f
  | [] => by simp [Fm.all]
  | F :: r => by simp [Fm.all, all_iff (fs := r)]
theorem any_iff {f : Str → Int} : ∀ {fs : List Fm}, Fm.any f fs ↔ ∃ F ∈ fs, F.tru f
  | [] => by simp [Fm.any]
  | F :: r => by simp [Fm.any, any_iff (fs := r)]
theorem oks_iff : ∀ {fs : List Fm}, Fm.oks fs ↔ ∀ F ∈ fs, F.ok
  | [] => by simp [Fm.oks]
  | F :: r => by simp [Fm.oks, oks_iff (fs := r)]
theorem ds_eq : ∀ fs : List Fm, Fm.ds fs = fs.map Fm.d
  | [] => rfl
  | F :: r => by simp [Fm.ds, ds_eq r]
theorem sz_mem {F : Fm} : ∀ {fs : List Fm}, F ∈ fs → F.sz ≤ Fm.szs fs
  | [], h => absurd h (by simp)
  | G :: r, h => by
    rcases List.mem_cons.mp h with e | h
    · subst e
      simp only [Fm.szs]
      omega
    · have := sz_mem h
      simp only [Fm.szs]
      omega
theorem sz_pos : ∀ F : Fm, 1 ≤ F.sz
  | .most _ => by simp [Fm.sz]
  | .rest _ _ => by simp [Fm.sz]
  | .and _ => by simp [Fm.sz]
  | .or _ => by simp [Fm.sz]
theorem szs_len : ∀ fs : List Fm, fs.length ≤ Fm.szs fs
  | [] => Nat.le_refl _
  | F :: r => by
    have h1 := sz_pos F
    have h2 := szs_len r
    simp only [List.length_cons, Fm.szs]
    omega
/-- laid in -/
abbrev St2 := List Fm × List (List Fm)
mutual
def lay : Fm → St2 → St2
  | .most s, p => (p.1 ++ [.most s], p.2)
  | .rest s m, p => (p.1 ++ [.rest s m], p.2)
  | .or fs, p => (p.1, p.2 ++ [fs])
  | .and fs, p => lays fs p
def lays : List Fm → St2 → St2
  | [], p => p
  | F :: r, p => lays r (lay F p)
end
theorem lays_app : ∀ (a b : List Fm) (p : St2), lays (a ++ b) p = lays b (lays a p)
  | [], b, p => rfl
  | F :: r, b, p => by
    show lays (r ++ b) (lay F p) = lays b (lays r (lay F p))
    exact lays_app r b _
def allT (f : Str → Int) (A : List Fm) : Prop := ∀ F ∈ A, F.tru f
def orsT (f : Str → Int) (O : List (List Fm)) : Prop := ∀ fs ∈ O, ∃ F ∈ fs, F.tru f
def okA (A : List Fm) : Prop := ∀ F ∈ A, F.ok
/-- the ors' members are of size at most S -/
def okO (S : Nat) (O : List (List Fm)) : Prop := ∀ fs ∈ O, Fm.szs fs ≤ S ∧ ∀ F ∈ fs, F.ok
theorem allT_app {f : Str → Int} {A B : List Fm} (a : allT f A) (b : allT f B) : allT f (A ++ B) := fun F h => (List.mem_append.mp h).elim (a F) (b F)
theorem allT_one {f : Str → Int} {F : Fm} (a : F.tru f) : allT f [F] := fun G h => by
  have e : G = F := by simpa using h
  rw [e]
  exact a
mutual
theorem lay_tru {f : Str → Int} : ∀ (F : Fm) (p : St2), F.tru f → allT f p.1 → orsT f p.2 → allT f (lay F p).1 ∧ orsT f (lay F p).2
  | .most s, p, h, a, o => ⟨allT_app a (allT_one h), o⟩
  | .rest s m, p, h, a, o => ⟨allT_app a (allT_one h), o⟩
  | .or fs, p, h, a, o => ⟨a, fun gs hg => (List.mem_append.mp hg).elim (o gs) fun hg => by
      have e : gs = fs := by simpa using hg
      rw [e]
      exact any_iff.mp h⟩
  | .and fs, p, h, a, o => lays_tru fs p h a o
theorem lays_tru {f : Str → Int} : ∀ (fs : List Fm) (p : St2), Fm.all f fs → allT f p.1 → orsT f p.2 → allT f (lays fs p).1 ∧ orsT f (lays fs p).2
  | [], p, _, a, o => ⟨a, o⟩
  | F :: r, p, h, a, o => by
    obtain ⟨a1, o1⟩ := lay_tru F p h.1 a o
    exact lays_tru r (lay F p) h.2 a1 o1
end
mutual
theorem lay_ok {S : Nat} : ∀ (F : Fm) (p : St2), F.ok → F.sz ≤ S → okA p.1 → okO S p.2 → okA (lay F p).1 ∧ okO S (lay F p).2 ∧ (lay F p).1.length + (lay F p).2.length ≤ p.1.length + p.2.length + F.sz
  | .most s, p, h, _, a, o => ⟨fun G hg => (List.mem_append.mp hg).elim (a G) (fun hg => by
      have e : G = .most s := by simpa using hg
      rw [e]
      exact h), o, by simp [lay, Fm.sz]; omega⟩
  | .rest s m, p, h, _, a, o => ⟨fun G hg => (List.mem_append.mp hg).elim (a G) (fun hg => by
      have e : G = .rest s m := by simpa using hg
      rw [e]
      exact h), o, by simp [lay, Fm.sz]; omega⟩
  | .or fs, p, h, hs, a, o => ⟨a, fun gs hg => (List.mem_append.mp hg).elim (o gs) (fun hg => by
      have e : gs = fs := by simpa using hg
      rw [e]
      simp only [Fm.sz] at hs
      exact ⟨by omega, oks_iff.mp h⟩), by simp [lay, Fm.sz]; omega⟩
  | .and fs, p, h, hs, a, o => by
    have q := lays_ok (S := S) fs p h (by simp only [Fm.sz] at hs; omega) a o
    refine ⟨q.1, q.2.1, ?_⟩
    have := q.2.2
    simp only [lay, Fm.sz]
    omega
theorem lays_ok {S : Nat} : ∀ (fs : List Fm) (p : St2), Fm.oks fs → Fm.szs fs ≤ S → okA p.1 → okO S p.2 → okA (lays fs p).1 ∧ okO S (lays fs p).2 ∧ (lays fs p).1.length + (lays fs p).2.length ≤ p.1.length + p.2.length + Fm.szs fs
  | [], p, _, _, a, o => ⟨a, o, by simp [lays, Fm.szs]⟩
  | F :: r, p, h, hs, a, o => by
    simp only [Fm.szs] at hs
    obtain ⟨a1, o1, l1⟩ := lay_ok (S := S) F p h.1 (by omega) a o
    obtain ⟨a2, o2, l2⟩ := lays_ok (S := S) r (lay F p) h.2 (by omega) a1 o1
    refine ⟨a2, o2, ?_⟩
    simp only [lays, Fm.szs]
    omega
end
/-! the atoms ahead stay -/
mutual
theorem lay_pre : ∀ (F : Fm) (p : St2), ∃ more, (lay F p).1 = p.1 ++ more
  | .most s, p => ⟨_, rfl⟩
  | .rest s m, p => ⟨_, rfl⟩
  | .or fs, p => ⟨[], by simp [lay]⟩
  | .and fs, p => lays_pre fs p
theorem lays_pre : ∀ (fs : List Fm) (p : St2), ∃ more, (lays fs p).1 = p.1 ++ more
  | [], p => ⟨[], by simp [lays]⟩
  | F :: r, p => by
    obtain ⟨m1, e1⟩ := lay_pre F p
    obtain ⟨m2, e2⟩ := lays_pre r (lay F p)
    exact ⟨m1 ++ m2, by rw [lays, e2, e1, List.append_assoc]⟩
end
/-- no book makes all true -/
def Dead (A : List Fm) (O : List (List Fm)) : Prop := ∀ f, allT f A → orsT f O → False
theorem or_dead {A : List Fm} {O : List (List Fm)} {ms : List Fm} (hm : ms ∈ O) (h : ∀ F ∈ ms, Dead (lay F (A, O)).1 (lay F (A, O)).2) : Dead A O := fun f a o => by
  obtain ⟨F, hF, t⟩ := o ms hm
  obtain ⟨a1, o1⟩ := lay_tru F (A, O) t a o
  exact h F hF f a1 o1
theorem cut_dead {A : List Fm} {O : List (List Fm)} {s s' : Sm} {b : Str} {k : Int} (e : ∀ f, val f s = f b - k) (e' : ∀ f, val f s' = k + 1 - f b) (h : Dead (A ++ [.most s]) O) (h' : Dead (A ++ [.most s']) O) : Dead A O := fun f a o => by
  by_cases c : f b ≤ k
  · refine h f (allT_app a (allT_one ?_)) o
    show val f s ≤ 0
    rw [e]
    omega
  · refine h' f (allT_app a (allT_one ?_)) o
    show val f s' ≤ 0
    rw [e']
    omega
/-! ### rows of papers -/
def sAt (A : List Fm) (n : Int) : Option Sm := if 0 ≤ n then (match A[n.toNat]? with | some (.most s) => some s | _ => none) else none
def totN (A : List Fm) : List (List Int) → Int
  | [] => 0
  | r :: R => ((sAt A (r.getD 0 0)).map (·.1)).getD 0 * r.getD 1 0 + totN A R
def totL (A : List Fm) (f : Str → Int) : List (List Int) → Int
  | [] => 0
  | r :: R => r.getD 1 0 * lin f (((sAt A (r.getD 0 0)).map (·.2)).getD []) + totL A f R
def RowOk (A : List Fm) (r : List Int) : Prop := r.length = 2 ∧ 1 ≤ r.getD 1 0 ∧ ∃ s, sAt A (r.getD 0 0) = some s
def SumOk (A : List Fm) (R : List (List Int)) : Prop := (∀ r ∈ R, RowOk A r) ∧ (∀ f, totL A f R = 0) ∧ 0 < totN A R
theorem totN_app (A : List Fm) : ∀ R S : List (List Int), totN A (R ++ S) = totN A R + totN A S
  | [], S => by simp [totN]
  | r :: R, S => by
    have h := totN_app A R S
    simp only [List.cons_append, totN, h]
    omega
theorem totL_app (A : List Fm) (f : Str → Int) : ∀ R S : List (List Int), totL A f (R ++ S) = totL A f R + totL A f S
  | [], S => by simp [totL]
  | r :: R, S => by
    have h := totL_app A f R S
    simp only [List.cons_append, totL, h]
    omega
theorem sAt_mem {A : List Fm} {n : Int} {s : Sm} (h : sAt A n = some s) : 0 ≤ n ∧ A[n.toNat]? = some (.most s) := by
  unfold sAt at h
  by_cases c : 0 ≤ n
  · rw [if_pos c] at h
    refine ⟨c, ?_⟩
    split at h
    · rename_i s' e
      cases h
      exact e
    · cases h
  · rw [if_neg c] at h
    cases h
theorem sAt_of {A : List Fm} {n : Int} {s : Sm} (h0 : 0 ≤ n) (h : A[n.toNat]? = some (.most s)) : sAt A n = some s := by
  unfold sAt
  rw [if_pos h0, h]
theorem sum_le {A : List Fm} {f : Str → Int} (a : allT f A) : ∀ R : List (List Int), (∀ r ∈ R, RowOk A r) → totN A R + totL A f R ≤ 0
  | [], _ => by simp [totN, totL]
  | r :: R, h => by
    have ih := sum_le a R fun q hq => h q (List.mem_cons_of_mem _ hq)
    obtain ⟨_, h1, s, hs⟩ := h r List.mem_cons_self
    obtain ⟨_, hm⟩ := sAt_mem hs
    have t : val f s ≤ 0 := a _ (List.mem_of_getElem? hm)
    have u : r.getD 1 0 * val f s ≤ 0 := Int.mul_nonpos_of_nonneg_of_nonpos (by omega) t
    have e : r.getD 1 0 * val f s = s.1 * r.getD 1 0 + r.getD 1 0 * lin f s.2 := by
      unfold val
      rw [Int.mul_add, Int.mul_comm (r.getD 1 0) s.1]
    simp only [totN, totL, hs, Option.map_some, Option.getD_some]
    omega
theorem sum_dead {A : List Fm} {O : List (List Fm)} {R : List (List Int)} (h : SumOk A R) : Dead A O := fun f a _ => by
  have h1 := sum_le a R h.1
  have h2 := h.2.1 f
  have h3 := h.2.2
  omega
theorem dvd_lin {f : Str → Int} {m : Int} : ∀ l : Lin, (∀ p ∈ l, m ∣ p.2) → m ∣ lin f l
  | [], _ => Int.dvd_zero m
  | p :: r, h => by
    have h1 := h p List.mem_cons_self
    have h2 := dvd_lin (f := f) r fun q hq => h q (List.mem_cons_of_mem _ hq)
    exact Int.dvd_add (Int.dvd_mul_of_dvd_left h1) h2
theorem rest_dead {A : List Fm} {O : List (List Fm)} {m : Int} {T : Sm} (h : ∀ f, allT f A → m ∣ val f T) (h1 : ¬ m ∣ T.1) (h2 : ∀ p ∈ T.2, m ∣ p.2) : Dead A O := fun f a _ => by
  have h3 := h f a
  have h4 := dvd_lin (f := f) T.2 h2
  apply h1
  have e : T.1 = val f T - lin f T.2 := by
    unfold val
    omega
  rw [e]
  exact Int.dvd_sub h3 h4
theorem fmod_dvd {m x : Int} (h : 2 ≤ m) : x.fmod m = 0 ↔ m ∣ x := by
  rw [Int.fmod_eq_emod_of_nonneg _ (by omega)]
  exact ⟨Int.dvd_of_emod_eq_zero, Int.emod_eq_zero_of_dvd⟩
/-! ### papers -/
inductive Pp where
  | sum (R : List (List Int))
  | rest (m : Int) (R : List (List Int))
  | cut (b : Str) (k : Int) (lo hi : Pp)
  | or (n : Int) (ps : List Pp)
def rowsD (R : List (List Int)) : PyData := .tuple (R.map fun r => .tuple (r.map .int))
mutual
def Pp.d : Pp → PyData
  | .sum R => .tuple [.str "sum", rowsD R]
  | .rest m R => .tuple [.str "rest", .int m, rowsD R]
  | .cut b k lo hi => .tuple [.str "cut", .str b, .int k, lo.d, hi.d]
  | .or n ps => .tuple [.str "or", .int n, .tuple (Pp.ds ps)]
def Pp.ds : List Pp → List PyData
  | [] => []
  | p :: r => p.d :: Pp.ds r
end
def rowsOk (R : List (List Int)) : Prop := R.length ≤ 100 ∧ ∀ r ∈ R, (r.length = 2 ∨ r.length = 3) ∧ ∀ z ∈ r, -(2 ^ 60) < z ∧ z < 2 ^ 60
mutual
def Pp.ok : Pp → Prop
  | .sum R => rowsOk R
  | .rest _ R => rowsOk R
  | .cut _ _ lo hi => lo.ok ∧ hi.ok
  | .or _ ps => Pp.oks ps
def Pp.oks : List Pp → Prop
  | [] => True
  | p :: r => p.ok ∧ Pp.oks r
end
mutual
def Pp.dep : Pp → Nat
  | .sum _ => 0
  | .rest _ _ => 0
  | .cut _ _ lo hi => max lo.dep hi.dep + 1
  | .or _ ps => Pp.deps ps + 1
def Pp.deps : List Pp → Nat
  | [] => 0
  | p :: r => max p.dep (Pp.deps r)
end
theorem pds_eq : ∀ ps : List Pp, Pp.ds ps = ps.map Pp.d
  | [] => rfl
  | p :: r => by simp [Pp.ds, pds_eq r]
theorem poks_iff : ∀ {ps : List Pp}, Pp.oks ps ↔ ∀ p ∈ ps, p.ok
  | [] => by simp [Pp.oks]
  | p :: r => by simp [Pp.oks, poks_iff (ps := r)]
theorem dep_mem {p : Pp} : ∀ {ps : List Pp}, p ∈ ps → p.dep ≤ Pp.deps ps
  | [], h => absurd h (by simp)
  | q :: r, h => by
    rcases List.mem_cons.mp h with e | h
    · subst e
      simp only [Pp.deps]
      omega
    · have := dep_mem h
      simp only [Pp.deps]
      omega
theorem deps_le {n : Nat} : ∀ {ps : List Pp}, (∀ p ∈ ps, p.dep ≤ n) → Pp.deps ps ≤ n
  | [], _ => Nat.zero_le _
  | p :: r, h => by
    have h1 := h p List.mem_cons_self
    have h2 := deps_le fun q hq => h q (List.mem_cons_of_mem _ hq)
    simp only [Pp.deps]
    omega
end Calm

/-! Two rules that the layer lacks: sorted of pairs (text, int), list(reversed(list)). -/

/-! ### sorted of pairs of a text and an int: the same in some order -/
namespace CaSort
open PySem PyProof.Rows Srt
section
variable {prog : Program} {w : World} {A : Around} {E : Value → Shared → Prop} {s : Shared}
def IsTI (h : Heap) (v : Value) (x : Str) (y : Int) : Prop := ∃ a o t u n, v = .ref a ∧ h.get? a = some o ∧ o.cls = .type "tuple" ∧ o.data = .seq #[.str x t, .int y u] n
theorem IsTI.keeps {h h' : Heap} {v : Value} {x : Str} {y : Int} (p : IsTI h v x y) (k : ∀ b o, h.get? b = some o → o.cls = .type "tuple" → h'.get? b = some o) : IsTI h' v x y := by
  obtain ⟨a, o, t, u, n, e, ho, hc, hd⟩ := p
  exact ⟨a, o, t, u, n, e, k _ _ ho hc, hc, hd⟩
theorem ti_tot {vs : List Value} (hp : ∀ v ∈ vs, ∃ x y, IsTI s.heap v x y) : Tot prog w A s (tuples' true) (fun p => p.1 ∈ vs) := by
  intro p q hm hm'
  obtain ⟨x, y, a, o, t, u, n, e, ho, hc, hd⟩ := hp _ hm
  obtain ⟨x', y', a', o', t', u', n', e', ho', hc', hd'⟩ := hp _ hm'
  rw [e, e']
  refine ⟨if x = x' then (if y = y' then false else decide (y < y')) else decide (x.cps.toList < x'.cps.toList), ?_⟩
  refine PySem.W.kat_lt ho hd ho' hd' ?_
  show PySem.W.KatLex prog w A true (decide (2 < 2)) _ [(.str x t, .str x' t'), (.int y u, .int y' u')] 0 s
  refine PySem.W.kat_cons (SeqAt.EqAt.str_str x t x' t' prog w _ _ ?_)
  refine PySem.W.kat_go (fun e1 => ?_) (fun e1 => ?_)
  · have ex : x = x' := by simpa using e1
    refine PySem.W.kat_yes (PySem.W.kat_cons (SeqAt.EqAt.int_int y u y' u' prog w _ _ ?_))
    refine PySem.W.kat_go (fun e2 => ?_) (fun e2 => ?_)
    · have ey : y = y' := by simpa using e2
      have e3 : (if x = x' then (if y = y' then false else decide (y < y')) else decide (x.cps.toList < x'.cps.toList)) = false := by rw [if_pos ex, if_pos ey]
      exact PySem.W.kat_yes (PySem.W.kat_nil ⟨rfl, e3.symm⟩)
    · have ey : ¬ y = y' := by simpa using e2
      have e3 : (if x = x' then (if y = y' then false else decide (y < y')) else decide (x.cps.toList < x'.cps.toList)) = decide (y < y') := by rw [if_pos ex, if_neg ey]
      refine PySem.W.kat_no (PySem.W.kat_one _ _ (PyProof.Rows.lt_int ?_))
      exact (show s = s ∧ decide (y < y') = (if x = x' then (if y = y' then false else decide (y < y')) else decide (x.cps.toList < x'.cps.toList)) from ⟨rfl, e3.symm⟩)
  · have ex : ¬ x = x' := by simpa using e1
    have e3 : (if x = x' then (if y = y' then false else decide (y < y')) else decide (x.cps.toList < x'.cps.toList)) = decide (x.cps.toList < x'.cps.toList) := by rw [if_neg ex]
    exact PySem.W.kat_no (oneLt_str ⟨rfl, e3.symm⟩)
theorem ti_firsts {h : Heap} : ∀ {vs : List Value}, (∀ v ∈ vs, ∃ x y, IsTI h v x y) → ∃ fs : List Value, PySem.W.KatTups h vs fs ∧ fs.length = vs.length ∧ ∀ f ∈ fs, ∃ x t, f = Value.str x t
  | [], _ => ⟨[], PySem.W.KatTups.nil, rfl, fun _ hm => by simp at hm⟩
  | v :: vs, hp => by
    obtain ⟨fs, h1, h2, h3⟩ := ti_firsts (vs := vs) fun v' hm => hp v' (List.mem_cons_of_mem _ hm)
    obtain ⟨x, y, a, o, t, u, n, e, ho, hc, hd⟩ := hp v (List.mem_cons_self ..)
    subst e
    refine ⟨.str x t :: fs, PySem.W.KatTups.cons ho hc hd rfl h1, by rw [List.length_cons, List.length_cons, h2], fun f hm => ?_⟩
    rcases List.mem_cons.mp hm with rfl | hm
    · exact ⟨x, t, rfl⟩
    · exact h3 f hm
theorem ti_sortable {a : Addr} {vs : List Value} (h0 : 0 < vs.length) (hp : ∀ v ∈ vs, ∃ x y, IsTI s.heap v x y) (ha : ∀ o, s.heap.get? a = some o → o.cls ≠ .type "tuple") : Sortable prog w A s a vs := by
  intro h' keep
  have hp' : ∀ v ∈ vs, ∃ x y, IsTI h' v x y := fun v hm => by
    obtain ⟨x, y, p⟩ := hp v hm
    exact ⟨x, y, p.keeps fun b o e c => keep b o (fun z => by subst z; exact ha o e c) e⟩
  obtain ⟨fs, h1, h2, h3⟩ := ti_firsts hp'
  refine ⟨tuples' true, fun Q E hq => ?_, ti_tot hp'⟩
  refine PySem.W.kat_kind (T := .type "str") h1 (by omega) (fun f hm => ?_) (by rfl) ?_
  · obtain ⟨x, t, rfl⟩ := h3 f hm
    exact PySem.W.Looks.now
  · have e : (Value.type "str" != Value.type "tuple") = true := by first | decide +kernel | rfl | decide
    rw [e]
    exact hq
theorem sorted_ti {l : Addr} {vs : List Value} {Q : Value → Shared → Prop} (hl : s.heap.IsList l vs.toArray) (hz : vs.length ≤ sizeLine) (hp : ∀ v ∈ vs, ∃ x y, IsTI s.heap v x y)
    (h : ∀ (h' : Heap) (d : Addr) (out : List Value), out.Perm vs → (∀ b o, s.heap.get? b = some o → h'.get? b = some o) → s.heap.objs.size ≤ d → (∃ n, h'.get? d = some (seqObj "list" out.toArray n)) → Q (.ref d) { s with heap := h' }) :
    wpAny (model prog w) A (call (.builtin "sorted") [.ref l]) Q E s := by
  refine sorted_any hl hz (fun h2 h₁ a ha k => ?_) fun out ho => ?_
  · refine ti_sortable (s := { s with heap := h₁ }) (by omega) (fun v hm => ?_) fun o e => ?_
    · obtain ⟨x, y, p⟩ := hp v hm
      exact ⟨x, y, p.keeps fun b o e _ => (k b o e).2⟩
    · have e' : some o = some (seqObj "list" vs.toArray 0) := e.symm.trans ha
      cases e'
      intro c
      exact absurd (Value.type.inj c) (by decide)
  · exact h _ _ out ho (fun b o e => sortedAll_old e) (Nat.le_succ _) (sortedAll_at s.heap vs out.toArray)
end
end CaSort

/-! ### list(reversed(list)) -/
namespace CaRev
open PySem PySem.Spec PyProof.Rows RT
section
variable {prog : Program} {w : World} {A : Around} {E : Value → Shared → Prop} {s : Shared}
theorem extend_rev {R : Result → Shared → Prop} {it l S : Addr} {items : Array Value} {res : Value} {c₀ : Nat} (hh : A.handled = none) (hit : s.heap.IsRevIter it l ((items.size : Int) - 1)) (hl : s.heap.IsList l items) (hne : l ≠ it) (hn : items.size ≤ sizeLine)
    (hS : s.heap.get? S = some { cls := .type "list", data := .seq #[] c₀ }) (hSi : S ≠ it) (hSl : S ≠ l)
    (hR : ∀ h' tk acc' c', (∀ b o, b ≠ S → b ≠ it → s.heap.get? b = some o → h'.get? b = some o) → h'.get? S = some { cls := .type "list", dict := none, data := .seq acc' c', slots := #[] } →
      ItemsOf (fun i v => items[items.size - 1 - i]? = some v) acc' items.size → R (.ok (.ret res)) { s with heap := h', toks := tk }) :
    wpAny (model prog w) A.in1 (Builtin.List.listExtendWith (.ref S) (.ref it) res)
      (fun fin s' => match fin with | .done f => R (.ok f) s' | .again c' => c'.quiet = true ∧ codeAny (model prog w) A c' R s') (fun e s' => R (.error e) s') s := by
  have W := (Walks.listRev (prog := prog) (w := w) (A := A.in1) hh it l hne items).toS
  have hSf : S ∉ [it, l] := by simp only [List.mem_cons, List.not_mem_nil, or_false, not_or]; exact ⟨hSi, hSl⟩
  have hT : s.TypeIs (.ref it) "list_reverseiterator" := Heap.IsRevIter.typeIs (s := s) hit
  have h1 : Builtin.List.listSameRef (.ref S) (.ref it) = false := by simp [Builtin.List.listSameRef, hSi]
  unfold Builtin.List.listExtendWith
  refine wpAny_bind (wpAny_typeOf hT ?_)
  rw [if_neg (by rw [h1]; decide)]
  refine wpAny_bind (wpAny_pyIter_revIter (s := s) hit ?_)
  refine wpAny_bind (wpAny_holding ?_)
  unfold Builtin.List.listLengthHint
  refine wpAny_bind (wpAny_specialOf hT nolen_lri ?_)
  show wpAny _ A.in1 (specialOf (Value.ref it) (Str.ofString "__length_hint__") >>= _) _ _ _
  refine wpAny_bind (wpAny_specialOf hT hint_lri ?_)
  generalize hid : ("list_reverseiterator.__length_hint__" : String) = id0
  wp_delta
  rw [show splitId id0 = some ("list_reverseiterator", "__length_hint__") from by subst hid; decide +kernel]
  subst hid
  refine wpAny_bind (wpAny_isInstance (b := true) hT (by rw [isSubtype_type]; kernel_rfl) ?_)
  refine wpAny_pure ?_
  rw [if_neg (by decide)]
  have e0 : ((items.size : Nat) : Int) - 1 - ((0 : Nat) : Int) = (items.size : Int) - 1 := by omega
  refine wpAny_pure ⟨plainId_quiet F.plain_extend_loop _, codeAny_extend_loopS W hn _ hSf _ items.size 0 _ _ _ rfl (Nat.zero_le _) ⟨Nat.zero_le _, by rw [e0]; exact hit, hl⟩ hS (ItemsOf.nil _) fun s' acc' c' hm hS' hacc => ?_⟩
  rw [Moved.eq_with hm]
  refine hR s'.heap s'.toks acc' c' (fun b o hb hb2 e => hm.heap b o (fun hmem => ?_) e) hS' hacc
  rcases List.mem_cons.mp hmem with e' | hmem
  · exact hb e'
  · exact hb2 (List.mem_singleton.mp hmem)
theorem list_init_rev {R : Result → Shared → Prop} {it l S : Addr} {items : Array Value} (hh : A.handled = none) (hit : s.heap.IsRevIter it l ((items.size : Int) - 1)) (hl : s.heap.IsList l items) (hne : l ≠ it) (hn : items.size ≤ sizeLine)
    (hS : s.heap.get? S = some { cls := .type "list", data := .seq #[] }) (hSi : S ≠ it) (hSl : S ≠ l)
    (hR : ∀ h' tk acc' c', (∀ b o, b ≠ S → b ≠ it → s.heap.get? b = some o → h'.get? b = some o) → h'.get? S = some { cls := .type "list", dict := none, data := .seq acc' c', slots := #[] } →
      ItemsOf (fun i v => items[items.size - 1 - i]? = some v) acc' items.size → R (.ok (.ret .none)) { s with heap := h', toks := tk }) :
    wpAny (model prog w) A.in1 (Builtin.«list.__init__» ⟨[.ref S, .ref it], []⟩)
      (fun fin s' => match fin with | .done f => R (.ok f) s' | .again c' => c'.quiet = true ∧ codeAny (model prog w) A c' R s') (fun e s' => R (.error e) s') s := by
  show wpAny _ _ (do let old ← Builtin.List.listItems (.ref S); Builtin.List.listUpdate (.ref S) (fun _ => #[]); letGo old.toList.reverse; Builtin.List.listExtendWith (.ref S) (.ref it) .none) _ _ s
  refine wpAny_bind ?_
  unfold Builtin.List.listItems
  refine wpAny_bind (wpAny_seqItems hS rfl (wpAny_pure ?_))
  show wpAny _ _ (updateSeq S (fun _ => #[]) >>= fun _ => letGo (#[] : Array Value).toList.reverse >>= fun _ => Builtin.List.listExtendWith (.ref S) (.ref it) .none) _ _ s
  refine wpAny_bind (wpAny_updateSeq hS rfl ?_)
  have hS₂ := Heap.get?_update_self (Obj.mapSeq (fun _ => (#[] : Array Value))) hS rfl
  have oth : ∀ b o, b ≠ S → s.heap.get? b = some o → (s.heap.update S (Obj.mapSeq (fun _ => (#[] : Array Value)))).get? b = some o :=
    fun b o hb e => (Heap.get?_update_other _ _ (Ne.symm hb)).trans e
  refine wpAny_bind (wpAny_letGo ?_)
  have hl2 : (s.heap.update S (Obj.mapSeq (fun _ => (#[] : Array Value)))).IsList l items := by
    obtain ⟨o, ho, r⟩ := hl
    exact ⟨o, oth l o (Ne.symm hSl) ho, r⟩
  refine extend_rev (s := { s with heap := s.heap.update S (Obj.mapSeq (fun _ => (#[] : Array Value))) }) hh (hit.at fun o e => oth it o (Ne.symm hSi) e) hl2 hne hn hS₂ hSi hSl fun h' tk acc' c' hk hS' hacc => ?_
  exact hR h' tk acc' c' (fun b o hb hb2 e => hk b o hb hb2 (oth b o hb e)) hS' hacc
theorem call_list_rev {it l : Addr} {items : Array Value} {Q : Value → Shared → Prop} (hh : A.handled = none) (hit : s.heap.IsRevIter it l ((items.size : Int) - 1)) (hl : s.heap.IsList l items) (hne : l ≠ it) (hn : items.size ≤ sizeLine)
    (hQ : ∀ (h' : Heap) (tk : Nat) (acc : Array Value) (c' : Nat), (∀ b o, b ≠ it → s.heap.get? b = some o → h'.get? b = some o) →
      h'.get? s.heap.objs.size = some { cls := .type "list", dict := none, data := .seq acc c', slots := #[] } → ItemsOf (fun i v => items[items.size - 1 - i]? = some v) acc items.size → Q (.ref s.heap.objs.size) { s with heap := h', toks := tk }) :
    wpAny (model prog w) A (call (.type "list") [.ref it]) Q E s := by
  refine callType_codes (Q₁ := fun obj s₁ => obj = .ref s.heap.objs.size ∧ s₁ = { s with heap := s.heap.push { cls := .type "list", data := .seq #[] } }) F.called_list (F.typeCall_list_1 _) F.entry_list_init
    (code_list_new _ ⟨rfl, rfl⟩) fun obj s₁ h₁ => ?_
  obtain ⟨rfl, rfl⟩ := h₁
  have hS : (s.heap.push { cls := .type "list", data := .seq #[] }).get? s.heap.objs.size = some { cls := .type "list", data := .seq #[] } := Heap.get?_push_size _ rfl
  obtain ⟨oi, hoi, _⟩ := id hit
  obtain ⟨ol, hol, _⟩ := id hl
  have hit1 : (s.heap.push { cls := .type "list", data := .seq #[] }).IsRevIter it l ((items.size : Int) - 1) := hit.at fun o e => Heap.get?_push_of_some _ e
  refine ⟨⟨_, hS, rfl⟩, F.args_list_init_2 _ _, list_init_rev (s := { s with heap := s.heap.push { cls := .type "list", data := .seq #[] } }) (A := A.in1) hh hit1 (hl.push _) hne hn hS (Nat.ne_of_gt (Heap.lt_size hoi)) (Nat.ne_of_gt (Heap.lt_size hol)) fun h' tk acc' c' hk hS' hacc => ?_⟩
  exact ⟨rfl, hQ h' tk acc' c' (fun b o hb e => hk b o (Nat.ne_of_lt (Heap.lt_size e)) hb (Heap.get?_push_of_some _ e)) hS' hacc⟩
end
end CaRev

namespace Calm
open PySem PySem.Spec PyProof.Rows L2 CaRev RT
section
variable {X : Cx}
/-- sorted(xs), xs a list of pairs (text, int): the same in some order -/
def rSortedTI (K : PySem.W.Frag) : List V → Hp → VK → Prop := fun vs H Q => ∃ a xs, vs = [V.ref a] ∧ SqL K H a xs ∧ (∀ x ∈ xs, ∃ t b i, x = V.ref t ∧ H t = some (.tup [.str b, .int i])) ∧
  ∀ ys p, ys.Perm xs → H p = none → Q (.ref p) (upd H p (.lst ys))
theorem cr_sortedTI : CallR X (.builtin "sorted") (rSortedTI X.K) := by
  intro pins s σ H vs us Q I r h
  obtain ⟨a, xs, rfl, hs, hx, q⟩ := h
  obtain ⟨its, rv, hl, hz⟩ := I.list hs
  obtain ⟨u, rfl, ru⟩ := vals1 r
  obtain rfl : u = Value.ref a := ru
  obtain ⟨e1, e2⟩ := refs_back rv fun x m => by
    obtain ⟨t, _, _, e, _⟩ := hx x m
    exact ⟨t, e⟩
  refine CaSort.sorted_ti hl.isList (by rw [← rv.length]; exact hz) (fun v hv => ?_) fun h' d out hp k hd hn => ?_
  · obtain ⟨t, rfl⟩ := e2 v hv
    have hm : V.ref t ∈ xs := by rw [e1]; exact List.mem_map.mpr ⟨_, hv, rfl⟩
    obtain ⟨t', i, j, e, ht⟩ := hx _ hm
    cases e
    obtain ⟨_, its2, r2, o, ho, hc, n, hd⟩ := I.hok _ _ ht
    obtain ⟨u1, u2, rfl, ri, rj⟩ := vals2 r2
    obtain ⟨t1, rfl⟩ := ri
    obtain ⟨t2, rfl⟩ := rj
    exact ⟨i, j, t, o, t1, t2, n, rfl, ho, hc, hd⟩
  · have h3 : ∀ u ∈ out, ∃ a, u = Value.ref a := fun u hu => e2 u (hp.mem_iff.mp hu)
    obtain ⟨n, hn⟩ := hn
    refine ⟨.ref d, upd H d (.lst (out.map backV)), I.laid (t' := s.toks) k hd ⟨?_, out, n, vals_back h3, hn⟩, rfl, q _ d ?_ (I.hok.fresh hd)⟩
    · rw [List.length_map, hp.length_eq, ← rv.length]; exact hz
    · rw [e1]; exact hp.map backV
def tLstRev (K : PySem.W.Frag) (te : TE) : TE := fun σ H Q => te σ H fun v H1 => ∃ a xs, v = .ref a ∧ SqL K H1 a xs ∧ ∀ p, H1 p = none → Q (.ref p) (upd H1 p (.lst xs.reverse))
theorem pe_lstRev {e : Expr} {te : TE} {p p2 pos pos2 : Pos} (hc : X.calm = true) (hg : Gl X "list") (hm : X.mg "list" = none) (hg2 : Gl X "reversed") (hm2 : X.mg "reversed" = none) (he : PE X e te)
    (hs : starEach [e] X.env = (false, eval e X.env) :: starEach [] X.env := by rfl)
    (hs2 : starEach [.Call (.Name "reversed" p2) [e] [] pos2] X.env = (false, eval (.Call (.Name "reversed" p2) [e] [] pos2) X.env) :: starEach [] X.env := by rfl) :
    PE X (.Call (.Name "list" p) [.Call (.Name "reversed" p2) [e] [] pos2] [] pos) (tLstRev X.K te) := by
  refine ⟨fun pins s σ H Q I h => ?_⟩
  refine Call_ (ld_blt I hg hm boot_list (PyProof.Rows.callWith_type1 (args_cons (Call_ (ld_blt I hg2 hm2 PyProof.Rows.boot_reversed (PyProof.Rows.callWith_type1 (args_cons (thn (he.run pins s σ H _ I h) fun u s1 ⟨v, H1, I1, r1, q1⟩ => args_nil ?_) hs) hs rfl))) hs2) hs2 rfl))
  obtain ⟨a, xs, ev, hq, q⟩ := q1
  subst ev
  obtain rfl : u = Value.ref a := r1
  obtain ⟨its, rv, p', hz⟩ := I1.list hq
  refine call_reversed_list p'.isList (args_nil ?_)
  have hl := p'.isList
  obtain ⟨ol, hol, _⟩ := id hl
  have hne : a ≠ s1.heap.objs.size := Nat.ne_of_lt (Heap.lt_size hol)
  have hn : its.toArray.size ≤ sizeLine := by rw [List.size_toArray, ← rv.length]; exact hz
  refine call_list_rev (s := { s1 with heap := s1.heap.push (revObj a ((its.toArray.size : Int) - 1)) }) (I1.ok.hd hc) ⟨_, Heap.get?_push_size _ rfl, rfl, rfl⟩ (hl.push _) hne hn fun h' tk acc c' hk hS hi => ?_
  have ha : (s1.heap.push (revObj a ((its.toArray.size : Int) - 1))).objs.size = s1.heap.objs.size + 1 := Heap.size_push _ _
  have hS' : h'.get? (s1.heap.objs.size + 1) = some { cls := .type "list", dict := none, data := .seq acc c', slots := #[] } := by rw [← ha]; exact hS
  show ∃ v H', _
  rw [ha]
  refine ⟨.ref (s1.heap.objs.size + 1), upd H1 (s1.heap.objs.size + 1) (.lst xs.reverse), I1.laid (t' := tk) (fun b o e => hk b o (Nat.ne_of_lt (Heap.lt_size e)) (Heap.get?_push_of_some _ e)) (Nat.le_succ _) (show ObjOk X.prog X.w _ _ _ (.lst xs.reverse) from ⟨by rw [List.length_reverse]; exact hz, acc.toList, c', vals_rev rv hi, ?_⟩), rfl, q _ (I1.hok.fresh (Nat.le_succ _))⟩
  rw [Array.toArray_toList]
  exact hS'
end
end Calm

/-! Data of ints, texts and tuples in the abstract heap. -/
namespace Calm
open PySem PySem.Spec PyProof.Rows L2
mutual
inductive Tp (H : Hp) : V → PyData → Prop
  | int (i : Int) : Tp H (.int i) (.int i)
  | str (x : Str) : Tp H (.str x) (.str x)
  | tup {a : Addr} {xs : List V} {ds : List PyData} : H a = some (.tup xs) → TpAll H xs ds → Tp H (.ref a) (.tuple ds)
inductive TpAll (H : Hp) : List V → List PyData → Prop
  | nil : TpAll H [] []
  | cons {v : V} {vs : List V} {d : PyData} {ds : List PyData} : Tp H v d → TpAll H vs ds → TpAll H (v :: vs) (d :: ds)
end
/-- all tuples stand -/
def Tups (H H' : Hp) : Prop := ∀ a xs, H a = some (.tup xs) → H' a = some (.tup xs)
/-- all but c stands -/
def But (c : Addr) (H H' : Hp) : Prop := ∀ b o, b ≠ c → H b = some o → H' b = some o
theorem Tups.of {H H' : Hp} (s : Same H H') : Tups H H' := fun a xs h => s a _ h
theorem Tups.trans {H H1 H2 : Hp} (a : Tups H H1) (b : Tups H1 H2) : Tups H H2 := fun c xs h => b c xs (a c xs h)
theorem But.of {c : Addr} {H H' : Hp} (s : Same H H') : But c H H' := fun b o _ h => s b o h
theorem But.trans {c : Addr} {H H1 H2 : Hp} (a : But c H H1) (b : But c H1 H2) : But c H H2 := fun d o n h => b d o n (a d o n h)
theorem same_new {H : Hp} {p : Addr} (h : H p = none) (o : HO) : Same H (upd H p o) := fun b u q => by rw [upd_ne (ne_of_none q h)]; exact q
theorem same_upd2 {H H1 : Hp} {p : Addr} {o : HO} (s : Same H H1) (h : H p = none) : Same H (upd H1 p o) := fun b u q => by rw [upd_ne (ne_of_none q h)]; exact s b u q
theorem tups_new {H : Hp} {p : Addr} (h : H p = none) (o : HO) : Tups H (upd H p o) := .of (same_new h o)
section
variable {H H' : Hp}
theorem Tp.int_inv {v : V} {i : Int} (h : Tp H v (.int i)) : v = .int i := by cases h; rfl
theorem Tp.str_inv {v : V} {x : Str} (h : Tp H v (.str x)) : v = .str x := by cases h; rfl
theorem Tp.tup_inv {v : V} {ds : List PyData} (h : Tp H v (.tuple ds)) : ∃ a xs, v = .ref a ∧ H a = some (.tup xs) ∧ TpAll H xs ds := by
  cases h with
  | tup e t => exact ⟨_, _, rfl, e, t⟩
theorem TpAll.nil_inv {vs : List V} (h : TpAll H vs []) : vs = [] := by cases h; rfl
theorem TpAll.cons_inv {vs : List V} {d : PyData} {ds : List PyData} (h : TpAll H vs (d :: ds)) : ∃ v r, vs = v :: r ∧ Tp H v d ∧ TpAll H r ds := by
  cases h with
  | cons a b => exact ⟨_, _, rfl, a, b⟩
theorem TpAll.len : ∀ {vs : List V} {ds : List PyData}, TpAll H vs ds → vs.length = ds.length
  | _, _, .nil => rfl
  | _, _, .cons _ t => by rw [List.length_cons, List.length_cons, TpAll.len t]
theorem TpAll.get : ∀ {vs : List V} {ds : List PyData} {i : Nat} {v : V}, TpAll H vs ds → vs[i]? = some v → ∃ d, ds[i]? = some d ∧ Tp H v d
  | _, _, _, _, .nil, h => by simp at h
  | _, _, 0, _, .cons a _, h => by
    simp at h
    subst h
    exact ⟨_, rfl, a⟩
  | _, _, i + 1, _, .cons _ t, h => by
    obtain ⟨d, h1, h2⟩ := TpAll.get (i := i) t (by simpa using h)
    exact ⟨d, by simpa using h1, h2⟩
theorem TpAll.get' : ∀ {vs : List V} {ds : List PyData} {i : Nat} {d : PyData}, TpAll H vs ds → ds[i]? = some d → ∃ v, vs[i]? = some v ∧ Tp H v d
  | _, _, _, _, .nil, h => by simp at h
  | _, _, 0, _, .cons a _, h => by
    simp at h
    subst h
    exact ⟨_, rfl, a⟩
  | _, _, i + 1, _, .cons _ t, h => by
    obtain ⟨d, h1, h2⟩ := TpAll.get' (i := i) t (by simpa using h)
    exact ⟨d, by simpa using h1, h2⟩
theorem TpAll.append : ∀ {vs ws : List V} {ds es : List PyData}, TpAll H vs ds → TpAll H ws es → TpAll H (vs ++ ws) (ds ++ es)
  | _, _, _, _, .nil, s => s
  | _, _, _, _, .cons a t, s => .cons a (TpAll.append t s)
theorem TpAll.one {v : V} {d : PyData} (h : Tp H v d) : TpAll H [v] [d] := .cons h .nil
mutual
theorem Tp.keep (k : Tups H H') : ∀ {v : V} {d : PyData}, Tp H v d → Tp H' v d
  | _, _, .int i => .int i
  | _, _, .str x => .str x
  | _, _, .tup e t => .tup (k _ _ e) (TpAll.keep k t)
theorem TpAll.keep (k : Tups H H') : ∀ {vs : List V} {ds : List PyData}, TpAll H vs ds → TpAll H' vs ds
  | _, _, .nil => .nil
  | _, _, .cons a t => .cons (Tp.keep k a) (TpAll.keep k t)
end
mutual
theorem Tp.dp {K : PySem.W.Frag} : ∀ {v : V} {d : PyData}, Tp H v d → Dp K H v d
  | _, _, .int i => .int i
  | _, _, .str x => .str x
  | _, _, .tup e t => .tup (SqT.of e) (TpAll.dp t)
theorem TpAll.dp {K : PySem.W.Frag} : ∀ {vs : List V} {ds : List PyData}, TpAll H vs ds → DpAll K H vs ds
  | _, _, .nil => .nil
  | _, _, .cons a t => .cons (Tp.dp a) (TpAll.dp t)
end
/-- a rearrangement -/
theorem TpAll.perm {ws vs : List V} (p : ws.Perm vs) : ∀ {l : Lin}, TpAll H vs (linD l) → ∃ m : Lin, m.Perm l ∧ TpAll H ws (linD m) := by
  induction p with
  | nil => intro l h; exact ⟨l, .refl _, h⟩
  | cons x _ ih =>
    intro l h
    cases l with
    | nil => cases h
    | cons q r =>
      obtain ⟨v, s, e, h1, h2⟩ := TpAll.cons_inv (show TpAll H _ (PyData.tuple [.str q.1, .int q.2] :: linD r) from h)
      injection e with e1 e2
      subst e1 e2
      obtain ⟨m, pm, t⟩ := ih h2
      exact ⟨q :: m, pm.cons q, .cons h1 t⟩
  | swap x y l' =>
    intro l h
    cases l with
    | nil => cases h
    | cons q r =>
      obtain ⟨v, s, e, h1, h2⟩ := TpAll.cons_inv (show TpAll H _ (PyData.tuple [.str q.1, .int q.2] :: linD r) from h)
      injection e with e1 e2
      subst e1 e2
      cases r with
      | nil => cases h2
      | cons q' r' =>
        obtain ⟨v, s, e, h3, h4⟩ := TpAll.cons_inv (show TpAll H _ (PyData.tuple [.str q'.1, .int q'.2] :: linD r') from h2)
        injection e with e1 e2
        subst e1 e2
        exact ⟨q' :: q :: r', .swap q q' r', .cons h3 (.cons h1 h4)⟩
  | trans _ _ ih1 ih2 =>
    intro l h
    obtain ⟨m, p1, t1⟩ := ih2 h
    obtain ⟨m', p2, t2⟩ := ih1 t1
    exact ⟨m', p2.trans p1, t2⟩
/-- a pair (text, int) -/
theorem pair_inv {v : V} {b : Str} {t : Int} (h : Tp H v (.tuple [.str b, .int t])) : ∃ a, v = .ref a ∧ H a = some (.tup [.str b, .int t]) := by
  obtain ⟨a, xs, e, ea, h⟩ := h.tup_inv
  obtain ⟨x, r, e1, h1, h⟩ := h.cons_inv
  obtain ⟨y, r2, e2, h2, h⟩ := h.cons_inv
  have e3 := h.nil_inv
  subst e3 e2 e1
  rw [h1.str_inv, h2.int_inv] at ea
  exact ⟨a, e, ea⟩
theorem pair_mk {a : Addr} {b : Str} {t : Int} (h : H a = some (.tup [.str b, .int t])) : Tp H (.ref a) (.tuple [.str b, .int t]) := .tup h (.cons (.str b) (.cons (.int t) .nil))
theorem linD_get {l : Lin} {i : Nat} {d : PyData} (h : (linD l)[i]? = some d) : ∃ p, l[i]? = some p ∧ d = .tuple [.str p.1, .int p.2] := by
  unfold linD at h
  rw [List.getElem?_map] at h
  cases e : l[i]? with
  | none => rw [e] at h; cases h
  | some p =>
    rw [e] at h
    exact ⟨p, rfl, (Option.some.inj h).symm⟩
theorem linD_len (l : Lin) : (linD l).length = l.length := List.length_map _
/-- a sum -/
theorem sm_inv {v : V} {s : Sm} (h : Tp H v (smD s)) : ∃ a q xs, v = .ref a ∧ H a = some (.tup [.int s.1, .ref q]) ∧ H q = some (.tup xs) ∧ TpAll H xs (linD s.2) := by
  obtain ⟨a, ys, e, ea, h⟩ := Tp.tup_inv (show Tp H v (.tuple [.int s.1, .tuple (linD s.2)]) from h)
  obtain ⟨x, r, e1, h1, h⟩ := h.cons_inv
  obtain ⟨y, r2, e2, h2, h⟩ := h.cons_inv
  have e3 := h.nil_inv
  obtain ⟨q, xs, e4, eq, h4⟩ := h2.tup_inv
  subst e3 e4 e2 e1
  rw [h1.int_inv] at ea
  exact ⟨a, q, xs, e, ea, eq, h4⟩
theorem sm_mk {a q : Addr} {xs : List V} {s : Sm} (ha : H a = some (.tup [.int s.1, .ref q])) (hq : H q = some (.tup xs)) (h : TpAll H xs (linD s.2)) : Tp H (.ref a) (smD s) :=
  .tup ha (.cons (.int _) (.cons (.tup hq h) .nil))
end
/-- a list of data at a -/
def LstD (H : Hp) (a : Addr) (ds : List PyData) : Prop := ∃ xs, H a = some (.lst xs) ∧ TpAll H xs ds
theorem LstD.keep {H H' : Hp} (s : Same H H') {a : Addr} {ds : List PyData} (h : LstD H a ds) : LstD H' a ds := by
  obtain ⟨xs, e, t⟩ := h
  exact ⟨xs, s _ _ e, t.keep (.of s)⟩
/-- what a form's word is -/
def Fm.word : Fm → Str
  | .most _ => "most"
  | .rest _ _ => "rest"
  | .and _ => "and"
  | .or _ => "or"
theorem fm_inv {H : Hp} {v : V} {F : Fm} (h : Tp H v F.d) : ∃ a x r, v = .ref a ∧ H a = some (.tup (.str F.word :: x :: r)) := by
  have key : ∀ {w : Str} {d : PyData} {ds : List PyData}, Tp H v (.tuple (.str w :: d :: ds)) → ∃ a x r, v = .ref a ∧ H a = some (.tup (.str w :: x :: r)) := fun {w d ds} h => by
    obtain ⟨a, xs, e, ea, h⟩ := h.tup_inv
    obtain ⟨x, r, e1, h1, h⟩ := h.cons_inv
    obtain ⟨y, r2, e2, h2, h⟩ := h.cons_inv
    subst e2 e1
    rw [h1.str_inv] at ea
    exact ⟨a, y, r2, e, ea⟩
  cases F with
  | most s => exact key h
  | rest s m => exact key h
  | and fs => exact key h
  | or fs => exact key h
theorem most_inv {H : Hp} {v : V} {s : Sm} (h : Tp H v (Fm.most s).d) : ∃ a y, v = .ref a ∧ H a = some (.tup [.str "most", y]) ∧ Tp H y (smD s) := by
  obtain ⟨a, xs, e, ea, h⟩ := Tp.tup_inv (show Tp H v (.tuple [.str "most", smD s]) from h)
  obtain ⟨x, r, e1, h1, h⟩ := h.cons_inv
  obtain ⟨y, r2, e2, h2, h⟩ := h.cons_inv
  have e3 := h.nil_inv
  subst e3 e2 e1
  rw [h1.str_inv] at ea
  exact ⟨a, y, e, ea, h2⟩
theorem rest_inv {H : Hp} {v : V} {s : Sm} {m : Int} (h : Tp H v (Fm.rest s m).d) : ∃ a y, v = .ref a ∧ H a = some (.tup [.str "rest", y, .int m]) ∧ Tp H y (smD s) := by
  obtain ⟨a, xs, e, ea, h⟩ := Tp.tup_inv (show Tp H v (.tuple [.str "rest", smD s, .int m]) from h)
  obtain ⟨x, r, e1, h1, h⟩ := h.cons_inv
  obtain ⟨y, r2, e2, h2, h⟩ := h.cons_inv
  obtain ⟨z, r3, e4, h4, h⟩ := h.cons_inv
  have e3 := h.nil_inv
  subst e3 e4 e2 e1
  rw [h1.str_inv, h4.int_inv] at ea
  exact ⟨a, y, e, ea, h2⟩
theorem and_inv {H : Hp} {v : V} {fs : List Fm} (h : Tp H v (Fm.and fs).d) : ∃ a q xs, v = .ref a ∧ H a = some (.tup [.str "and", .ref q]) ∧ H q = some (.tup xs) ∧ TpAll H xs (Fm.ds fs) := by
  obtain ⟨a, xs, e, ea, h⟩ := Tp.tup_inv (show Tp H v (.tuple [.str "and", .tuple (Fm.ds fs)]) from h)
  obtain ⟨x, r, e1, h1, h⟩ := h.cons_inv
  obtain ⟨y, r2, e2, h2, h⟩ := h.cons_inv
  have e3 := h.nil_inv
  obtain ⟨q, xs, e4, eq, h4⟩ := h2.tup_inv
  subst e3 e4 e2 e1
  rw [h1.str_inv] at ea
  exact ⟨a, q, xs, e, ea, eq, h4⟩
theorem or_inv {H : Hp} {v : V} {fs : List Fm} (h : Tp H v (Fm.or fs).d) : ∃ a q xs, v = .ref a ∧ H a = some (.tup [.str "or", .ref q]) ∧ H q = some (.tup xs) ∧ TpAll H xs (Fm.ds fs) := by
  obtain ⟨a, xs, e, ea, h⟩ := Tp.tup_inv (show Tp H v (.tuple [.str "or", .tuple (Fm.ds fs)]) from h)
  obtain ⟨x, r, e1, h1, h⟩ := h.cons_inv
  obtain ⟨y, r2, e2, h2, h⟩ := h.cons_inv
  have e3 := h.nil_inv
  obtain ⟨q, xs, e4, eq, h4⟩ := h2.tup_inv
  subst e3 e4 e2 e1
  rw [h1.str_inv] at ea
  exact ⟨a, q, xs, e, ea, eq, h4⟩
end Calm

/-! The text by places; sums. -/
namespace Calm
open PySem PySem.Spec PyProof.Rows L2
def topS (i : Nat) : Stmt := PySem.Challenge.pw_calm_k48_whole_any_paper_is_sound.main.body.getD i (.Pass ⟨0, 0, 0, 0⟩)
/-- the built-in names stand as they are -/
structure Bt (mg : Str → Option Value) : Prop where
  len : mg "len" = none
  tuple : mg "tuple" = none
  sorted : mg "sorted" = none
  isinstance : mg "isinstance" = none
  int : mg "int" = none
  bool : mg "bool" = none
  str : mg "str" = none
  all : mg "all" = none
  range : mg "range" = none
  list : mg "list" = none
  reversed : mg "reversed" = none
  abs : mg "abs" = none
  sum : mg "sum" = none
  zip : mg "zip" = none
/-- a def of the text as it stands, how it binds, its name -/
structure Rf (K : PySem.W.Frag) (mg : Str → Option Value) (x : Str) (st : Stmt) (ps : List Str) (f : Addr) (fd : FuncData) : Prop where
  F : Fun K x x st f fd
  b : Binds K fd ps []
  m : mg x = some (.ref f)
/-- a walk over one of two kinds of things -/
def tOrI (a b : TI) : TI := fun σ H R => a σ H R ∨ b σ H R
theorem pi_or {X : Cx} {tg e : Expr} {a b : TI} (h1 : PI X tg e a) (h2 : PI X tg e b) : PI X tg e (tOrI a b) :=
  ⟨fun pins s σ H R I h => h.elim (h1.run pins s σ H R I) (h2.run pins s σ H R I)⟩
theorem for_either {K : PySem.W.Frag} {a : Addr} {xs : List V} {g : TG} {tb : TS} {D : Ends} {σ : L2.St} {H : Hp} {j : Nat} (Pv : Nat → L2.St → Hp → Prop) (hσ : σ[j]? = some (some (.ref a))) (h0 : Pv 0 σ H)
    (hA : (∀ i σ' H', Pv i σ' H' → SqL K H' a xs) ∨ (∀ i σ' H', Pv i σ' H' → SqT K H' a xs))
    (hs : ∀ i x σ H, xs[i]? = some x → Pv i σ H → g x σ H fun σ2 H2 => tb { D with nx := Pv (i + 1), ct := Pv (i + 1), bk := D.nx } σ2 H2) (hd : ∀ σ H, Pv xs.length σ H → D.nx σ H) :
    tFor (tOrI (iList K (tVar j)) (iTup K (tVar j))) g tb D σ H := by
  rcases hA with hA | hA
  · exact .inl ⟨_, hσ, a, rfl, ⟨_, hA 0 σ H h0⟩, for_list Pv h0 (fun i σ' H' _ p => hA i σ' H' p) hs hd⟩
  · exact .inr ⟨_, hσ, a, rfl, ⟨_, hA 0 σ H h0⟩, for_tup Pv h0 (fun i σ' H' _ p => hA i σ' H' p) hs hd⟩
theorem seqT {K : PySem.W.Frag} {H H' : Hp} {a : Addr} {xs : List V} (e : Same H H') (h : SqT K H a xs) : SqT K H' a xs := by
  rcases h with (h | ⟨o, h⟩) | h
  · exact .inl (.inl (e _ _ h))
  · exact .inl (.inr ⟨o, e _ _ h⟩)
  · exact .inr h
/-- a comprehension over a locked dict's items -/
theorem lc_items {d : Addr} {od : Obj} {kvs : List (Key × V)} {g : TG} {tt : TT} {te : TE} {vs : List Nat} {σ : L2.St} {H1 : Hp} {D : Addr} {Qd : Hp → Prop} (Pv : Nat → Hp → Prop) (h0 : Pv 0 (upd H1 D (.lst []))) (hl : ∀ i H, Pv i H → H d = some (.frz od (.dK kvs)))
    (hs : ∀ i k v T H, kvs[i]? = some (k, v) → Pv i H → H T = none → g (.ref T) (wipe σ vs) (upd H T (.tup [kV k, v])) fun σ2 H2 => wipe σ2 vs = wipe σ vs ∧ tt σ2 H2 fun b H3 =>
      if b = true then te σ2 H3 fun y H4 => ∃ acc, H4 D = some (.lst acc) ∧ acc.length < sizeLine ∧ Pv (i + 1) (upd H4 D (.lst (acc ++ [y]))) else Pv (i + 1) H3) (hd : ∀ H, Pv kvs.length H → Qd H) :
    ∃ W : Nat → Nat → Hp → Prop, (∃ m, W 0 m (upd H1 D (.lst []))) ∧ ∀ i m H, W i m H →
      ((Iti d od kvs).stop i H ∧ Qd H) ∨ ((Iti d od kvs).go i H ∧ ∃ Nx : Hp → Prop, (∀ H', Nx H' → ∃ m', m' < m ∧ W (i + 1) m' H') ∧ ∀ x H', (Iti d od kvs).yld i H x H' → g x (wipe σ vs) H' fun σ2 H2 => wipe σ2 vs = wipe σ vs ∧ tt σ2 H2 fun b H3 =>
        if b = true then te σ2 H3 fun y H4 => ∃ acc, H4 D = some (.lst acc) ∧ acc.length < sizeLine ∧ Nx (upd H4 D (.lst (acc ++ [y]))) else Nx H3) := by
  refine ⟨fun i m H => m = kvs.length - i ∧ i ≤ kvs.length ∧ Pv i H, ⟨kvs.length, by simp, Nat.zero_le _, h0⟩, ?_⟩
  rintro i m H ⟨rfl, hi, p⟩
  have q := hl i H p
  by_cases hlt : i < kvs.length
  · refine .inr ⟨⟨q, hlt⟩, Pv (i + 1), fun H' p' => ⟨kvs.length - (i + 1), by omega, rfl, hlt, p'⟩, fun x H' y => ?_⟩
    obtain ⟨T, k, v, e, rfl, hT, rfl⟩ := y
    exact hs i k v T H e p hT
  · have e : i = kvs.length := by omega
    subst e
    exact .inl ⟨⟨q, Nat.le_refl _⟩, hd H p⟩
theorem enc_get {D : Lin} {i : Nat} {k : Key} {v : V} (h : (enc D)[i]? = some (k, v)) : ∃ p, D[i]? = some p ∧ k = Sum.inr p.1 ∧ v = .int p.2 := by
  unfold enc at h
  rw [List.getElem?_map] at h
  cases e : D[i]? with
  | none => rw [e] at h; cases h
  | some p =>
    rw [e] at h
    have h' := Option.some.inj h
    exact ⟨p, rfl, (congrArg Prod.fst h').symm, (congrArg Prod.snd h').symm⟩
def nz (l : Lin) : Lin := l.filter fun p => !decide (p.2 = 0)
theorem nz_take {D : Lin} {i : Nat} {p : Str × Int} (h : D[i]? = some p) : nz (D.take (i + 1)) = nz (D.take i) ++ (if p.2 = 0 then [] else [p]) := by
  unfold nz
  rw [List.take_add_one, h, List.filter_append]
  congr 1
  by_cases e : p.2 = 0
  · simp [e]
  · simp [e]
theorem linD_app (a b : Lin) : linD (a ++ b) = linD a ++ linD b := List.map_append
theorem good_nz {D m : Lin} (nd : (D.map (·.1)).Nodup) (p : m.Perm (nz D)) : Good m := by
  have h1 : ((nz D).map (·.1)).Nodup := nd.sublist ((List.filter_sublist (l := D)).map _)
  refine ⟨(p.map (·.1)).nodup_iff.mpr h1, fun x hx => ?_⟩
  have h2 := (List.mem_filter.mp (p.mem_iff.mp hx)).2
  simpa using h2
theorem take_lin (f : Str → Int) {ps : Lin} {i : Nat} {p : Str × Int} (h : ps[i]? = some p) : lin f (ps.take (i + 1)) = lin f (ps.take i) + p.2 * f p.1 := by
  rw [List.take_add_one, h, lin_app]
  simp [lin]
section
variable {P : Program} {w : World} {K : PySem.W.Frag} {mg : Str → Option Value} {base : Heap}
/-! ### sum_of -/
abbrev sSumOf : Stmt := topS 1
theorem scSumOf : FnScope ["number", "pairs", "book", "box", "times"] ["number", "pairs"] (defScope sSumOf) := ⟨rfl, rfl, rfl, by decide +kernel, rfl, by decide +kernel, by decide +kernel⟩
def spSumOf (K : PySem.W.Frag) : Sp := fun vs H Q _ => ∃ (n : Int) (a : Addr) (xs : List V) (ps : Lin), vs = [.int n, .ref a] ∧ (H a = some (.lst xs) ∨ H a = some (.tup xs)) ∧ TpAll H xs (linD ps) ∧ ps.length ≤ 100000 ∧
  ∀ (H' : Hp) (v : V) (s : Sm), Same H H' → Tp H' v (smD s) → s.1 = n → Good s.2 → (∀ f, lin f s.2 = lin f ps) → s.2.length ≤ ps.length → Q v H'
theorem ok_sumOf {f : Addr} {fd : FuncData} {k : Nat} (R : Rf K mg "sum_of" sSumOf ["number", "pairs"] f fd) (B : Bt mg) : FnOk P w K mg base CX0 (k + 1) f fd ["number", "pairs"] (spSumOf K) := by
  refine R.F.ok scSumOf (fun vs H Q E h => ?_) (fun cdv A outer s H vs Q E hr h => ?_)
  · obtain ⟨n, a, xs, ps, rfl, _⟩ := h
    rfl
  obtain ⟨n, a, xs, ps, rfl, hA, hT, hl, q⟩ := h
  have hu := hu_of hr
  refine ⟨_, pss_cons (ps_set (i := 2) scSumOf.nd rfl (.inl rfl) pe_dnewK)
    (pss_cons (ps_for PassesOwn.never rfl (pi_or (pi_list (pv 1)) (pi_tup (pv 1))) (pg_tup rfl (pgs_cons (pg_name (i := 3) scSumOf.nd rfl (.inl rfl)) (pgs_cons (pg_name (i := 4) scSumOf.nd rfl (.inl rfl)) pgs_nil)))
      (pss_one (ps_dput hu (pv 2) (pv 3) (pe_op op_add (pe_dget2 hu (pv 2) (pv 3) pe_int ⟨rfl, rfl, rfl, rfl⟩) (pv 4)) rfl)))
    (pss_one (ps_ret (pe_tup (pa_cons (pv 0) (pa_cons (pe_callTy call_tuple_of (by rfl) B.tuple (by decide +kernel) (pa_cons (pe_callB cr_sortedTI (by rfl) B.sorted (by decide +kernel)
      (pa_cons (pe_lock (pe_lc (own := [("box", 3), ("times", 4)]) (g := gTup K 2 (gCons (gName 3) (gCons (gName 4) gNil))) rfl scSumOf.nd (pi_items (pv 2)) (blkOk_by (own := [("box", 3), ("times", 4)]) (N := ["number", "pairs", "book", "box", "times"]) (sc := defScope sSumOf) (by decide +kernel))
        (fun _ _ _ _ _ => pg_tup rfl (pgs_cons (pg_name (i := 3) scSumOf.nd rfl (.inl rfl) (.inr rfl)) (pgs_cons (pg_name (i := 4) scSumOf.nd rfl (.inl rfl) (.inr rfl)) pgs_nil)))
        (fun _ _ _ _ _ => pts_one (pt_cmpR op_ne (pv 4) pe_int (nomark _)))
        (fun _ _ _ _ _ => pe_tup (pa_cons (pv 3) (pa_cons (pv 4) pa_nil))))) pa_nil)) pa_nil)) pa_nil)))))), ?_⟩
  refine fun d nd => ?_
  have sm0 : Same H (upd H d (.dK [])) := same_new nd _
  have nda : a ≠ d := hA.elim (fun e => ne_of_none e nd) (fun e => ne_of_none e nd)
  have hlen : xs.length = ps.length := hT.len.trans (linD_len ps)
  refine for_either (K := K) (a := a) (xs := xs) (j := 1) (fun i σ H1 => ∃ y3 y4 D, σ = [some (.int n), some (.ref a), some (.ref d), y3, y4] ∧ H1 d = some (.dK (enc D)) ∧ (D.map (·.1)).Nodup ∧ D.length ≤ i ∧ (∀ f, lin f D = lin f (ps.take i)) ∧ Same H H1) rfl
    ⟨none, none, [], rfl, upd_same, List.nodup_nil, Nat.le_refl _, fun f => rfl, sm0⟩ (hA.imp (fun e i σ' H' hp => ?_) (fun e i σ' H' hp => ?_)) (fun i x σ H1 hx hp => ?_) (fun σ H1 hp => ?_)
  · obtain ⟨_, _, _, _, _, _, _, _, sm⟩ := hp
    exact sm.seq (.of e)
  · obtain ⟨_, _, _, _, _, _, _, _, sm⟩ := hp
    exact seqT sm (.of e)
  · obtain ⟨y3, y4, D, rfl, eD, nD, lD, eL, sm⟩ := hp
    obtain ⟨e, he, tp⟩ := hT.get hx
    obtain ⟨p, hp, rfl⟩ := linD_get he
    obtain ⟨t, rfl, et⟩ := pair_inv (tp.keep (.of sm))
    have hi : i < ps.length := (List.getElem?_eq_some_iff.mp hp).1
    refine ⟨t, _, rfl, .of et, rfl, _, _, rfl, _, _, rfl, rfl, ?_⟩
    refine ⟨_, rfl, d, rfl, .inl ⟨_, .inl eD⟩, _, rfl, _, DGet.k (k := Sum.inr p.1) eD, _, rfl, getB D p.1, p.2, valV_enc p.1 D, rfl, _, rfl, _, rfl, d, _, rfl, DPut.k (k := Sum.inr p.1) eD ?_, ?_⟩
    · rw [enc, List.length_map, sizeLine_eq]
      omega
    · rw [put_enc p.1 p.2 D nD]
      refine ⟨some (.str p.1), some (.int p.2), addB D p.1 p.2, rfl, upd_same, addB_nodup _ _ D nD, Nat.le_trans (addB_len _ _ D) (Nat.succ_le_succ lD), fun f => ?_, same_upd2 sm nd⟩
      rw [addB_lin, eL, take_lin f hp]
  · obtain ⟨y3, y4, D, rfl, eD, nD, lD, eL, sm⟩ := hp
    rw [hlen] at lD eL
    rw [List.take_length] at eL
    refine ⟨_, rfl, d, _, eD, trivial, fun od => ⟨_, rfl, d, od, _, rfl, upd_same, fun D1 nD1 => ?_⟩⟩
    have ndD : D1 ≠ d := fun e => by rw [e, upd_same] at nD1; cases nD1
    have nD1' : H1 D1 = none := by rw [upd_ne ndD] at nD1; exact nD1
    have sm1 : Same H (upd H1 d (.frz od (.dK (enc D)))) := same_upd2 sm nd
    have hD1 : H D1 = none := sm.free nD1'
    refine lc_items (fun i H2 => ∃ xs, H2 D1 = some (.lst xs) ∧ H2 d = some (.frz od (.dK (enc D))) ∧ TpAll H2 xs (linD (nz (D.take i))) ∧ Same H H2) ⟨[], upd_same, ?_, .nil, same_upd2 sm1 hD1⟩ (fun i H2 hp => ?_) (fun i k v T H2 hk hp hT2 => ?_) (fun H2 hp => ?_)
    · rw [upd_ne ndD.symm, upd_same]
    · obtain ⟨_, _, e, _⟩ := hp
      exact e
    · obtain ⟨p, hpD, rfl, rfl⟩ := enc_get hk
      obtain ⟨ys, e1, e2, t2, sm2⟩ := hp
      refine ⟨T, _, rfl, .of upd_same, rfl, _, _, rfl, _, _, rfl, rfl, rfl, ?_⟩
      have neT1 : D1 ≠ T := ne_of_none e1 hT2
      have neTd : d ≠ T := ne_of_none e2 hT2
      have smT : Same H2 (upd H2 T (.tup [kV (Sum.inr p.1), .int p.2])) := same_new hT2 _
      have hi : i < D.length := (List.getElem?_eq_some_iff.mp hpD).1
      refine ⟨_, rfl, rfl, _, rfl, ?_⟩
      refine ite2 (fun c => ?_) (fun c => ?_)
      · have ez : ¬ p.2 = 0 := fun z => by simp [z] at c
        refine ⟨_, rfl, _, rfl, (by show 2 ≤ sizeLine; decide), fun r nr => ⟨ys, ?_, ?_, ys ++ [.ref r], upd_same, ?_, ?_, ?_⟩⟩
        · rw [upd_ne (ne_of_none (show (upd H2 T (.tup [kV (Sum.inr p.1), .int p.2])) D1 = some (.lst ys) by rw [upd_ne neT1]; exact e1) nr), upd_ne neT1]
          exact e1
        · have h1 := t2.len
          rw [linD_len] at h1
          have h2 : (nz (D.take i)).length ≤ (D.take i).length := List.length_filter_le _ _
          rw [List.length_take] at h2
          rw [sizeLine_eq]
          omega
        · rw [upd_ne ndD.symm, upd_ne (ne_of_none (show (upd H2 T (.tup [kV (Sum.inr p.1), .int p.2])) d = some _ by rw [upd_ne neTd]; exact e2) nr), upd_ne neTd]
          exact e2
        · have k1 : Tups (upd H2 T (.tup [kV (Sum.inr p.1), .int p.2])) (upd (upd (upd H2 T (.tup [kV (Sum.inr p.1), .int p.2])) r (.tup [kV (Sum.inr p.1), .int p.2])) D1 (.lst (ys ++ [.ref r]))) := fun b zs hb => by
            have nb : b ≠ D1 := fun e => by rw [e, upd_ne neT1, e1] at hb; cases hb
            rw [upd_ne nb]
            exact same_new nr _ _ _ hb
          rw [nz_take hpD, if_neg ez, linD_app]
          refine ((t2.keep (.of smT)).keep k1).append (.one (pair_mk ?_))
          have nr1 : r ≠ D1 := fun e => by rw [e, upd_ne neT1, e1] at nr; cases nr
          rw [upd_ne nr1, upd_same]
          rfl
        · have nr' : H r = none := (sm2.trans smT).free nr
          exact same_upd2 ((sm2.trans smT).trans (same_new nr _)) hD1
      · have ez : p.2 = 0 := by simpa using c
        refine ⟨ys, ?_, ?_, ?_, sm2.trans smT⟩
        · rw [upd_ne neT1]
          exact e1
        · rw [upd_ne neTd]
          exact e2
        · rw [nz_take hpD, if_pos ez, List.append_nil]
          exact t2.keep (.of smT)
    · obtain ⟨ys, e1, e2, t2, sm2⟩ := hp
      have el : (enc D).length = D.length := List.length_map _
      rw [el, List.take_length] at t2
      have sm3 : Same H (upd H2 d (.dK (enc D))) := same_upd2 sm2 nd
      have t3 : TpAll (upd H2 d (.dK (enc D))) ys (linD (nz D)) := t2.keep fun b zs hb => by
        have nb : b ≠ d := fun e => by rw [e, e2] at hb; cases hb
        rw [upd_ne nb]
        exact hb
      refine ⟨e2, D1, ys, rfl, .of (by rw [upd_ne ndD]; exact e1), fun x hx => ?_, fun zs r pz nr => ?_⟩
      · obtain ⟨j, hj⟩ := List.getElem?_of_mem hx
        obtain ⟨e, h1, h2⟩ := t3.get hj
        obtain ⟨p, _, rfl⟩ := linD_get h1
        obtain ⟨t, et, ht⟩ := pair_inv h2
        exact ⟨t, p.1, p.2, et, ht⟩
      · obtain ⟨m, pm, tm⟩ := t3.perm pz
        refine ⟨r, zs, rfl, .inl ⟨.of upd_same, fun l nl => ⟨(by show 2 ≤ sizeLine; decide), fun u nu => ?_⟩⟩⟩
        have k1 := same_new nr (.lst zs)
        have k2 := same_new nl (.tup zs)
        have k3 := same_new nu (.tup [.int n, .ref l])
        refine q _ (.ref u) (n, m) (((sm3.trans k1).trans k2).trans k3) (sm_mk (q := l) (xs := zs) upd_same ?_ ?_) rfl (good_nz nD pm) (fun f => ?_) ?_
        · exact k3 _ _ upd_same
        · exact ((tm.keep (.of k1)).keep (.of k2)).keep (.of k3)
        · show lin f m = _
          rw [lin_perm f pm]
          exact (lin_filter f D).trans (eL f)
        · show m.length ≤ _
          rw [pm.length_eq]
          exact Nat.le_trans (List.length_filter_le _ _) lD
end
end Calm

namespace Calm
open PySem PySem.Spec PyProof.Rows L2
section
variable {P : Program} {w : World} {K : PySem.W.Frag} {mg : Str → Option Value} {base : Heap}
/-! ### plus, by -/
abbrev sPlus : Stmt := topS 2
theorem scPlus : FnScope ["one", "other"] ["one", "other"] (defScope sPlus) := ⟨rfl, rfl, rfl, by decide +kernel, rfl, by decide +kernel, by decide +kernel⟩
def spPlus (K : PySem.W.Frag) : Sp := fun vs H Q _ => ∃ (v1 v2 : V) (s1 s2 : Sm), vs = [v1, v2] ∧ Tp H v1 (smD s1) ∧ Tp H v2 (smD s2) ∧ s1.2.length ≤ 50000 ∧ s2.2.length ≤ 50000 ∧
  ∀ (H' : Hp) (v : V) (s : Sm), Same H H' → Tp H' v (smD s) → s.1 = s1.1 + s2.1 → Good s.2 → (∀ f, lin f s.2 = lin f s1.2 + lin f s2.2) → s.2.length ≤ s1.2.length + s2.2.length → Q v H'
theorem ok_plus {f fS : Addr} {fd fdS : FuncData} {k : Nat} (R : Rf K mg "plus" sPlus ["one", "other"] f fd) (RS : Rf K mg "sum_of" sSumOf ["number", "pairs"] fS fdS)
    (G : FnOk P w K mg base CX0 k fS fdS ["number", "pairs"] (spSumOf K)) : FnOk P w K mg base CX0 (k + 1) f fd ["one", "other"] (spPlus K) := by
  refine R.F.ok scPlus (fun vs H Q E h => ?_) (fun cdv A outer s H vs Q E hr h => ?_)
  · obtain ⟨v1, v2, s1, s2, rfl, _⟩ := h
    rfl
  obtain ⟨v1, v2, s1, s2, rfl, t1, t2, l1, l2, q⟩ := h
  obtain ⟨a1, q1, x1, rfl, ea1, eq1, p1⟩ := sm_inv t1
  obtain ⟨a2, q2, x2, rfl, ea2, eq2, p2⟩ := sm_inv t2
  refine ⟨_, pss_one (ps_ret (pe_call G hr rfl RS.m RS.F.kp RS.b .nil pass0 (pa_cons (pe_op op_add (pe_ix ix_tup (pv 0) pe_int (fun _ _ => rfl)) (pe_ix ix_tup (pv 1) pe_int (fun _ _ => rfl)))
    (pa_cons (pe_op op_catA (pe_ix ix_tup (pv 0) pe_int (fun _ _ => rfl)) (pe_ix ix_tup (pv 1) pe_int (fun _ _ => rfl))) pa_nil)))), ?_⟩
  have e1 := p1.len
  have e2 := p2.len
  rw [linD_len] at e1 e2
  have fin : ∀ (H1 : Hp) (b : Addr) (zs : List V), Same H H1 → H1 b = some (.tup zs) → TpAll H1 zs (linD (s1.2 ++ s2.2)) → spSumOf K ([.int (s1.1 + s2.1), .ref b] ++ []) H1 Q E0 := fun H1 b zs sm eb tb =>
    ⟨_, b, zs, _, rfl, .inr eb, tb, by rw [List.length_append]; omega, fun H' v s sm' tv en g el ll => q H' v s (sm.trans sm') tv en g (fun f => by rw [el f, lin_app]) (by rw [List.length_append] at ll; exact ll)⟩
  refine ⟨_, rfl, a1, _, 0, _, rfl, rfl, .of ea1, atI_nat (j := 0) rfl, _, rfl, a2, _, 0, _, rfl, rfl, .of ea2, atI_nat (j := 0) rfl, s1.1, s2.1, rfl, rfl,
    _, rfl, a1, _, 1, _, rfl, rfl, .of ea1, atI_nat (j := 1) rfl, _, rfl, a2, _, 1, _, rfl, rfl, .of ea2, atI_nat (j := 1) rfl, q1, q2, x1, x2, rfl, rfl, .of eq1, .of eq2, ?_, fun e => ?_, fun n e => ?_, fun n n' p np => ?_⟩
  · rw [e1, e2, sizeLine_eq]
    omega
  · refine fin H q2 x2 (.refl H) eq2 ?_
    have z : s1.2 = [] := List.eq_nil_of_length_eq_zero (by rw [← e1, e]; rfl)
    rw [z]
    exact p2
  · refine fin H q1 x1 (.refl H) eq1 ?_
    have z : s2.2 = [] := List.eq_nil_of_length_eq_zero (by rw [← e2, e]; rfl)
    rw [z, List.append_nil]
    exact p1
  · refine fin _ p (x1 ++ x2) (same_new np _) upd_same ?_
    rw [linD_app]
    exact (p1.append p2).keep (.of (same_new np _))
abbrev sBy : Stmt := topS 3
theorem scBy : FnScope ["one", "times", "box", "many"] ["one", "times"] (defScope sBy) := ⟨rfl, rfl, rfl, by decide +kernel, rfl, by decide +kernel, by decide +kernel⟩
def spBy (K : PySem.W.Frag) : Sp := fun vs H Q _ => ∃ (v1 : V) (s1 : Sm) (t : Int), vs = [v1, .int t] ∧ Tp H v1 (smD s1) ∧ (-(2 ^ 60) < t ∧ t < 2 ^ 60) ∧ s1.2.length ≤ 50000 ∧
  ∀ (H' : Hp) (v : V) (s : Sm), Same H H' → Tp H' v (smD s) → s.1 = s1.1 * t → Good s.2 → (∀ f, lin f s.2 = t * lin f s1.2) → s.2.length ≤ s1.2.length → Q v H'
theorem ok_by {f fS : Addr} {fd fdS : FuncData} {k : Nat} (R : Rf K mg "by" sBy ["one", "times"] f fd) (RS : Rf K mg "sum_of" sSumOf ["number", "pairs"] fS fdS)
    (G : FnOk P w K mg base CX0 k fS fdS ["number", "pairs"] (spSumOf K)) : FnOk P w K mg base CX0 (k + 1) f fd ["one", "times"] (spBy K) := by
  refine R.F.ok scBy (fun vs H Q E h => ?_) (fun cdv A outer s H vs Q E hr h => ?_)
  · obtain ⟨v1, s1, t, rfl, _⟩ := h
    rfl
  obtain ⟨v1, s1, t, rfl, t1, ⟨b1, b2⟩, l1, q⟩ := h
  obtain ⟨a1, q1, x1, rfl, ea1, eq1, p1⟩ := sm_inv t1
  refine ⟨_, pss_one (ps_ret (pe_call G hr rfl RS.m RS.F.kp RS.b .nil pass0 (pa_cons (pe_op op_mul (pe_ix ix_tup (pv 0) pe_int (fun _ _ => rfl)) (pv 1))
    (pa_cons (pe_lc (own := [("box", 2), ("many", 3)]) (g := gTup K 2 (gCons (gName 2) (gCons (gName 3) gNil))) rfl scBy.nd (pi_tup (pe_ix ix_tup (pv 0) pe_int (fun _ _ => rfl)))
      (blkOk_by (own := [("box", 2), ("many", 3)]) (N := ["one", "times", "box", "many"]) (sc := defScope sBy) (by decide +kernel))
      (fun _ _ _ _ _ => pg_tup (n := 2) rfl (pgs_cons (pg_name (i := 2) scBy.nd rfl (.inl rfl) (.inr rfl)) (pgs_cons (pg_name (i := 3) scBy.nd rfl (.inl rfl) (.inr rfl)) pgs_nil)))
      (fun _ _ _ _ _ => pts_nil)
      (fun _ _ _ _ _ => pe_tup (pa_cons (pv 2) (pa_cons (pe_op op_mul (pv 3) (pv 1)) pa_nil)))) pa_nil)))), ?_⟩
  have e1 := p1.len
  rw [linD_len] at e1
  have bt : -(2 ^ 64) < t ∧ t < 2 ^ 64 := by omega
  refine ⟨_, rfl, a1, _, 0, _, rfl, rfl, .of ea1, atI_nat (j := 0) rfl, _, rfl, s1.1, t, rfl, rfl, .inr bt, ?_⟩
  refine ⟨_, rfl, a1, _, 1, _, rfl, rfl, .of ea1, atI_nat (j := 1) rfl, q1, rfl, ⟨x1, .of eq1⟩, fun D nD => ?_⟩
  refine lc_tup (K := K) (a := q1) (xs := x1) (fun i H2 => ∃ ys, H2 D = some (.lst ys) ∧ TpAll H2 ys (linD (scale t (s1.2.take i))) ∧ Same H H2) ⟨[], upd_same, .nil, same_new nD _⟩ (fun i H2 _ hp => ?_) (fun i x H2 hx hp => ?_) (fun H2 hp => ?_)
  · obtain ⟨_, _, _, sm⟩ := hp
    exact .of (sm _ _ eq1)
  · obtain ⟨ys, ed, ty, sm⟩ := hp
    obtain ⟨e, he, tp⟩ := p1.get hx
    obtain ⟨p, hp, rfl⟩ := linD_get he
    obtain ⟨c, rfl, ec⟩ := pair_inv (tp.keep (.of sm))
    refine ⟨c, _, rfl, .of ec, rfl, _, _, rfl, _, _, rfl, rfl, rfl, ?_⟩
    refine ⟨_, rfl, _, rfl, _, rfl, p.2, t, rfl, rfl, .inr bt, (by show 2 ≤ sizeLine; decide), fun r nr => ⟨ys, ?_, ?_, ys ++ [.ref r], upd_same, ?_, ?_⟩⟩
    · exact same_new nr _ _ _ ed
    · have h1 := ty.len
      have h2 : (linD (scale t (s1.2.take i))).length ≤ s1.2.length := by
        rw [linD_len, scale, List.length_map, List.length_take]
        exact Nat.min_le_right _ _
      rw [sizeLine_eq]
      omega
    · have k1 : Tups H2 (upd (upd H2 r (.tup [.str p.1, .int (p.2 * t)])) D (.lst (ys ++ [.ref r]))) := fun b zs hb => by
        have nb : b ≠ D := fun e => by rw [e, ed] at hb; cases hb
        rw [upd_ne nb]
        exact same_new nr _ _ _ hb
      have e3 : linD (scale t (s1.2.take (i + 1))) = linD (scale t (s1.2.take i)) ++ [.tuple [.str p.1, .int (p.2 * t)]] := by
        rw [List.take_add_one, hp]
        simp [scale, linD]
      rw [e3]
      refine (ty.keep k1).append (.one (pair_mk ?_))
      rw [upd_ne (fun e => by rw [e, ed] at nr; cases nr), upd_same]
    · exact same_upd2 (sm.trans (same_new nr _)) nD
  · obtain ⟨ys, ed, ty, sm⟩ := hp
    rw [e1, List.take_length] at ty
    refine ⟨_, D, ys, _, rfl, .inl ed, ty, by rw [scale, List.length_map]; omega, fun H' v s sm' tv en g el ll => q H' v s (sm.trans sm') tv en g (fun f => by rw [el f, lin_scale]) (by rw [scale, List.length_map] at ll; exact ll)⟩
end
end Calm

namespace Calm
open PySem PySem.Spec PyProof.Rows L2
section
variable {P : Program} {w : World} {K : PySem.W.Frag} {mg : Str → Option Value} {base : Heap}
/-! ### is_number, is_row -/
abbrev sNum : Stmt := topS 6
theorem scNum : FnScope ["thing"] ["thing"] (defScope sNum) := ⟨rfl, rfl, rfl, by decide +kernel, rfl, by decide +kernel, by decide +kernel⟩
def spNum : Sp := fun vs H Q _ => ∃ i : Int, vs = [.int i] ∧ Q (.bl true) H
theorem ok_num {f : Addr} {fd : FuncData} {k : Nat} (R : Rf K mg "is_number" sNum ["thing"] f fd) (B : Bt mg) : FnOk P w K mg base CX0 (k + 1) f fd ["thing"] spNum := by
  refine R.F.ok scNum (fun vs H Q E h => ?_) (fun cdv A outer s H vs Q E hr h => ?_)
  · obtain ⟨i, rfl, _⟩ := h
    rfl
  obtain ⟨i, rfl, q⟩ := h
  refine ⟨_, pss_one (ps_ret (pe_and (pe_callB call_isi (by rfl) B.isinstance (by decide +kernel) (pa_cons (pv 0) (pa_cons (pe_bltn (v := .ty "int") (u := .type "int") (by rfl) B.int (by decide +kernel) rfl) pa_nil)))
    (pe_one (pe_not (pe_callB call_isi (by rfl) B.isinstance (by decide +kernel) (pa_cons (pv 0) (pa_cons (pe_bltn (v := .ty "bool") (u := .type "bool") (by rfl) B.bool (by decide +kernel) rfl) pa_nil))))))), ?_⟩
  refine ⟨_, rfl, _, _, _, _, true, rfl, .ty _, .base (.int i), kit_ty (by decide +kernel), true, rfl, iteT ?_⟩
  exact ⟨_, rfl, _, _, _, _, false, rfl, .ty _, .base (.int i), kit_ty (by decide +kernel), false, rfl, q⟩
abbrev sRow : Stmt := topS 7
theorem scRow : FnScope ["thing", "many", "one"] ["thing", "many"] (defScope sRow) := ⟨rfl, rfl, rfl, by decide +kernel, rfl, by decide +kernel, by decide +kernel⟩
def spRow (K : PySem.W.Frag) : Sp := fun vs H Q _ => ∃ (a : Addr) (ns : List Int) (m : Int), vs = [.ref a, .int m] ∧ H a = some (.tup (ns.map V.int)) ∧ ns.length ≤ 1000 ∧ ∀ H', Same H H' → Q (.bl (decide ((ns.length : Int) = m))) H'
theorem ok_row {f fN : Addr} {fd fdN : FuncData} {k : Nat} (R : Rf K mg "is_row" sRow ["thing", "many"] f fd) (B : Bt mg) (RN : Rf K mg "is_number" sNum ["thing"] fN fdN) (G : FnOk P w K mg base CX0 k fN fdN ["thing"] spNum) :
    FnOk P w K mg base CX0 (k + 1) f fd ["thing", "many"] (spRow K) := by
  refine R.F.ok scRow (fun vs H Q E h => ?_) (fun cdv A outer s H vs Q E hr h => ?_)
  · obtain ⟨a, ns, m, rfl, _⟩ := h
    rfl
  obtain ⟨a, ns, m, rfl, ea, hl, q⟩ := h
  refine ⟨_, pss_one (ps_ret (pe_and (pe_callB call_isi (by rfl) B.isinstance (by decide +kernel) (pa_cons (pv 0) (pa_cons (pe_bltn (v := .ty "tuple") (u := .type "tuple") (by rfl) B.tuple (by decide +kernel) rfl) pa_nil)))
    (pe_and (pe_cmpR op_eq (pe_callB call_len_seq (by rfl) B.len PySem.boot_len (pa_cons (pv 0) pa_nil)) (pv 1) (nomark _))
    (pe_one (pe_callB (cr_all rfl) (by rfl) B.all (by decide +kernel) (pa_cons
      (pe_lc (own := [("one", 2)]) (g := gName 2) rfl scRow.nd (pi_tup (pv 0)) (blkOk_by (own := [("one", 2)]) (N := ["thing", "many", "one"]) (sc := defScope sRow) (by decide +kernel))
        (fun _ _ _ _ _ => pg_name (i := 2) scRow.nd rfl (.inl rfl) (.inr rfl)) (fun _ _ _ _ _ => pts_nil)
        (fun _ _ _ _ _ => pe_call G hr (by rfl) RN.m RN.F.kp RN.b .nil pass0 (pa_cons (pv 2) pa_nil))) pa_nil)))))), ?_⟩
  have el : (ns.map V.int).length = ns.length := List.length_map _
  refine ⟨_, rfl, _, _, _, _, true, rfl, .ty _, .base (.tup ea), kit_ty (by decide +kernel), true, rfl, iteT ?_⟩
  refine ⟨_, rfl, a, _, rfl, .inr (.of ea), _, rfl, rfl, _, rfl, ite2 (fun c => ?_) (fun c => ?_)⟩
  · have e1 : (((ns.map V.int).length : Nat) : Int) = m := by simpa using c
    rw [el] at e1
    have e2 : decide ((ns.length : Int) = m) = true := decide_eq_true e1
    refine ⟨_, rfl, a, rfl, ⟨_, .of ea⟩, fun D nD => ?_⟩
    refine lc_tup (K := K) (a := a) (xs := ns.map V.int) (fun i H2 => H2 D = some (.lst ((List.replicate i true).map V.bl)) ∧ Same H H2) ⟨upd_same, same_new nD _⟩ (fun i H2 _ hp => .of (hp.2 _ _ ea)) (fun i x H2 hx hp => ?_) (fun H2 hp => ?_)
    · obtain ⟨ed, sm⟩ := hp
      have hi : i < ns.length := by rw [← el]; exact (List.getElem?_eq_some_iff.mp hx).1
      rw [List.getElem?_map, List.getElem?_eq_getElem hi] at hx
      obtain rfl : V.int ns[i] = x := Option.some.inj hx
      refine ⟨rfl, _, rfl, _, rfl, _, ed, ?_, ?_, same_upd2 sm nD⟩
      · rw [List.length_map, List.length_replicate, sizeLine_eq]
        omega
      · rw [upd_same, List.replicate_succ', List.map_append]
        rfl
    · obtain ⟨ed, sm⟩ := hp
      refine ⟨D, _, rfl, .of ed, ?_⟩
      have e3 : (List.replicate (ns.map V.int).length true).all id = true := by simp
      rw [e3]
      rw [← e2]
      exact q H2 sm
  · have e1 : ¬ (((ns.map V.int).length : Nat) : Int) = m := by simpa using c
    rw [el] at e1
    have e2 : decide ((ns.length : Int) = m) = false := decide_eq_false e1
    have q' := q H (.refl H)
    rw [e2] at q'
    have e3 : decide (V.int (((ns.map V.int).length : Nat) : Int) = V.int m) = false := Bool.eq_false_iff.mpr c
    show Q (.bl false) H
    exact q'
end
end Calm

namespace Calm
open PySem PySem.Spec PyProof.Rows L2
mutual
theorem lay_len : ∀ (F : Fm) (p : St2), (lay F p).1.length + (lay F p).2.length ≤ p.1.length + p.2.length + F.sz
  | .most s, p => by simp [lay, Fm.sz]; omega
  | .rest s m, p => by simp [lay, Fm.sz]; omega
  | .or fs, p => by simp [lay, Fm.sz]; omega
  | .and fs, p => by
    have := lays_len fs p
    simp only [lay, Fm.sz]
    omega
theorem lays_len : ∀ (fs : List Fm) (p : St2), (lays fs p).1.length + (lays fs p).2.length ≤ p.1.length + p.2.length + Fm.szs fs
  | [], p => by simp [lays, Fm.szs]
  | F :: r, p => by
    have h1 := lay_len F p
    have h2 := lays_len r (lay F p)
    simp only [lays, Fm.szs]
    omega
end
theorem szs_app : ∀ a b : List Fm, Fm.szs (a ++ b) = Fm.szs a + Fm.szs b
  | [], b => by simp [Fm.szs]
  | F :: r, b => by
    have h := szs_app r b
    simp only [List.cons_append, Fm.szs, h]
    omega
theorem szs_take {fs : List Fm} {i : Nat} {F : Fm} (h : fs[i]? = some F) : Fm.szs (fs.take i) + F.sz ≤ Fm.szs fs := by
  have e : fs.take (i + 1) ++ fs.drop (i + 1) = fs := List.take_append_drop _ _
  have e2 : fs.take (i + 1) = fs.take i ++ [F] := by rw [List.take_add_one, h]; rfl
  have e3 : Fm.szs (fs.take i ++ [F] ++ fs.drop (i + 1)) = Fm.szs fs := by rw [← e2, e]
  rw [szs_app, szs_app] at e3
  simp only [Fm.szs] at e3
  omega
theorem lays_take {fs : List Fm} {i : Nat} {F : Fm} (p : St2) (h : fs[i]? = some F) : lays (fs.take (i + 1)) p = lay F (lays (fs.take i) p) := by
  have e2 : fs.take (i + 1) = fs.take i ++ [F] := by rw [List.take_add_one, h]; rfl
  rw [e2, lays_app]
  rfl
theorem w_mo : ("most" : Str) ≠ "or" := by decide +kernel
theorem w_ro : ("rest" : Str) ≠ "or" := by decide +kernel
theorem w_ao : ("and" : Str) ≠ "or" := by decide +kernel
theorem w_ma : ("most" : Str) ≠ "and" := by decide +kernel
theorem w_ra : ("rest" : Str) ≠ "and" := by decide +kernel
theorem w_oa : ("or" : Str) ≠ "and" := by decide +kernel
def orD (fs : List Fm) : PyData := .tuple (Fm.ds fs)
theorem map_get {α : Type} {g : α → PyData} {l : List α} {i : Nat} {d : PyData} (h : (l.map g)[i]? = some d) : ∃ x, l[i]? = some x ∧ d = g x := by
  rw [List.getElem?_map] at h
  cases e : l[i]? with
  | none => rw [e] at h; cases h
  | some p =>
    rw [e] at h
    exact ⟨p, rfl, (Option.some.inj h).symm⟩
section
variable {P : Program} {w : World} {K : PySem.W.Frag} {mg : Str → Option Value} {base : Heap}
/-! ### lay_in -/
abbrev sLay : Stmt := topS 8
theorem scLay : FnScope ["form", "atoms", "ors", "one"] ["form", "atoms", "ors"] (defScope sLay) := ⟨rfl, rfl, rfl, by decide +kernel, rfl, by decide +kernel, by decide +kernel⟩
def spLay (n : Nat) : Sp := fun vs H Q _ => ∃ (v : V) (a o : Addr) (F : Fm) (A : List Fm) (O : List (List Fm)), vs = [v, .ref a, .ref o] ∧ Tp H v F.d ∧ LstD H a (A.map Fm.d) ∧ LstD H o (O.map orD) ∧ F.sz ≤ n ∧ A.length + O.length + F.sz ≤ 1000000 ∧
  ∀ (H' : Hp) (r a' o' : Addr), Same H H' → H' r = some (.tup [.ref a', .ref o']) → LstD H' a' ((lay F (A, O)).1.map Fm.d) → LstD H' o' ((lay F (A, O)).2.map orD) → Q (.ref r) H'
theorem ok_lay1 {f : Addr} {fd : FuncData} {n : Nat} (R : Rf K mg "lay_in" sLay ["form", "atoms", "ors"] f fd) (G : FnOk P w K mg base CX0 n f fd ["form", "atoms", "ors"] (spLay n)) :
    FnOk P w K mg base CX0 (n + 1) f fd ["form", "atoms", "ors"] (spLay (n + 1)) := by
  refine R.F.ok scLay (fun vs H Q E h => ?_) (fun cdv A' outer s H vs Q E hr h => ?_)
  · obtain ⟨v, a, o, F, A, O, rfl, _⟩ := h
    rfl
  obtain ⟨v, a, o, F, A, O, rfl, tF, ⟨xa, ea, ta⟩, ⟨xo, eo, to⟩, hsz, hl, q⟩ := h
  refine ⟨_, pss_cons (ps_if (pt_cmpR op_eq (pe_ix ix_tup (pv 0) pe_int (fun _ _ => rfl)) pe_str (nomark _))
      (pss_one (ps_ret (pe_tup (pa_cons (pv 1) (pa_cons (pe_op op_cat (pv 2) (pe_lst (pa_cons (pe_ix ix_tup (pv 0) pe_int (fun _ _ => rfl)) pa_nil))) pa_nil))))) pss_nil)
    (pss_cons (ps_if (pt_cmpR op_eq (pe_ix ix_tup (pv 0) pe_int (fun _ _ => rfl)) pe_str (nomark _))
      (pss_cons (ps_for PassesOwn.never rfl (pi_tup (pe_ix ix_tup (pv 0) pe_int (fun _ _ => rfl))) (pg_name (i := 3) scLay.nd rfl (.inl rfl))
        (pss_one (ps_asg (pe_call G hr rfl R.m R.F.kp R.b .nil pass0 (pa_cons (pv 3) (pa_cons (pv 1) (pa_cons (pv 2) pa_nil))))
          (pg_tup (n := 2) rfl (pgs_cons (pg_name (i := 1) scLay.nd rfl (.inl rfl)) (pgs_cons (pg_name (i := 2) scLay.nd rfl (.inl rfl)) pgs_nil))))))
      (pss_one (ps_ret (pe_tup (pa_cons (pv 1) (pa_cons (pv 2) pa_nil)))))) pss_nil)
    (pss_one (ps_ret (pe_tup (pa_cons (pe_op op_cat (pv 1) (pe_lst (pa_cons (pv 0) pa_nil))) (pa_cons (pv 2) pa_nil)))))), ?_⟩
  have la := ta.len
  have lo := to.len
  rw [List.length_map] at la lo
  obtain ⟨c, x, r, rfl, ec⟩ := fm_inv tF
  -- an atom is put behind the atoms
  have atom : lay F (A, O) = (A ++ [F], O) → ∃ (u : List V), u = xa ++ [.ref c] ∧ ∀ (H1 : Hp) (b t : Addr), Same H H1 → H1 b = some (.lst u) → H1 t = some (.tup [.ref b, .ref o]) → Q (.ref t) H1 := fun e =>
    ⟨_, rfl, fun H1 b t sm eb et => q H1 t b o sm et ⟨_, eb, by
      rw [e, List.map_append]
      exact (ta.keep (.of sm)).append (.one (tF.keep (.of sm)))⟩ ⟨xo, sm _ _ eo, by
      rw [e]
      exact to.keep (.of sm)⟩⟩
  refine ⟨_, rfl, c, _, 0, _, rfl, rfl, .of ec, atI_nat (j := 0) rfl, rfl, _, rfl, ite2 (fun e => ?_) (fun e => ?_)⟩
  · have hw : F.word = "or" := by simpa using e
    cases F with
    | most s => exact absurd hw w_mo
    | rest s m => exact absurd hw w_ro
    | and fs => exact absurd hw w_ao
    | or fs =>
      obtain ⟨c', q', ys, e1, ec', eq', ty⟩ := or_inv tF
      cases e1
      refine ⟨_, rfl, _, rfl, _, rfl, c, _, 1, _, rfl, rfl, .of ec', atI_nat (j := 1) rfl, (by show 1 ≤ sizeLine; decide), fun p np => ?_⟩
      have s1 := same_new np (.lst [.ref q'])
      refine ⟨o, p, xo, _, rfl, rfl, s1 _ _ eo, upd_same, ?_, fun u nu => ⟨(by show 2 ≤ sizeLine; decide), fun t nt => ?_⟩⟩
      · rw [sizeLine_eq, lo]
        simp only [List.length_singleton]
        simp only [Fm.sz] at hl
        omega
      · have s2 := same_new nu (.lst (xo ++ [.ref q']))
        have s3 := same_new nt (.tup [.ref a, .ref u])
        have sm := (s1.trans s2).trans s3
        refine q _ t a u sm upd_same ⟨xa, sm _ _ ea, ta.keep (.of sm)⟩ ⟨_, s3 _ _ upd_same, ?_⟩
        show TpAll _ _ ((O ++ [fs]).map orD)
        rw [List.map_append]
        exact (to.keep (.of sm)).append (.one (.tup (sm _ _ eq') (ty.keep (.of sm))))
  refine ⟨_, rfl, c, _, 0, _, rfl, rfl, .of ec, atI_nat (j := 0) rfl, rfl, _, rfl, ite2 (fun e' => ?_) (fun e' => ?_)⟩
  · have hw : F.word = "and" := by simpa using e'
    cases F with
    | most s => exact absurd hw w_ma
    | rest s m => exact absurd hw w_ra
    | or fs => exact absurd hw w_oa
    | and fs =>
      obtain ⟨c', q', ys, e1, ec', eq', ty⟩ := and_inv tF
      cases e1
      rw [ds_eq] at ty
      have ly := ty.len
      rw [List.length_map] at ly
      refine ⟨_, rfl, c, _, 1, _, rfl, rfl, .of ec', atI_nat (j := 1) rfl, q', rfl, ⟨ys, .of eq'⟩, ?_⟩
      refine for_tup (K := K) (xs := ys) (fun i σ H1 => ∃ y3 a1 o1, σ = [some (.ref c), some (.ref a1), some (.ref o1), y3] ∧ Same H H1 ∧ LstD H1 a1 ((lays (fs.take i) (A, O)).1.map Fm.d) ∧ LstD H1 o1 ((lays (fs.take i) (A, O)).2.map orD))
        ⟨none, a, o, rfl, .refl H, ⟨xa, ea, ta⟩, ⟨xo, eo, to⟩⟩ (fun i σ H1 _ hp => ?_) (fun i z σ H1 hz hp => ?_) (fun σ H1 hp => ?_)
      · obtain ⟨_, _, _, _, sm, _⟩ := hp
        exact .of (sm _ _ eq')
      · obtain ⟨y3, a1, o1, rfl, sm, la1, lo1⟩ := hp
        obtain ⟨d, hd, tz⟩ := ty.get hz
        obtain ⟨G1, hG, rfl⟩ := map_get hd
        have h1 := szs_take hG
        have h2 := lays_len (fs.take i) (A, O)
        simp only [Fm.sz] at hsz hl
        simp only at h2
        refine ⟨_, rfl, _, rfl, _, rfl, z, a1, o1, G1, _, _, rfl, tz.keep (.of sm), la1, lo1, by omega, by omega, fun H2 t a2 o2 sm2 et la2 lo2 => ?_⟩
        refine ⟨t, _, rfl, .of et, rfl, _, _, rfl, _, _, rfl, rfl, some z, a2, o2, rfl, sm.trans sm2, ?_, ?_⟩
        · rw [lays_take _ hG]
          exact la2
        · rw [lays_take _ hG]
          exact lo2
      · obtain ⟨y3, a1, o1, rfl, sm, la1, lo1⟩ := hp
        rw [ly, List.take_length] at la1 lo1
        refine ⟨_, rfl, _, rfl, (by show 2 ≤ sizeLine; decide), fun t nt => ?_⟩
        have s3 := same_new nt (.tup [.ref a1, .ref o1])
        exact q _ t a1 o1 (sm.trans s3) upd_same (la1.keep s3) (lo1.keep s3)
  have he : lay F (A, O) = (A ++ [F], O) := by
    cases F with
    | most s => rfl
    | rest s m => rfl
    | and fs => exact absurd (show decide (V.str (Fm.and fs).word = V.str "and") = true from decide_eq_true rfl) e'
    | or fs => exact absurd (show decide (V.str (Fm.or fs).word = V.str "or") = true from decide_eq_true rfl) e
  obtain ⟨u, rfl, fin⟩ := atom he
  refine ⟨_, rfl, _, rfl, (by show 1 ≤ sizeLine; decide), fun p np => ?_⟩
  have s1 := same_new np (.lst [.ref c])
  refine ⟨a, p, xa, _, rfl, rfl, s1 _ _ ea, upd_same, ?_, fun u nu => ⟨_, rfl, (by show 2 ≤ sizeLine; decide), fun t nt => ?_⟩⟩
  · have := sz_pos F
    rw [sizeLine_eq, la]
    simp only [List.length_singleton]
    omega
  · have s2 := same_new nu (.lst (xa ++ [.ref c]))
    have s3 := same_new nt (.tup [.ref u, .ref o])
    exact fin _ u t ((s1.trans s2).trans s3) (s3 _ _ upd_same) upd_same
theorem ok_lay {f : Addr} {fd : FuncData} (R : Rf K mg "lay_in" sLay ["form", "atoms", "ors"] f fd) : ∀ n : Nat, FnOk P w K mg base CX0 n f fd ["form", "atoms", "ors"] (spLay n)
  | 0 => by
    have no : ∀ vs H Q E, ¬ spLay 0 vs H Q E := fun vs H Q E h => by
      obtain ⟨v, a, o, F, A, O, _, _, _, _, h1, _⟩ := h
      have := sz_pos F
      omega
    exact ⟨fun vs H Q E h => absurd h (no vs H Q E), fun A outer s H args us vs Q E _ _ _ _ h => absurd h (no vs H Q E)⟩
  | n + 1 => ok_lay1 R (ok_lay R n)
/-! ### atom_at -/
abbrev sAtom : Stmt := topS 9
theorem scAtom : FnScope ["atoms", "place", "word"] ["atoms", "place", "word"] (defScope sAtom) := ⟨rfl, rfl, rfl, by decide +kernel, rfl, by decide +kernel, by decide +kernel⟩
def IsAt (A : List Fm) (i : Int) (wd : Str) (F : Fm) : Prop := 0 ≤ i ∧ A[i.toNat]? = some F ∧ F.word = wd
def spAtom : Sp := fun vs H Q _ => ∃ (a : Addr) (i : Int) (wd : Str) (A : List Fm), vs = [.ref a, .int i, .str wd] ∧ LstD H a (A.map Fm.d) ∧
  (∀ v F, IsAt A i wd F → Tp H v F.d → Q v H) ∧ ((∀ F, ¬ IsAt A i wd F) → Q .non H)
theorem ok_atom {f : Addr} {fd : FuncData} {k : Nat} (R : Rf K mg "atom_at" sAtom ["atoms", "place", "word"] f fd) (B : Bt mg) : FnOk P w K mg base CX0 (k + 1) f fd ["atoms", "place", "word"] spAtom := by
  refine R.F.ok scAtom (fun vs H Q E h => ?_) (fun cdv A' outer s H vs Q E hr h => ?_)
  · obtain ⟨a, i, wd, A, rfl, _⟩ := h
    rfl
  obtain ⟨a, i, wd, A, rfl, ⟨xa, ea, ta⟩, q1, q2⟩ := h
  have la := ta.len
  rw [List.length_map] at la
  refine ⟨_, pss_cons (ps_if (PW.pt (pw_and (pt_chain op_le op_lt pe_int (pv 1) (pe_callB call_len_seq (by rfl) B.len PySem.boot_len (pa_cons (pv 0) pa_nil)))
      (pw_and1 (pt_cmpR op_eq (pe_ix ix_tup (pe_ix ix_list (pv 0) (pv 1) (fun _ _ => rfl)) pe_int (fun _ _ => rfl)) (pv 2) (nomark _)))))
    (pss_one (ps_ret (pe_ix ix_list (pv 0) (pv 1) (fun _ _ => rfl)))) pss_nil) (pss_one (ps_ret pe_non)), ?_⟩
  refine ⟨_, rfl, 0, i, rfl, rfl, _, rfl, ite2 (fun c => ?_) (fun c => ?_)⟩
  · have h0 : 0 ≤ i := of_decide_eq_true c
    refine ⟨_, rfl, a, _, rfl, .inl (.of ea), _, _, rfl, rfl, _, rfl, ite2 (fun c2 => ?_) (fun c2 => ?_)⟩
    · have h1 : i < ((xa.length : Nat) : Int) := of_decide_eq_true c2
      have hi : i.toNat < xa.length := by omega
      have ei : i = ((i.toNat : Nat) : Int) := by omega
      obtain ⟨d, hd, tv⟩ := ta.get (List.getElem?_eq_getElem hi)
      obtain ⟨F, hF, rfl⟩ := map_get hd
      obtain ⟨c1, x, r, ev, ec⟩ := fm_inv tv
      have hat : atI xa i = some xa[i.toNat] := at_of ei (List.getElem?_eq_getElem hi)
      rw [ev] at hat tv
      refine ⟨_, rfl, _, rfl, a, _, i, _, rfl, rfl, .of ea, hat, c1, _, 0, _, rfl, rfl, .of ec, atI_nat (j := 0) rfl, _, rfl, rfl, _, rfl, ite2 (fun c3 => ?_) (fun c3 => ?_)⟩
      · have hw : F.word = wd := by simpa using c3
        exact ⟨_, rfl, _, rfl, a, _, i, _, rfl, rfl, .of ea, hat, q1 _ F ⟨h0, hF, hw⟩ tv⟩
      · have hw : ¬ F.word = wd := by simpa using c3
        refine q2 fun F' h => ?_
        obtain ⟨_, h2, h3⟩ := h
        rw [hF] at h2
        cases h2
        exact hw h3
    · have h1 : ¬ i < ((xa.length : Nat) : Int) := by simpa using c2
      refine q2 fun F' h => ?_
      have h2 := (List.getElem?_eq_some_iff.mp h.2.1).1
      omega
  · have h0 : ¬ 0 ≤ i := by simpa using c
    exact ⟨_, rfl, iteF (iteF (q2 fun F' h => h0 h.1))⟩
end
end Calm

namespace Calm
open PySem PySem.Spec PyProof.Rows L2
/-! ### == of a tuple and the empty one; of a sum and the sum 0. No word of the texts within is asked -/
section
variable {X : Cx}
theorem two_vals {x y : V} {its : List Value} (r : Vals [x, y] its) : ∃ u v, its = [u, v] ∧ RelV x u ∧ RelV y v := by
  cases r with
  | cons r1 t =>
    cases t with
    | cons r2 t =>
      cases t
      exact ⟨_, _, rfl, r1, r2⟩
def rEq0 : R2 := fun x y H Q => ∃ a b xs, x = .ref a ∧ y = .ref b ∧ H a = some (.tup xs) ∧ H b = some (.tup []) ∧ Q (.bl xs.isEmpty) H
theorem op_eq0 (hu : X.A.units + 64 < cLine) : OpR X (compareOp .Eq) rEq0 := by
  intro pins s σ H x y v u Q I rx ry h
  obtain ⟨a, b, xs, rfl, rfl, ha, hb, q⟩ := h
  obtain rfl : v = Value.ref a := rx
  obtain rfl : u = Value.ref b := ry
  obtain ⟨_, its, rv, ta⟩ := (show ObjOk X.prog X.w H s.heap a (.tup xs) from I.hok a _ ha)
  obtain ⟨_, its2, rv2, tb⟩ := (show ObjOk X.prog X.w H s.heap b (.tup []) from I.hok b _ hb)
  cases rv2
  refine PySem.W.eq_tuplesT (n := 0) (e := fun _ => true) ta tb (fun j h1 h2 => absurd h2 (by simp)) (by omega) ?_
  have e : ((List.range (min its.toArray.size ([] : List Value).toArray.size)).all (fun _ => true) && its.toArray.size == ([] : List Value).toArray.size) = xs.isEmpty := by
    cases rv with
    | nil => rfl
    | cons _ _ => rfl
  rw [e]
  exact ⟨.bl _, H, I, rfl, q⟩
def rEqS0 : R2 := fun x y H Q => ∃ a b n p q xs, x = .ref a ∧ y = .ref b ∧ H a = some (.tup [.int n, .ref p]) ∧ H p = some (.tup xs) ∧ H b = some (.tup [.int 0, .ref q]) ∧ H q = some (.tup []) ∧ Q (.bl (n == 0 && xs.isEmpty)) H
theorem op_eqS0 (hu : X.A.units + 64 < cLine) : OpR X (compareOp .Eq) rEqS0 := by
  intro pins s σ H x y v u Q I rx ry h
  obtain ⟨a, b, n, p, q, xs, rfl, rfl, ha, hp, hb, hq, k⟩ := h
  obtain rfl : v = Value.ref a := rx
  obtain rfl : u = Value.ref b := ry
  obtain ⟨_, i1, r1, ta⟩ := (show ObjOk X.prog X.w H s.heap a (.tup _) from I.hok a _ ha)
  obtain ⟨_, i2, r2, tb⟩ := (show ObjOk X.prog X.w H s.heap b (.tup _) from I.hok b _ hb)
  obtain ⟨_, i3, r3, tp⟩ := (show ObjOk X.prog X.w H s.heap p (.tup _) from I.hok p _ hp)
  obtain ⟨_, i4, r4, tq⟩ := (show ObjOk X.prog X.w H s.heap q (.tup []) from I.hok q _ hq)
  cases r4
  obtain ⟨u1, v1, rfl, x1, y1⟩ := two_vals r1
  obtain ⟨u2, v2, rfl, x2, y2⟩ := two_vals r2
  obtain ⟨t1, rfl⟩ := x1
  obtain ⟨t2, rfl⟩ := x2
  obtain rfl : v1 = Value.ref p := y1
  obtain rfl : v2 = Value.ref q := y2
  have e3 : ((List.range (min i3.toArray.size ([] : List Value).toArray.size)).all (fun _ => true) && i3.toArray.size == ([] : List Value).toArray.size) = xs.isEmpty := by
    cases r3 with
    | nil => rfl
    | cons _ _ => rfl
  have T1 : PySem.W.EqTree X.prog X.w s 1 (.ref p) (.ref q) xs.isEmpty := by
    by_cases hpq : p = q
    · rw [hpq, hq] at hp
      cases hp
      rw [hpq]
      exact .same
    · rw [← e3]
      exact .tuples (n := 0) hpq tp tq (fun j h1 h2 => absurd h2 (by simp))
  have T0 : PySem.W.EqTree X.prog X.w s 1 (.int n t1) (.int 0 t2) (n == 0) := .leaf fun A hu => SeqAt.EqAt.int_int n t1 0 t2
  refine PySem.W.eq_tuplesT (n := 1) (e := fun j => if j = 0 then n == 0 else xs.isEmpty) ta tb (fun j h1 h2 => ?_) (by omega) ?_
  · have h3 : j < 2 := by simpa using h1
    match j, h3 with
    | 0, _ => exact T0
    | 1, _ => exact T1
  · have e : ((List.range (min [Value.int n t1, Value.ref p].toArray.size [Value.int 0 t2, Value.ref q].toArray.size)).all (fun j => if j = 0 then n == 0 else xs.isEmpty) && [Value.int n t1, Value.ref p].toArray.size == [Value.int 0 t2, Value.ref q].toArray.size) = (n == 0 && xs.isEmpty) := by
      show (([0, 1] : List Nat).all _ && true) = _
      simp
    rw [e]
    exact ⟨.bl _, H, I, rfl, k⟩
end
end Calm

namespace Calm
open PySem PySem.Spec PyProof.Rows L2
theorem ints_tp {H : Hp} : ∀ {ns : List Int} {xs : List V}, TpAll H xs (ns.map .int) → xs = ns.map V.int
  | [], _, h => h.nil_inv
  | n :: ns, xs, h => by
    obtain ⟨v, r, e, h1, h2⟩ := TpAll.cons_inv (show TpAll H xs (PyData.int n :: ns.map .int) from h)
    rw [e, h1.int_inv, ints_tp h2]
    rfl
theorem ints_mk {H : Hp} : ∀ ns : List Int, TpAll H (ns.map V.int) (ns.map .int)
  | [] => .nil
  | n :: ns => .cons (.int n) (ints_mk ns)
/-- the rows of a paper -/
theorem rows_inv {H : Hp} {v : V} {R : List (List Int)} (h : Tp H v (rowsD R)) : ∃ a xs, v = .ref a ∧ H a = some (.tup xs) ∧ TpAll H xs (R.map fun (r : List Int) => PyData.tuple (r.map .int)) := Tp.tup_inv h
theorem row_inv {H : Hp} {v : V} {r : List Int} (h : Tp H v (.tuple (r.map .int))) : ∃ c, v = .ref c ∧ H c = some (.tup (r.map V.int)) := by
  obtain ⟨c, xs, e, ec, t⟩ := h.tup_inv
  rw [ints_tp t] at ec
  exact ⟨c, e, ec⟩
theorem two_of {r : List Int} (h : r.length = 2) : ∃ n t, r = [n, t] := by
  match r, h with
  | [n, t], _ => exact ⟨n, t, rfl⟩
theorem three_of {r : List Int} (h : r.length = 3) : ∃ n k t, r = [n, k, t] := by
  match r, h with
  | [n, k, t], _ => exact ⟨n, k, t, rfl⟩
theorem isAt_most {A : List Fm} {n : Int} {F : Fm} (h : IsAt A n "most" F) : ∃ s, F = .most s ∧ sAt A n = some s := by
  obtain ⟨h0, h1, h2⟩ := h
  cases F with
  | most s => exact ⟨s, rfl, sAt_of h0 h1⟩
  | rest s m => exact absurd h2 (show ¬ (("rest" : Str) = "most") by decide +kernel)
  | and fs => exact absurd h2 (show ¬ (("and" : Str) = "most") by decide +kernel)
  | or fs => exact absurd h2 (show ¬ (("or" : Str) = "most") by decide +kernel)
theorem isAt_rest {A : List Fm} {n : Int} {F : Fm} (h : IsAt A n "rest" F) : ∃ s m, F = .rest s m ∧ A[n.toNat]? = some (.rest s m) := by
  obtain ⟨h0, h1, h2⟩ := h
  cases F with
  | most s => exact absurd h2 (show ¬ (("most" : Str) = "rest") by decide +kernel)
  | rest s m => exact ⟨s, m, rfl, h1⟩
  | and fs => exact absurd h2 (show ¬ (("and" : Str) = "rest") by decide +kernel)
  | or fs => exact absurd h2 (show ¬ (("or" : Str) = "rest") by decide +kernel)
theorem isAt_of {A : List Fm} {n : Int} {s : Sm} (h : sAt A n = some s) : IsAt A n "most" (.most s) := by
  obtain ⟨h0, h1⟩ := sAt_mem h
  exact ⟨h0, h1, rfl⟩
section
variable {P : Program} {w : World} {K : PySem.W.Frag} {mg : Str → Option Value} {base : Heap}
/-! ### shows_sum -/
abbrev sSum : Stmt := topS 10
theorem scSum : FnScope ["atoms", "rows", "total", "row", "atom"] ["atoms", "rows"] (defScope sSum) := ⟨rfl, rfl, rfl, by decide +kernel, rfl, by decide +kernel, by decide +kernel⟩
def spSum (K : PySem.W.Frag) : Sp := fun vs H Q _ => ∃ (a : Addr) (v : V) (A : List Fm) (R : List (List Int)), vs = [.ref a, v] ∧ LstD H a (A.map Fm.d) ∧ okA A ∧ Tp H v (rowsD R) ∧ rowsOk R ∧
  ∀ (H' : Hp) (b : Bool), Same H H' → (b = true ↔ SumOk A R) → Q (.bl b) H'
theorem ok_sum {f fR fA fP fB : Addr} {fd fdR fdA fdP fdB : FuncData} {k : Nat} (R : Rf K mg "shows_sum" sSum ["atoms", "rows"] f fd) (B : Bt mg)
    (RR : Rf K mg "is_row" sRow ["thing", "many"] fR fdR) (GR : FnOk P w K mg base CX0 k fR fdR ["thing", "many"] (spRow K))
    (RA : Rf K mg "atom_at" sAtom ["atoms", "place", "word"] fA fdA) (GA : FnOk P w K mg base CX0 k fA fdA ["atoms", "place", "word"] spAtom)
    (RP : Rf K mg "plus" sPlus ["one", "other"] fP fdP) (GP : FnOk P w K mg base CX0 k fP fdP ["one", "other"] (spPlus K))
    (RB : Rf K mg "by" sBy ["one", "times"] fB fdB) (GB : FnOk P w K mg base CX0 k fB fdB ["one", "times"] (spBy K)) :
    FnOk P w K mg base CX0 (k + 1) f fd ["atoms", "rows"] (spSum K) := by
  refine R.F.ok scSum (fun vs H Q E h => ?_) (fun cdv A' outer s H vs Q E hr h => ?_)
  · obtain ⟨a, v, A, R, rfl, _⟩ := h
    rfl
  obtain ⟨a, v, A, R, rfl, la, oA, tR, ⟨lR, okR⟩, q⟩ := h
  obtain ⟨c, xs, rfl, ec, tx⟩ := rows_inv tR
  refine ⟨_, pss_cons (ps_if (pt_not (pt_val (pe_callB call_isi (by rfl) B.isinstance (by decide +kernel) (pa_cons (pv 1) (pa_cons (pe_bltn (v := .ty "tuple") (u := .type "tuple") (by rfl) B.tuple (by decide +kernel) rfl) pa_nil))))) (pss_one (ps_ret pe_bl)) pss_nil)
    (pss_cons (ps_set (i := 2) scSum.nd rfl (.inl rfl) (pe_tup (pa_cons pe_int (pa_cons (pe_tup pa_nil) pa_nil))))
    (pss_cons (ps_for PassesOwn.never rfl (pi_tup (pv 1)) (pg_name (i := 3) scSum.nd rfl (.inl rfl))
      (pss_cons (ps_if (PW.pt (pw_or (pt_not (pt_val (pe_call GR hr rfl RR.m RR.F.kp RR.b .nil pass0 (pa_cons (pv 3) (pa_cons pe_int pa_nil)))))
          (pw_or1 (pt_cmpR op_lt (pe_ix ix_tup (pv 3) pe_int (fun _ _ => rfl)) pe_int (nomark _))))) (pss_one (ps_ret pe_bl)) pss_nil)
      (pss_cons (ps_set (i := 4) scSum.nd rfl (.inl rfl) (pe_call GA hr rfl RA.m RA.F.kp RA.b .nil pass0 (pa_cons (pv 0) (pa_cons (pe_ix ix_tup (pv 3) pe_int (fun _ _ => rfl)) (pa_cons pe_str pa_nil)))))
      (pss_cons (ps_if (pt_cmpR op_isN (pv 4) pe_non (nomark _)) (pss_one (ps_ret pe_bl)) pss_nil)
      (pss_one (ps_set (i := 2) scSum.nd rfl (.inl rfl) (pe_call GP hr rfl RP.m RP.F.kp RP.b .nil pass0 (pa_cons (pv 2) (pa_cons
        (pe_call GB hr rfl RB.m RB.F.kp RB.b .nil pass0 (pa_cons (pe_ix ix_tup (pv 4) pe_int (fun _ _ => rfl)) (pa_cons (pe_ix ix_tup (pv 3) pe_int (fun _ _ => rfl)) pa_nil))) pa_nil)))))))))
    (pss_one (ps_ret (pe_and (pe_cmpR (op_eq0 hr.units) (pe_ix ix_tup (pv 2) pe_int (fun _ _ => rfl)) (pe_tup pa_nil) (nomark _)) (pe_one (pe_cmpR op_gt (pe_ix ix_tup (pv 2) pe_int (fun _ _ => rfl)) pe_int (nomark _)))))))), ?_⟩
  have lx := tx.len
  rw [List.length_map] at lx
  -- isinstance(rows, tuple)
  refine ⟨_, rfl, _, _, _, _, true, rfl, .ty _, .base (.tup ec), kit_ty (by decide +kernel), true, rfl, iteF ?_⟩
  -- total = (0, ())
  refine ⟨Nat.zero_le _, fun p np => ⟨(by show 2 ≤ sizeLine; decide), fun t nt => ?_⟩⟩
  have s0 := (same_new np (.tup [])).trans (same_new nt (.tup [.int 0, .ref p]))
  refine ⟨_, rfl, c, rfl, ⟨xs, .of (s0 _ _ ec)⟩, ?_⟩
  refine for_tup (K := K) (xs := xs) (fun i σ H1 => ∃ tv T y3 y4, σ = [some (.ref a), some (.ref c), some tv, y3, y4] ∧ Same H H1 ∧ Tp H1 tv (smD T) ∧ T.1 = totN A (R.take i) ∧ (∀ f, lin f T.2 = totL A f (R.take i)) ∧ Good T.2 ∧ T.2.length ≤ 100 * i ∧ ∀ r ∈ R.take i, RowOk A r)
    ⟨.ref t, (0, []), none, none, rfl, s0, sm_mk (s := (0, [])) upd_same (same_new nt _ _ _ upd_same) .nil, rfl, fun f => rfl, good_of_nil, Nat.le_refl _, fun r hr => absurd hr (by simp)⟩ (fun i σ H1 _ hp => ?_) (fun i x σ H1 hx hp => ?_) (fun σ H1 hp => ?_)
  · obtain ⟨_, _, _, _, _, sm, _⟩ := hp
    exact .of (sm _ _ ec)
  · obtain ⟨tv, T, y3, y4, rfl, sm, tT, eN, eL, gT, lT, okT⟩ := hp
    obtain ⟨d, hd, tz⟩ := tx.get hx
    obtain ⟨r, hr1, rfl⟩ := map_get (g := fun (r : List Int) => PyData.tuple (r.map .int)) hd
    obtain ⟨c1, rfl, ec1⟩ := row_inv tz
    have rm : r ∈ R := List.mem_of_getElem? hr1
    have rl : r.length ≤ 1000 := by rcases (okR r rm).1 with z | z <;> omega
    have no : ∀ (H2 : Hp), Same H H2 → ¬ RowOk A r → Q (.bl false) H2 := fun H2 sm2 nr => q H2 false sm2 ⟨(fun z => nomatch z), fun z => absurd (z.1 r rm) nr⟩
    refine ⟨_, rfl, c1, r, 2, rfl, sm _ _ ec1, rl, fun H2 sm2 => ⟨_, rfl, ite2 (fun e => ?_) (fun e => ?_)⟩⟩
    · have e' : ¬ ((r.length : Int) = 2) := by simpa using e
      exact iteT (no H2 (sm.trans sm2) fun z => e' (by rw [z.1]; rfl))
    have e' : (r.length : Int) = 2 := by simpa using e
    obtain ⟨n, t1, rfl⟩ := two_of (by omega : r.length = 2)
    have smA := sm.trans sm2
    have ec2 := smA _ _ ec1
    refine ⟨_, rfl, c1, _, 1, _, rfl, rfl, .of ec2, atI_nat (j := 1) rfl, _, _, rfl, rfl, _, rfl, ite2 (fun e1 => ?_) (fun e1 => ?_)⟩
    · have e2 : t1 < 1 := of_decide_eq_true e1
      exact no H2 smA fun z => by
        have z2 : 1 ≤ t1 := z.2.1
        omega
    have e2 : ¬ t1 < 1 := by simpa using e1
    refine ⟨_, rfl, _, rfl, c1, _, 0, _, rfl, rfl, .of ec2, atI_nat (j := 0) rfl, a, n, "most", A, rfl, la.keep smA, fun v F hF tv2 => ?_, fun none => ?_⟩
    · obtain ⟨sF, rfl, hs⟩ := isAt_most hF
      obtain ⟨c3, y, rfl, ec3, ty⟩ := most_inv tv2
      have okF : sF.2.length ≤ 100 := oA _ (List.mem_of_getElem? (sAt_mem hs).2)
      refine ⟨_, rfl, rfl, _, rfl, iteF ?_⟩
      have hb := (okR _ rm).2 t1 (by simp)
      refine ⟨_, rfl, _, rfl, c3, _, 1, _, rfl, rfl, .of ec3, atI_nat (j := 1) rfl, _, rfl, c1, _, 1, _, rfl, rfl, .of ec2, atI_nat (j := 1) rfl, y, sF, t1, rfl, ty, hb, by omega, fun H3 bv S sm3 tS eS gS lS llS => ?_⟩
      have hi : i < R.length := (List.getElem?_eq_some_iff.mp hr1).1
      refine ⟨tv, bv, T, S, rfl, tT.keep (.of (sm2.trans sm3)), tS, by omega, by omega, fun H4 pv U sm4 tU eU gU lU llU => ?_⟩
      have ht : R.take (i + 1) = R.take i ++ [[n, t1]] := by rw [List.take_add_one, hr1]; rfl
      refine ⟨pv, U, some (.ref c1), some (.ref c3), rfl, (smA.trans sm3).trans sm4, tU, ?_, fun f => ?_, gU, by omega, fun r' hr' => ?_⟩
      · rw [ht, totN_app, eU, eN, eS]
        simp [totN, hs]
      · rw [ht, totL_app, lU, eL, lS]
        simp [totL, hs]
      · rw [ht] at hr'
        rcases List.mem_append.mp hr' with z | z
        · exact okT r' z
        · have z' : r' = [n, t1] := by simpa using z
          subst z'
          exact ⟨rfl, by show 1 ≤ t1; omega, sF, hs⟩
    · refine ⟨_, rfl, rfl, _, rfl, iteT ?_⟩
      refine no H2 smA fun z => ?_
      obtain ⟨_, _, s0, hs⟩ := z
      exact none _ (isAt_of hs)
  · obtain ⟨tv, T, y3, y4, rfl, sm, tT, eN, eL, gT, lT, okT⟩ := hp
    rw [lx, List.take_length] at eN eL okT
    obtain ⟨c4, q4, x4, rfl, ec4, eq4, p4⟩ := sm_inv tT
    refine ⟨_, rfl, c4, _, 1, _, rfl, rfl, .of ec4, atI_nat (j := 1) rfl, Nat.zero_le _, fun u nu => ?_⟩
    have s5 := same_new nu (.tup [])
    have lx4 := p4.len
    rw [linD_len] at lx4
    refine ⟨q4, u, x4, rfl, rfl, s5 _ _ eq4, upd_same, _, rfl, ite2 (fun e => ?_) (fun e => ?_)⟩
    · have e1 : T.2 = [] := List.eq_nil_of_length_eq_zero (by rw [← lx4, List.isEmpty_iff.mp e]; rfl)
      refine ⟨_, rfl, c4, _, 0, _, rfl, rfl, .of (s5 _ _ ec4), atI_nat (j := 0) rfl, _, _, rfl, rfl, q _ _ (sm.trans s5) ⟨fun z => ?_, fun z => ?_⟩⟩
      · have z1 : T.1 > 0 := of_decide_eq_true z
        exact ⟨okT, fun f => by rw [← eL f, e1]; rfl, by omega⟩
      · have z1 := z.2.2
        exact decide_eq_true (show T.1 > 0 by omega)
    · have e1 : ¬ T.2 = [] := fun z => e (by
        have : x4 = [] := List.eq_nil_of_length_eq_zero (by rw [lx4, z]; rfl)
        rw [this]
        rfl)
      exact q _ false (sm.trans s5) ⟨(fun z => nomatch z), fun z => absurd (good_nil gT fun f => by rw [eL f]; exact z.2.1 f) e1⟩
end
end Calm

namespace Calm
open PySem PySem.Spec PyProof.Rows L2
theorem val_scale {f : Str → Int} {s s' : Sm} {t : Int} (h1 : s'.1 = s.1 * t) (h2 : lin f s'.2 = t * lin f s.2) : val f s' = t * val f s := by
  unfold val
  rw [h1, h2, Int.mul_add, Int.mul_comm s.1 t]
section
variable {P : Program} {w : World} {K : PySem.W.Frag} {mg : Str → Option Value} {base : Heap}
/-! ### rest_part -/
abbrev sRPart : Stmt := topS 11
theorem scRPart : FnScope ["atoms", "divisor", "row", "atom", "one", "other"] ["atoms", "divisor", "row"] (defScope sRPart) := ⟨rfl, rfl, rfl, by decide +kernel, rfl, by decide +kernel, by decide +kernel⟩
def spRPart : Sp := fun vs H Q _ => ∃ (a c : Addr) (m : Int) (A : List Fm) (r : List Int), vs = [.ref a, .int m, .ref c] ∧ LstD H a (A.map Fm.d) ∧ okA A ∧ 2 ≤ m ∧ H c = some (.tup (r.map V.int)) ∧ (r.length = 2 ∨ r.length = 3) ∧ (∀ z ∈ r, -(2 ^ 60) < z ∧ z < 2 ^ 60) ∧
  (∀ H', Same H H' → Q .non H') ∧ (∀ (H' : Hp) (v : V) (s : Sm), Same H H' → Tp H' v (smD s) → s.2.length ≤ 100 → (∀ f, allT f A → m ∣ val f s) → Q v H')
theorem ok_rpart {f fR fA fP fB : Addr} {fd fdR fdA fdP fdB : FuncData} {k : Nat} (R : Rf K mg "rest_part" sRPart ["atoms", "divisor", "row"] f fd) (B : Bt mg)
    (RR : Rf K mg "is_row" sRow ["thing", "many"] fR fdR) (GR : FnOk P w K mg base CX0 k fR fdR ["thing", "many"] (spRow K))
    (RA : Rf K mg "atom_at" sAtom ["atoms", "place", "word"] fA fdA) (GA : FnOk P w K mg base CX0 k fA fdA ["atoms", "place", "word"] spAtom)
    (RP : Rf K mg "plus" sPlus ["one", "other"] fP fdP) (GP : FnOk P w K mg base CX0 k fP fdP ["one", "other"] (spPlus K))
    (RB : Rf K mg "by" sBy ["one", "times"] fB fdB) (GB : FnOk P w K mg base CX0 k fB fdB ["one", "times"] (spBy K)) :
    FnOk P w K mg base CX0 (k + 1) f fd ["atoms", "divisor", "row"] spRPart := by
  refine R.F.ok scRPart (fun vs H Q E h => ?_) (fun cdv A' outer s H vs Q E hr h => ?_)
  · obtain ⟨a, c, m, A, r, rfl, _⟩ := h
    rfl
  obtain ⟨a, c, m, A, r, rfl, la, oA, hm, ec, rl, rb, q0, q1⟩ := h
  refine ⟨_, pss_cons (ps_if (pt_val (pe_call GR hr rfl RR.m RR.F.kp RR.b .nil pass0 (pa_cons (pv 2) (pa_cons pe_int pa_nil))))
      (pss_cons (ps_set (i := 3) scRPart.nd rfl (.inl rfl) (pe_call GA hr rfl RA.m RA.F.kp RA.b .nil pass0 (pa_cons (pv 0) (pa_cons (pe_ix ix_tup (pv 2) pe_int (fun _ _ => rfl)) (pa_cons pe_str pa_nil)))))
      (pss_one (ps_if (PW.pt (pw_and (pt_cmpR op_notN (pv 3) pe_non (nomark _)) (pw_and1 (pt_cmpR op_eq (pe_op op_modN (pe_op op_mul (pe_ix ix_tup (pv 2) pe_int (fun _ _ => rfl)) (pe_ix ix_tup (pv 3) pe_int (fun _ _ => rfl))) (pv 1)) pe_int (nomark _)))))
        (pss_one (ps_ret (pe_call GB hr rfl RB.m RB.F.kp RB.b .nil pass0 (pa_cons (pe_ix ix_tup (pv 3) pe_int (fun _ _ => rfl)) (pa_cons (pe_ix ix_tup (pv 2) pe_int (fun _ _ => rfl)) pa_nil))))) pss_nil)))
      (pss_one (ps_if (pt_val (pe_call GR hr rfl RR.m RR.F.kp RR.b .nil pass0 (pa_cons (pv 2) (pa_cons pe_int pa_nil))))
        (pss_cons (ps_set (i := 4) scRPart.nd rfl (.inl rfl) (pe_call GA hr rfl RA.m RA.F.kp RA.b .nil pass0 (pa_cons (pv 0) (pa_cons (pe_ix ix_tup (pv 2) pe_int (fun _ _ => rfl)) (pa_cons pe_str pa_nil)))))
        (pss_cons (ps_set (i := 5) scRPart.nd rfl (.inl rfl) (pe_call GA hr rfl RA.m RA.F.kp RA.b .nil pass0 (pa_cons (pv 0) (pa_cons (pe_ix ix_tup (pv 2) pe_int (fun _ _ => rfl)) (pa_cons pe_str pa_nil)))))
        (pss_one (ps_if (PW.pt (pw_and (pt_cmpR op_notN (pv 4) pe_non (nomark _)) (pw_and (pt_cmpR op_notN (pv 5) pe_non (nomark _)) (pw_and1 (pt_cmpR (op_eqS0 hr.units)
            (pe_call GP hr rfl RP.m RP.F.kp RP.b .nil pass0 (pa_cons (pe_ix ix_tup (pv 4) pe_int (fun _ _ => rfl)) (pa_cons (pe_ix ix_tup (pv 5) pe_int (fun _ _ => rfl)) pa_nil))) (pe_tup (pa_cons pe_int (pa_cons (pe_tup pa_nil) pa_nil))) (nomark _))))))
          (pss_one (ps_ret (pe_call GB hr rfl RB.m RB.F.kp RB.b .nil pass0 (pa_cons (pe_ix ix_tup (pv 4) pe_int (fun _ _ => rfl)) (pa_cons (pe_ix ix_tup (pv 2) pe_int (fun _ _ => rfl)) pa_nil))))) pss_nil)))) pss_nil)))
    (pss_one (ps_ret pe_non)), ?_⟩
  have rl2 : r.length ≤ 1000 := by rcases rl with z | z <;> omega
  refine ⟨_, rfl, c, r, 2, rfl, ec, rl2, fun H2 sm2 => ⟨_, rfl, ite2 (fun e => ?_) (fun e => ?_)⟩⟩
  · have e' : (r.length : Int) = 2 := of_decide_eq_true e
    obtain ⟨n, t, rfl⟩ := two_of (by omega : r.length = 2)
    have ec2 := sm2 _ _ ec
    refine ⟨_, rfl, _, rfl, c, _, 0, _, rfl, rfl, .of ec2, atI_nat (j := 0) rfl, a, n, "rest", A, rfl, la.keep sm2, fun v F hF tv => ?_, fun none => ?_⟩
    · obtain ⟨s1, d, rfl, hA⟩ := isAt_rest hF
      obtain ⟨c3, y, rfl, ec3, ty⟩ := rest_inv tv
      have okF := oA _ (List.mem_of_getElem? hA)
      have hb := rb t (by simp)
      have bt : -(2 ^ 64) < t ∧ t < 2 ^ 64 := by omega
      refine ⟨_, rfl, rfl, _, rfl, iteT ?_⟩
      refine ⟨_, rfl, c, _, 1, _, rfl, rfl, .of ec2, atI_nat (j := 1) rfl, _, rfl, c3, _, 2, _, rfl, rfl, .of ec3, atI_nat (j := 2) rfl, t, d, rfl, rfl, .inl bt, _, rfl, t * d, m, rfl, rfl, (by omega : m ≠ 0), rfl, _, rfl, ite2 (fun e3 => ?_) (fun e3 => ?_)⟩
      · have hd : m ∣ t * d := (fmod_dvd hm).mp (by simpa using e3)
        refine ⟨_, rfl, c3, _, 1, _, rfl, rfl, .of ec3, atI_nat (j := 1) rfl, _, rfl, c, _, 1, _, rfl, rfl, .of ec2, atI_nat (j := 1) rfl, y, s1, t, rfl, ty, hb, by have := okF.1; omega, fun H3 bv S sm3 tS eS gS lS llS => ?_⟩
        refine q1 H3 bv S (sm2.trans sm3) tS (by have := okF.1; omega) fun f hf => ?_
        rw [val_scale eS (lS f)]
        have h1 : d ∣ val f s1 := hf _ (List.mem_of_getElem? hA)
        obtain ⟨u, hu⟩ := h1
        rw [hu, ← Int.mul_assoc]
        exact Int.dvd_mul_of_dvd_left hd
      · exact q0 H2 sm2
    · exact ⟨_, rfl, rfl, _, rfl, iteF (iteF (q0 H2 sm2))⟩
  · have e' : ¬ (r.length : Int) = 2 := by simpa using e
    refine ⟨_, rfl, c, r, 3, rfl, sm2 _ _ ec, rl2, fun H3 sm3 => ⟨_, rfl, ite2 (fun e3 => ?_) (fun e3 => ?_)⟩⟩
    · have e4 : (r.length : Int) = 3 := of_decide_eq_true e3
      obtain ⟨n, n2, t, rfl⟩ := three_of (by omega : r.length = 3)
      have sm := sm2.trans sm3
      have ec2 := sm _ _ ec
      have hb := rb t (by simp)
      refine ⟨_, rfl, _, rfl, c, _, 0, _, rfl, rfl, .of ec2, atI_nat (j := 0) rfl, a, n, "most", A, rfl, la.keep sm, fun v F hF tv => ?_, fun none => ?_⟩
      · obtain ⟨s1, rfl, hs1⟩ := isAt_most hF
        obtain ⟨c3, y, rfl, ec3, ty⟩ := most_inv tv
        have m1 := List.mem_of_getElem? (sAt_mem hs1).2
        have ok1 : s1.2.length ≤ 100 := oA _ m1
        refine ⟨_, rfl, _, rfl, c, _, 1, _, rfl, rfl, .of ec2, atI_nat (j := 1) rfl, a, n2, "most", A, rfl, la.keep sm, fun v' F' hF' tv' => ?_, fun none => ?_⟩
        · obtain ⟨s2, rfl, hs2⟩ := isAt_most hF'
          obtain ⟨c4, y2, rfl, ec4, ty2⟩ := most_inv tv'
          have m2 := List.mem_of_getElem? (sAt_mem hs2).2
          have ok2 : s2.2.length ≤ 100 := oA _ m2
          refine ⟨_, rfl, rfl, _, rfl, iteT ⟨_, rfl, rfl, _, rfl, iteT ?_⟩⟩
          refine ⟨_, rfl, c3, _, 1, _, rfl, rfl, .of ec3, atI_nat (j := 1) rfl, _, rfl, c4, _, 1, _, rfl, rfl, .of ec4, atI_nat (j := 1) rfl, y, y2, s1, s2, rfl, ty, ty2, by omega, by omega, fun H4 pv U sm4 tU eU gU lU llU => ?_⟩
          obtain ⟨c5, q5, x5, rfl, ec5, eq5, p5⟩ := sm_inv tU
          have lx5 := p5.len
          rw [linD_len] at lx5
          refine ⟨Nat.zero_le _, fun p np => ⟨(by show 2 ≤ sizeLine; decide), fun t' nt => ?_⟩⟩
          have s5 := same_new np (.tup [])
          have s6 := same_new nt (.tup [.int 0, .ref p])
          have s7 := s5.trans s6
          refine ⟨c5, t', U.1, q5, p, x5, rfl, rfl, s7 _ _ ec5, s7 _ _ eq5, upd_same, s6 _ _ upd_same, _, rfl, ite2 (fun e5 => ?_) (fun e5 => ?_)⟩
          · rw [Bool.and_eq_true] at e5
            have e6 : U.1 = 0 := by simpa using e5.1
            have e7 : U.2 = [] := List.eq_nil_of_length_eq_zero (by rw [← lx5, List.isEmpty_iff.mp e5.2]; rfl)
            have sm8 := sm4.trans s7
            refine ⟨_, rfl, c3, _, 1, _, rfl, rfl, .of (sm8 _ _ ec3), atI_nat (j := 1) rfl, _, rfl, c, _, 2, _, rfl, rfl, .of (sm8 _ _ ec2), atI_nat (j := 2) rfl, y, s1, t, rfl, ty.keep (.of sm8), hb, by omega, fun H5 bv S sm5 tS eS gS lS llS => ?_⟩
            refine q1 H5 bv S ((sm.trans sm8).trans sm5) tS (by omega) fun f hf => ?_
            have h1 : val f s1 ≤ 0 := hf _ m1
            have h2 : val f s2 ≤ 0 := hf _ m2
            have h3 : val f s1 + val f s2 = 0 := by
              have z := lU f
              rw [e7] at z
              have z' : (0 : Int) = lin f s1.2 + lin f s2.2 := z
              unfold val
              omega
            have h4 : val f s1 = 0 := by omega
            rw [val_scale eS (lS f), h4, Int.mul_zero]
            exact Int.dvd_zero m
          · exact q0 _ (sm.trans (sm4.trans s7))
        · exact ⟨_, rfl, rfl, _, rfl, iteT ⟨_, rfl, rfl, _, rfl, iteF (iteF (q0 H3 sm))⟩⟩
      · refine ⟨_, rfl, _, rfl, c, _, 1, _, rfl, rfl, .of ec2, atI_nat (j := 1) rfl, a, n2, "most", A, rfl, la.keep sm, fun v' F' hF' tv' => ?_, fun none => ?_⟩
        · exact ⟨_, rfl, rfl, _, rfl, iteF (iteF (q0 H3 sm))⟩
        · exact ⟨_, rfl, rfl, _, rfl, iteF (iteF (q0 H3 sm))⟩
    · exact q0 H3 (sm2.trans sm3)
end
end Calm

namespace Calm
open PySem PySem.Spec PyProof.Rows L2
theorem last_row {r : List Int} (h : r.length = 2 ∨ r.length = 3) : ∃ t, atI (r.map V.int) (-1) = some (.int t) := by
  rcases h with h | h
  · obtain ⟨n, t, rfl⟩ := two_of h
    exact ⟨t, rfl⟩
  · obtain ⟨n, k, t, rfl⟩ := three_of h
    exact ⟨t, rfl⟩
section
variable {P : Program} {w : World} {K : PySem.W.Frag} {mg : Str → Option Value} {base : Heap}
/-! ### shows_rest -/
abbrev sRest : Stmt := topS 12
theorem scRest : FnScope ["atoms", "divisor", "rows", "total", "row", "part", "box", "times"] ["atoms", "divisor", "rows"] (defScope sRest) := ⟨rfl, rfl, rfl, by decide +kernel, rfl, by decide +kernel, by decide +kernel⟩
def spRest : Sp := fun vs H Q _ => ∃ (a : Addr) (m : Int) (v : V) (A : List Fm) (R : List (List Int)), vs = [.ref a, .int m, v] ∧ LstD H a (A.map Fm.d) ∧ okA A ∧ Tp H v (rowsD R) ∧ rowsOk R ∧
  ∀ (H' : Hp) (b : Bool), Same H H' → (b = true → ∀ O, Dead A O) → Q (.bl b) H'
theorem ok_rest {f fN fR fP : Addr} {fd fdN fdR fdP : FuncData} {k : Nat} (R : Rf K mg "shows_rest" sRest ["atoms", "divisor", "rows"] f fd) (B : Bt mg)
    (RN : Rf K mg "is_number" sNum ["thing"] fN fdN) (GN : FnOk P w K mg base CX0 k fN fdN ["thing"] spNum)
    (RR : Rf K mg "rest_part" sRPart ["atoms", "divisor", "row"] fR fdR) (GR : FnOk P w K mg base CX0 k fR fdR ["atoms", "divisor", "row"] spRPart)
    (RP : Rf K mg "plus" sPlus ["one", "other"] fP fdP) (GP : FnOk P w K mg base CX0 k fP fdP ["one", "other"] (spPlus K)) :
    FnOk P w K mg base CX0 (k + 1) f fd ["atoms", "divisor", "rows"] spRest := by
  refine R.F.ok scRest (fun vs H Q E h => ?_) (fun cdv A' outer s H vs Q E hr h => ?_)
  · obtain ⟨a, m, v, A, R, rfl, _⟩ := h
    rfl
  obtain ⟨a, m, v, A, R, rfl, la, oA, tR, ⟨lR, okR⟩, q⟩ := h
  obtain ⟨c, xs, rfl, ec, tx⟩ := rows_inv tR
  refine ⟨_, pss_cons (ps_if (PW.pt (pw_or (pt_not (pt_val (pe_call GN hr rfl RN.m RN.F.kp RN.b .nil pass0 (pa_cons (pv 1) pa_nil)))) (pw_or (pt_cmpR op_lt (pv 1) pe_int (nomark _))
      (pw_or1 (pt_not (pt_val (pe_callB call_isi (by rfl) B.isinstance (by decide +kernel) (pa_cons (pv 2) (pa_cons (pe_bltn (v := .ty "tuple") (u := .type "tuple") (by rfl) B.tuple (by decide +kernel) rfl) pa_nil))))))))) (pss_one (ps_ret pe_bl)) pss_nil)
    (pss_cons (ps_set (i := 3) scRest.nd rfl (.inl rfl) (pe_tup (pa_cons pe_int (pa_cons (pe_tup pa_nil) pa_nil))))
    (pss_cons (ps_for PassesOwn.never rfl (pi_tup (pv 2)) (pg_name (i := 4) scRest.nd rfl (.inl rfl))
      (pss_cons (ps_set (i := 5) scRest.nd rfl (.inl rfl) (pe_call GR hr rfl RR.m RR.F.kp RR.b .nil pass0 (pa_cons (pv 0) (pa_cons (pv 1) (pa_cons (pv 4) pa_nil)))))
      (pss_cons (ps_if (PW.pt (pw_or (pt_cmpR op_isN (pv 5) pe_non (nomark _)) (pw_or1 (pt_cmpR op_eq (pe_ix ix_tup (pv 4) (pe_un un_neg pe_int) (fun _ _ => rfl)) pe_int (nomark _))))) (pss_one (ps_ret pe_bl)) pss_nil)
      (pss_one (ps_set (i := 3) scRest.nd rfl (.inl rfl) (pe_call GP hr rfl RP.m RP.F.kp RP.b .nil pass0 (pa_cons (pv 3) (pa_cons (pv 5) pa_nil))))))))
    (pss_one (ps_ret (pe_and (pe_cmpR op_ne (pe_op op_modN (pe_ix ix_tup (pv 3) pe_int (fun _ _ => rfl)) (pv 1)) pe_int (nomark _))
      (pe_one (pe_callB (cr_all rfl) (by rfl) B.all (by decide +kernel) (pa_cons
        (pe_lc (own := [("box", 6), ("times", 7)]) (g := gTup K 2 (gCons (gName 6) (gCons (gName 7) gNil))) rfl scRest.nd (pi_tup (pe_ix ix_tup (pv 3) pe_int (fun _ _ => rfl)))
          (blkOk_by (own := [("box", 6), ("times", 7)]) (N := ["atoms", "divisor", "rows", "total", "row", "part", "box", "times"]) (sc := defScope sRest) (by decide +kernel))
          (fun _ _ _ _ _ => pg_tup (n := 2) rfl (pgs_cons (pg_name (i := 6) scRest.nd rfl (.inl rfl) (.inr rfl)) (pgs_cons (pg_name (i := 7) scRest.nd rfl (.inl rfl) (.inr rfl)) pgs_nil)))
          (fun _ _ _ _ _ => pts_nil)
          (fun _ _ _ _ _ => pe_cmpR op_eq (pe_op op_modN (pv 7) (pv 1)) pe_int (nomark _))) pa_nil)))))))), ?_⟩
  have lx := tx.len
  rw [List.length_map] at lx
  have no : ∀ (H2 : Hp), Same H H2 → Q (.bl false) H2 := fun H2 sm2 => q H2 false sm2 (fun z => nomatch z)
  refine ⟨_, rfl, m, rfl, _, rfl, iteF ?_⟩
  refine ⟨_, rfl, _, _, rfl, rfl, _, rfl, ite2 (fun e => iteT (no H (.refl H))) (fun e => ?_)⟩
  have hm : 2 ≤ m := by
    have : ¬ m < 2 := by simpa using e
    omega
  refine ⟨_, rfl, _, _, _, _, true, rfl, .ty _, .base (.tup ec), kit_ty (by decide +kernel), true, rfl, iteF ?_⟩
  refine ⟨Nat.zero_le _, fun p np => ⟨(by show 2 ≤ sizeLine; decide), fun t nt => ?_⟩⟩
  have s0 := (same_new np (.tup [])).trans (same_new nt (.tup [.int 0, .ref p]))
  refine ⟨_, rfl, c, rfl, ⟨xs, .of (s0 _ _ ec)⟩, ?_⟩
  refine for_tup (K := K) (xs := xs) (fun i σ H1 => ∃ tv T y4 y5 y6 y7, σ = [some (.ref a), some (.int m), some (.ref c), some tv, y4, y5, y6, y7] ∧ Same H H1 ∧ Tp H1 tv (smD T) ∧ T.2.length ≤ 100 * i ∧ ∀ f, allT f A → m ∣ val f T)
    ⟨.ref t, (0, []), none, none, none, none, rfl, s0, sm_mk (s := (0, [])) upd_same (same_new nt _ _ _ upd_same) .nil, Nat.le_refl _, fun f _ => Int.dvd_zero m⟩ (fun i σ H1 _ hp => ?_) (fun i x σ H1 hx hp => ?_) (fun σ H1 hp => ?_)
  · obtain ⟨_, _, _, _, _, _, _, sm, _⟩ := hp
    exact .of (sm _ _ ec)
  · obtain ⟨tv, T, y4, y5, y6, y7, rfl, sm, tT, lT, dT⟩ := hp
    obtain ⟨d, hd, tz⟩ := tx.get hx
    obtain ⟨r, hr1, rfl⟩ := map_get (g := fun (r : List Int) => PyData.tuple (r.map .int)) hd
    obtain ⟨c1, rfl, ec1⟩ := row_inv tz
    have rm : r ∈ R := List.mem_of_getElem? hr1
    obtain ⟨z, hz⟩ := last_row (okR r rm).1
    refine ⟨_, rfl, _, rfl, _, rfl, a, c1, m, A, r, rfl, la.keep sm, oA, hm, sm _ _ ec1, (okR r rm).1, (okR r rm).2, fun H2 sm2 => ?_, fun H2 v2 S sm2 tS lS dS => ?_⟩
    · exact ⟨_, rfl, rfl, _, rfl, iteT (iteT (no H2 (sm.trans sm2)))⟩
    · have smA := sm.trans sm2
      have nn : ∃ c9, v2 = .ref c9 := by
        obtain ⟨c9, _, _, e9, _⟩ := sm_inv tS
        exact ⟨c9, e9⟩
      obtain ⟨c9, rfl⟩ := nn
      refine ⟨_, rfl, rfl, _, rfl, iteF ?_⟩
      refine ⟨_, rfl, 1, rfl, c1, _, -1, _, rfl, rfl, .of (smA _ _ ec1), hz, rfl, _, rfl, ite2 (fun e1 => ?_) (fun e1 => ?_)⟩
      · exact no H2 smA
      · have hi : i < R.length := (List.getElem?_eq_some_iff.mp hr1).1
        refine ⟨_, rfl, _, rfl, tv, .ref c9, T, S, rfl, tT.keep (.of sm2), tS, by omega, by omega, fun H4 pv U sm4 tU eU gU lU llU => ?_⟩
        refine ⟨pv, U, some (.ref c1), some (.ref c9), y6, y7, rfl, smA.trans sm4, tU, by omega, fun f hf => ?_⟩
        have e9 : val f U = val f T + val f S := by
          unfold val
          rw [eU, lU f]
          omega
        rw [e9]
        exact Int.dvd_add (dT f hf) (dS f hf)
  · obtain ⟨tv, T, y4, y5, y6, y7, rfl, sm, tT, lT, dT⟩ := hp
    obtain ⟨c4, q4, x4, rfl, ec4, eq4, p4⟩ := sm_inv tT
    have lx4 := p4.len
    rw [linD_len] at lx4
    refine ⟨_, rfl, c4, _, 0, _, rfl, rfl, .of ec4, atI_nat (j := 0) rfl, _, rfl, T.1, m, rfl, rfl, (by omega : m ≠ 0), rfl, _, rfl, ite2 (fun e1 => ?_) (fun e1 => ?_)⟩
    · have n1 : ¬ m ∣ T.1 := fun z => by
        have z1 : T.1.fmod m = 0 := (fmod_dvd hm).mpr z
        simp [z1] at e1
      refine ⟨_, rfl, c4, _, 1, _, rfl, rfl, .of ec4, atI_nat (j := 1) rfl, q4, rfl, ⟨x4, .of eq4⟩, fun D nD => ?_⟩
      refine lc_tup (K := K) (a := q4) (xs := x4) (fun i H2 => H2 D = some (.lst (((T.2.take i).map fun p => decide (V.int (p.2.fmod m) = V.int 0)).map V.bl)) ∧ Same H1 H2) ⟨upd_same, same_new nD _⟩ (fun i H2 _ hp => .of (hp.2 _ _ eq4)) (fun i x H2 hx hp => ?_) (fun H2 hp => ?_)
      · obtain ⟨ed, sm2⟩ := hp
        obtain ⟨e, he, tp⟩ := p4.get hx
        obtain ⟨p, hp, rfl⟩ := linD_get he
        obtain ⟨c6, rfl, ec6⟩ := pair_inv (tp.keep (.of sm2))
        have hi : i < T.2.length := (List.getElem?_eq_some_iff.mp hp).1
        refine ⟨c6, _, rfl, .of ec6, rfl, _, _, rfl, _, _, rfl, rfl, rfl, ?_⟩
        refine ⟨_, rfl, _, rfl, p.2, m, rfl, rfl, (by omega : m ≠ 0), rfl, _, ed, ?_, ?_, same_upd2 sm2 nD⟩
        · rw [List.length_map, List.length_map, List.length_take, sizeLine_eq]
          omega
        · rw [upd_same, List.take_add_one, hp, List.map_append, List.map_append]
          rfl
      · obtain ⟨ed, sm2⟩ := hp
        rw [lx4, List.take_length] at ed
        refine ⟨D, _, rfl, .of ed, q H2 _ (sm.trans sm2) fun z O => ?_⟩
        refine rest_dead dT n1 fun p hp => ?_
        rw [List.all_eq_true] at z
        have z1 := z _ (List.mem_map.mpr ⟨p, hp, rfl⟩)
        exact (fmod_dvd hm).mp (by simpa using z1)
    · exact no H1 sm
end
end Calm

namespace Calm
open PySem PySem.Spec PyProof.Rows L2
/-- what a paper's reader is handed -/
structure Sh (H : Hp) (nm a o : Addr) (A : List Fm) (O : List (List Fm)) (p : Pp) : Prop where
  names : ∃ ns : List Str, H nm = some (.lst (ns.map V.str))
  la : LstD H a (A.map Fm.d)
  lo : LstD H o (O.map orD)
  oA : okA A
  oO : okO 60 O
  ok : p.ok
  len : A.length + O.length + 61 * (p.dep + 1) ≤ 900000
theorem Sh.keep {H H' : Hp} {nm a o : Addr} {A : List Fm} {O : List (List Fm)} {p : Pp} (h : Sh H nm a o A O p) (s : Same H H') : Sh H' nm a o A O p := by
  obtain ⟨⟨ns, e⟩, la, lo, oA, oO, ok, len⟩ := h
  exact ⟨⟨ns, s _ _ e⟩, la.keep s, lo.keep s, oA, oO, ok, len⟩
theorem por_inv {H : Hp} {v : V} {j : Int} {ps : List Pp} (h : Tp H v (Pp.or j ps).d) : ∃ c q xs, v = .ref c ∧ H c = some (.tup [.str "or", .int j, .ref q]) ∧ H q = some (.tup xs) ∧ TpAll H xs (ps.map Pp.d) := by
  obtain ⟨c, ys, e, ec, h⟩ := Tp.tup_inv (show Tp H v (.tuple [.str "or", .int j, .tuple (Pp.ds ps)]) from h)
  obtain ⟨x, r, e1, h1, h⟩ := h.cons_inv
  obtain ⟨y, r2, e2, h2, h⟩ := h.cons_inv
  obtain ⟨z, r3, e3, h3, h⟩ := h.cons_inv
  have e4 := h.nil_inv
  obtain ⟨q, xs, e5, eq, h5⟩ := h3.tup_inv
  subst e5 e4 e3 e2 e1
  rw [h1.str_inv, h2.int_inv] at ec
  rw [pds_eq] at h5
  exact ⟨c, q, xs, e, ec, eq, h5⟩
theorem pcut_inv {H : Hp} {v : V} {b : Str} {k : Int} {lo hi : Pp} (h : Tp H v (Pp.cut b k lo hi).d) : ∃ c y z, v = .ref c ∧ H c = some (.tup [.str "cut", .str b, .int k, y, z]) ∧ Tp H y lo.d ∧ Tp H z hi.d := by
  obtain ⟨c, ys, e, ec, h⟩ := Tp.tup_inv (show Tp H v (.tuple [.str "cut", .str b, .int k, lo.d, hi.d]) from h)
  obtain ⟨x1, r1, e1, h1, h⟩ := h.cons_inv
  obtain ⟨x2, r2, e2, h2, h⟩ := h.cons_inv
  obtain ⟨x3, r3, e3, h3, h⟩ := h.cons_inv
  obtain ⟨x4, r4, e4, h4, h⟩ := h.cons_inv
  obtain ⟨x5, r5, e5, h5, h⟩ := h.cons_inv
  have e6 := h.nil_inv
  subst e6 e5 e4 e3 e2 e1
  rw [h1.str_inv, h2.str_inv, h3.int_inv] at ec
  exact ⟨c, x4, x5, e, ec, h4, h5⟩
theorem psum_inv {H : Hp} {v : V} {R : List (List Int)} (h : Tp H v (Pp.sum R).d) : ∃ c y, v = .ref c ∧ H c = some (.tup [.str "sum", y]) ∧ Tp H y (rowsD R) := by
  obtain ⟨c, ys, e, ec, h⟩ := Tp.tup_inv (show Tp H v (.tuple [.str "sum", rowsD R]) from h)
  obtain ⟨x1, r1, e1, h1, h⟩ := h.cons_inv
  obtain ⟨x2, r2, e2, h2, h⟩ := h.cons_inv
  have e6 := h.nil_inv
  subst e6 e2 e1
  rw [h1.str_inv] at ec
  exact ⟨c, x2, e, ec, h2⟩
theorem prest_inv {H : Hp} {v : V} {m : Int} {R : List (List Int)} (h : Tp H v (Pp.rest m R).d) : ∃ c y, v = .ref c ∧ H c = some (.tup [.str "rest", .int m, y]) ∧ Tp H y (rowsD R) := by
  obtain ⟨c, ys, e, ec, h⟩ := Tp.tup_inv (show Tp H v (.tuple [.str "rest", .int m, rowsD R]) from h)
  obtain ⟨x1, r1, e1, h1, h⟩ := h.cons_inv
  obtain ⟨x2, r2, e2, h2, h⟩ := h.cons_inv
  obtain ⟨x3, r3, e3, h3, h⟩ := h.cons_inv
  have e6 := h.nil_inv
  subst e6 e3 e2 e1
  rw [h1.str_inv, h2.int_inv] at ec
  exact ⟨c, x3, e, ec, h3⟩
section
variable {P : Program} {w : World} {K : PySem.W.Frag} {mg : Str → Option Value} {base : Heap}
abbrev pShows : List Str := ["names", "atoms", "ors", "paper", "deep"]
def spShows (n : Nat) : Sp := fun vs H Q _ => ∃ (nm a o : Addr) (v : V) (dp : Int) (A : List Fm) (O : List (List Fm)) (p : Pp), vs = [.ref nm, .ref a, .ref o, v, .int dp] ∧ Sh H nm a o A O p ∧ Tp H v p.d ∧ p.dep < n ∧
  ∀ (H' : Hp) (b : Bool), Same H H' → (b = true → Dead A O) → (∀ R, p = .sum R → 1 ≤ dp → (b = true ↔ SumOk A R)) → Q (.bl b) H'
/-! ### shows_or -/
abbrev sOr : Stmt := topS 13
theorem scOr : FnScope ["names", "atoms", "ors", "paper", "deep", "members", "form", "one", "more_atoms", "more_ors"] pShows (defScope sOr) := ⟨rfl, rfl, rfl, by decide +kernel, rfl, by decide +kernel, by decide +kernel⟩
def spOr (n : Nat) : Sp := fun vs H Q _ => ∃ (nm a o : Addr) (v : V) (dp : Int) (A : List Fm) (O : List (List Fm)) (j : Int) (ps : List Pp), vs = [.ref nm, .ref a, .ref o, v, .int dp] ∧ Sh H nm a o A O (.or j ps) ∧ Tp H v (Pp.or j ps).d ∧ Pp.deps ps < n ∧
  ∀ (H' : Hp) (b : Bool), Same H H' → (b = true → Dead A O) → Q (.bl b) H'
theorem ok_or {f fN fL fS : Addr} {fd fdN fdL fdS : FuncData} {k n : Nat} (R : Rf K mg "shows_or" sOr pShows f fd) (B : Bt mg)
    (RN : Rf K mg "is_number" sNum ["thing"] fN fdN) (GN : FnOk P w K mg base CX0 k fN fdN ["thing"] spNum)
    (RL : Rf K mg "lay_in" sLay ["form", "atoms", "ors"] fL fdL) (GL : FnOk P w K mg base CX0 k fL fdL ["form", "atoms", "ors"] (spLay 60))
    (RS : Rf K mg "shows" (topS 15) pShows fS fdS) (GS : FnOk P w K mg base CX0 k fS fdS pShows (spShows n)) :
    FnOk P w K mg base CX0 (k + 1) f fd pShows (spOr n) := by
  refine R.F.ok scOr (fun vs H Q E h => ?_) (fun cdv A' outer s H vs Q E hr h => ?_)
  · obtain ⟨nm, a, o, v, dp, A, O, j, ps, rfl, _⟩ := h
    rfl
  obtain ⟨nm, a, o, v, dp, A, O, j, ps, rfl, sh, tv, hd, q⟩ := h
  obtain ⟨c, q2, xp, rfl, ec, eq2, tp⟩ := por_inv tv
  obtain ⟨⟨ns, en⟩, la, ⟨xo, eo, to⟩, oA, oO, okp, len⟩ := id sh
  refine ⟨_, pss_cons (ps_if (PW.pt (pw_or (pt_not (pt_val (pe_call GN hr rfl RN.m RN.F.kp RN.b .nil pass0 (pa_cons (pe_ix ix_tup (pv 3) pe_int (fun _ _ => rfl)) pa_nil))))
      (pw_or (pt_not (pt_chain op_le op_lt pe_int (pe_ix ix_tup (pv 3) pe_int (fun _ _ => rfl)) (pe_callB call_len_seq (by rfl) B.len PySem.boot_len (pa_cons (pv 2) pa_nil))))
      (pw_or1 (pt_not (pt_val (pe_callB call_isi (by rfl) B.isinstance (by decide +kernel) (pa_cons (pe_ix ix_tup (pv 3) pe_int (fun _ _ => rfl)) (pa_cons (pe_bltn (v := .ty "tuple") (u := .type "tuple") (by rfl) B.tuple (by decide +kernel) rfl) pa_nil)))))))))
      (pss_one (ps_ret pe_bl)) pss_nil)
    (pss_cons (ps_set (i := 5) scOr.nd rfl (.inl rfl) (pe_ix ix_list (pv 2) (pe_ix ix_tup (pv 3) pe_int (fun _ _ => rfl)) (fun _ _ => rfl)))
    (pss_cons (ps_if (pt_cmpR op_ne (pe_callB call_len_seq (by rfl) B.len PySem.boot_len (pa_cons (pv 5) pa_nil)) (pe_callB call_len_seq (by rfl) B.len PySem.boot_len (pa_cons (pe_ix ix_tup (pv 3) pe_int (fun _ _ => rfl)) pa_nil)) (nomark _)) (pss_one (ps_ret pe_bl)) pss_nil)
    (pss_cons (ps_for PassesOwn.never rfl (RZ.pi_zipA (by rfl) B.zip (pa_cons (pv 5) (pa_cons (pe_ix ix_tup (pv 3) pe_int (fun _ _ => rfl)) pa_nil)))
        (pg_tup (n := 2) rfl (pgs_cons (pg_name (i := 6) scOr.nd rfl (.inl rfl)) (pgs_cons (pg_name (i := 7) scOr.nd rfl (.inl rfl)) pgs_nil)))
      (pss_cons (ps_asg (pe_call GL hr rfl RL.m RL.F.kp RL.b .nil pass0 (pa_cons (pv 6) (pa_cons (pv 1) (pa_cons (pv 2) pa_nil)))) (pg_tup (n := 2) rfl (pgs_cons (pg_name (i := 8) scOr.nd rfl (.inl rfl)) (pgs_cons (pg_name (i := 9) scOr.nd rfl (.inl rfl)) pgs_nil))))
      (pss_one (ps_if (pt_not (pt_val (pe_call GS hr rfl RS.m RS.F.kp RS.b .nil pass0 (pa_cons (pv 0) (pa_cons (pv 8) (pa_cons (pv 9) (pa_cons (pv 7) (pa_cons (pe_op op_sub (pv 4) pe_int) pa_nil))))))))
        (pss_one (ps_ret pe_bl)) pss_nil))))
    (pss_one (ps_ret pe_bl))))), ?_⟩
  have lo := to.len
  have lp := tp.len
  rw [List.length_map] at lo lp
  have no : ∀ (H2 : Hp), Same H H2 → Q (.bl false) H2 := fun H2 sm2 => q H2 false sm2 (fun z => nomatch z)
  refine ⟨_, rfl, c, _, 1, _, rfl, rfl, .of ec, atI_nat (j := 1) rfl, j, rfl, _, rfl, iteF ?_⟩
  refine ⟨_, rfl, c, _, 1, _, rfl, rfl, .of ec, atI_nat (j := 1) rfl, 0, j, rfl, rfl, _, rfl, ite2 (fun e0 => ?_) (fun e0 => ?_)⟩
  rotate_left
  · exact ⟨_, rfl, iteT (iteT (no H (.refl H)))⟩
  have h0 : 0 ≤ j := of_decide_eq_true e0
  refine ⟨_, rfl, o, _, rfl, .inl (.of eo), _, _, rfl, rfl, _, rfl, ?_⟩
  refine ite2 (fun e1 => ?_) (fun e1 => ?_)
  · exact iteT (no H (.refl H))
  have h1 : j < ((xo.length : Nat) : Int) := by simpa using e1
  refine ⟨_, rfl, c, _, 2, _, rfl, rfl, .of ec, atI_nat (j := 2) rfl, _, _, _, _, true, rfl, .ty _, .base (.tup eq2), kit_ty (by decide +kernel), true, rfl, iteF ?_⟩
  -- members
  have hj : j.toNat < xo.length := by omega
  have ej : j = ((j.toNat : Nat) : Int) := by omega
  obtain ⟨d, hdd, tm⟩ := to.get (List.getElem?_eq_getElem hj)
  obtain ⟨ms, hms, rfl⟩ := map_get hdd
  obtain ⟨qm, xm, em, eqm, txm⟩ := Tp.tup_inv (show Tp H _ (.tuple (Fm.ds ms)) from tm)
  rw [ds_eq] at txm
  have lm := txm.len
  rw [List.length_map] at lm
  have mO : ms ∈ O := List.mem_of_getElem? hms
  have hat : atI xo j = some xo[j.toNat] := at_of ej (List.getElem?_eq_getElem hj)
  rw [em] at hat
  refine ⟨_, rfl, _, rfl, c, _, 1, _, rfl, rfl, .of ec, atI_nat (j := 1) rfl, o, _, j, _, rfl, rfl, .of eo, hat, ?_⟩
  refine ⟨_, rfl, qm, _, rfl, .inr (.of eqm), _, rfl, c, _, 2, _, rfl, rfl, .of ec, atI_nat (j := 2) rfl, q2, _, rfl, .inr (.of eq2), rfl, _, rfl, ite2 (fun e2 => ?_) (fun e2 => ?_)⟩
  · exact no H (.refl H)
  have hl : xm.length = xp.length := by
    have : ((xm.length : Nat) : Int) = ((xp.length : Nat) : Int) := by simpa using e2
    omega
  refine ⟨_, rfl, _, rfl, c, _, 2, _, rfl, rfl, .of ec, atI_nat (j := 2) rfl, qm, q2, xm, xp, rfl, .inr ⟨.of eqm, .of eq2, ?_⟩⟩
  refine RZ.for_zipT hl (fun i σ H1 => ∃ y6 y7 y8 y9, σ = [some (.ref nm), some (.ref a), some (.ref o), some (.ref c), some (.int dp), some (.ref qm), y6, y7, y8, y9] ∧ Same H H1 ∧ ∀ F ∈ ms.take i, Dead (lay F (A, O)).1 (lay F (A, O)).2)
    ⟨none, none, none, none, rfl, .refl H, fun F hF => absurd hF (by simp)⟩ (fun i σ H1 hp => ?_) (fun i x y T σ H1 hx hy hp nT => ?_) (fun σ H1 hp => ?_)
  · obtain ⟨_, _, _, _, _, sm, _⟩ := hp
    exact ⟨.of (sm _ _ eqm), .of (sm _ _ eq2)⟩
  · obtain ⟨y6, y7, y8, y9, rfl, sm, dd⟩ := hp
    obtain ⟨d1, hd1, tx⟩ := txm.get hx
    obtain ⟨F, hF, rfl⟩ := map_get hd1
    obtain ⟨d2, hd2, ty⟩ := tp.get hy
    obtain ⟨p, hp, rfl⟩ := map_get hd2
    have sT := sm.trans (same_new nT (.tup [x, y]))
    obtain ⟨sO, okm⟩ := oO ms mO
    have szF : F.sz ≤ 60 := Nat.le_trans (sz_mem (List.mem_of_getElem? hF)) sO
    have okF := okm F (List.mem_of_getElem? hF)
    have mp : p ∈ ps := List.mem_of_getElem? hp
    have dpp := dep_mem mp
    simp only [Pp.dep] at len
    refine ⟨T, _, rfl, .of upd_same, rfl, _, _, rfl, _, _, rfl, rfl, ?_⟩
    refine ⟨_, rfl, _, rfl, _, rfl, x, a, o, F, A, O, rfl, tx.keep (.of sT), la.keep sT, ⟨xo, sT _ _ eo, to.keep (.of sT)⟩, szF, by omega, fun H2 r a' o' sm2 er la' lo' => ?_⟩
    refine ⟨r, _, rfl, .of er, rfl, _, _, rfl, _, _, rfl, rfl, ?_⟩
    have sA := sT.trans sm2
    obtain ⟨k1, k2, k3⟩ := lay_ok (S := 60) F (A, O) okF szF oA oO
    simp only at k3
    refine ⟨_, rfl, _, rfl, _, rfl, _, rfl, _, rfl, dp, 1, rfl, rfl, nm, a', o', y, dp - 1, _, _, p, rfl, ⟨⟨ns, sA _ _ en⟩, la', lo', k1, k2, poks_iff.mp okp p mp, by omega⟩, ty.keep (.of sA), by omega, fun H3 b sm3 hb _ => ?_⟩
    refine ⟨b, rfl, ite2 (fun e3 => ?_) (fun e3 => ?_)⟩
    · exact no H3 (sA.trans sm3)
    · have eb : b = true := by simpa using e3
      refine ⟨some x, some y, some (.ref a'), some (.ref o'), rfl, sA.trans sm3, fun G hG => ?_⟩
      have ht : ms.take (i + 1) = ms.take i ++ [F] := by rw [List.take_add_one, hF]; rfl
      rw [ht] at hG
      rcases List.mem_append.mp hG with z | z
      · exact dd G z
      · have z' : G = F := by simpa using z
        rw [z']
        exact hb eb
  · obtain ⟨y6, y7, y8, y9, rfl, sm, dd⟩ := hp
    rw [lm, List.take_length] at dd
    exact q H1 true sm fun _ => or_dead mO dd
end
end Calm

namespace Calm
open PySem PySem.Spec PyProof.Rows L2
theorem flat_strs (ns : List Str) : (ns.map V.str).all flatV = true := by
  rw [List.all_eq_true]
  intro x hx
  obtain ⟨s, _, rfl⟩ := List.mem_map.mp hx
  rfl
theorem most_mk {H : Hp} {a : Addr} {y : V} {s : Sm} (h : H a = some (.tup [.str "most", y])) (t : Tp H y (smD s)) : Tp H (.ref a) (Fm.most s).d := .tup h (.cons (.str _) (.cons t .nil))
section
variable {P : Program} {w : World} {K : PySem.W.Frag} {mg : Str → Option Value} {base : Heap}
/-! ### shows_cut -/
abbrev sCut : Stmt := topS 14
theorem scCut : FnScope ["names", "atoms", "ors", "paper", "deep", "word", "box", "k", "low", "high", "below", "above"] pShows (defScope sCut) := ⟨rfl, rfl, rfl, by decide +kernel, rfl, by decide +kernel, by decide +kernel⟩
def spCut (n : Nat) : Sp := fun vs H Q _ => ∃ (nm a o : Addr) (v : V) (dp : Int) (A : List Fm) (O : List (List Fm)) (b : Str) (j : Int) (lo hi : Pp), vs = [.ref nm, .ref a, .ref o, v, .int dp] ∧ Sh H nm a o A O (.cut b j lo hi) ∧ Tp H v (Pp.cut b j lo hi).d ∧ lo.dep < n ∧ hi.dep < n ∧
  ∀ (H' : Hp) (c : Bool), Same H H' → (c = true → Dead A O) → Q (.bl c) H'
theorem ok_cut {f fN fS fM : Addr} {fd fdN fdS fdM : FuncData} {k n : Nat} (R : Rf K mg "shows_cut" sCut pShows f fd) (B : Bt mg)
    (RN : Rf K mg "is_number" sNum ["thing"] fN fdN) (GN : FnOk P w K mg base CX0 k fN fdN ["thing"] spNum)
    (RM : Rf K mg "sum_of" sSumOf ["number", "pairs"] fM fdM) (GM : FnOk P w K mg base CX0 k fM fdM ["number", "pairs"] (spSumOf K))
    (RS : Rf K mg "shows" (topS 15) pShows fS fdS) (GS : FnOk P w K mg base CX0 k fS fdS pShows (spShows n)) :
    FnOk P w K mg base CX0 (k + 1) f fd pShows (spCut n) := by
  refine R.F.ok scCut (fun vs H Q E h => ?_) (fun cdv A' outer s H vs Q E hr h => ?_)
  · obtain ⟨nm, a, o, v, dp, A, O, b, j, lo, hi, rfl, _⟩ := h
    rfl
  obtain ⟨nm, a, o, v, dp, A, O, b, j, lo, hi, rfl, sh, tv, hd1, hd2, q⟩ := h
  obtain ⟨c, y, z, rfl, ec, ty, tz⟩ := pcut_inv tv
  obtain ⟨⟨ns, en⟩, ⟨xa, ea, ta⟩, la2, oA, oO, okp, len⟩ := id sh
  refine ⟨_, pss_cons (ps_asg (pv 3) (pg_tup (n := 5) rfl (pgs_cons (pg_name (i := 5) scCut.nd rfl (.inl rfl)) (pgs_cons (pg_name (i := 6) scCut.nd rfl (.inl rfl)) (pgs_cons (pg_name (i := 7) scCut.nd rfl (.inl rfl)) (pgs_cons (pg_name (i := 8) scCut.nd rfl (.inl rfl)) (pgs_cons (pg_name (i := 9) scCut.nd rfl (.inl rfl)) pgs_nil)))))))
    (pss_cons (ps_if (PW.pt (pw_or (pt_not (pt_val (pe_callB call_isi (by rfl) B.isinstance (by decide +kernel) (pa_cons (pv 6) (pa_cons (pe_bltn (v := .ty "str") (u := .type "str") (by rfl) B.str (by decide +kernel) rfl) pa_nil)))))
        (pw_or (pt_cmpR op_notIn_seq (pv 6) (pv 0) (by rfl)) (pw_or1 (pt_not (pt_val (pe_call GN hr rfl RN.m RN.F.kp RN.b .nil pass0 (pa_cons (pv 7) pa_nil))))))))
      (pss_one (ps_ret pe_bl)) pss_nil)
    (pss_cons (ps_set (i := 10) scCut.nd rfl (.inl rfl) (pe_tup (pa_cons pe_str (pa_cons (pe_call GM hr rfl RM.m RM.F.kp RM.b .nil pass0 (pa_cons (pe_un un_neg (pv 7)) (pa_cons (pe_lst (pa_cons (pe_tup (pa_cons (pv 6) (pa_cons pe_int pa_nil))) pa_nil)) pa_nil))) pa_nil))))
    (pss_cons (ps_set (i := 11) scCut.nd rfl (.inl rfl) (pe_tup (pa_cons pe_str (pa_cons (pe_call GM hr rfl RM.m RM.F.kp RM.b .nil pass0 (pa_cons (pe_op op_add (pv 7) pe_int) (pa_cons (pe_lst (pa_cons (pe_tup (pa_cons (pv 6) (pa_cons (pe_un un_neg pe_int) pa_nil))) pa_nil)) pa_nil))) pa_nil))))
    (pss_cons (ps_if (pt_not (pt_val (pe_call GS hr rfl RS.m RS.F.kp RS.b .nil pass0 (pa_cons (pv 0) (pa_cons (pe_op op_cat (pv 1) (pe_lst (pa_cons (pv 10) pa_nil))) (pa_cons (pv 2) (pa_cons (pv 8) (pa_cons (pe_op op_sub (pv 4) pe_int) pa_nil)))))))) (pss_one (ps_ret pe_bl)) pss_nil)
    (pss_one (ps_ret (pe_call GS hr rfl RS.m RS.F.kp RS.b .nil pass0 (pa_cons (pv 0) (pa_cons (pe_op op_cat (pv 1) (pe_lst (pa_cons (pv 11) pa_nil))) (pa_cons (pv 2) (pa_cons (pv 9) (pa_cons (pe_op op_sub (pv 4) pe_int) pa_nil))))))))))))
    , ?_⟩
  have la := ta.len
  rw [List.length_map] at la
  have no : ∀ (H2 : Hp), Same H H2 → Q (.bl false) H2 := fun H2 sm2 => q H2 false sm2 (fun z => nomatch z)
  simp only [Pp.dep] at len
  refine ⟨_, rfl, c, _, rfl, .of ec, rfl, _, _, rfl, _, _, rfl, _, _, rfl, _, _, rfl, _, _, rfl, rfl, ?_⟩
  refine ⟨_, rfl, _, _, _, _, true, rfl, .ty _, .base (.str b), kit_ty (by decide +kernel), true, rfl, iteF ?_⟩
  refine ⟨_, rfl, _, rfl, nm, _, rfl, .inl (.of en), rfl, flat_strs ns, _, rfl, ite2 (fun e => iteT (no H (.refl H))) (fun e => ?_)⟩
  refine ⟨_, rfl, j, rfl, _, rfl, iteF ?_⟩
  -- below
  refine ⟨_, rfl, j, rfl, _, rfl, (by show 2 ≤ sizeLine; decide), fun t1 n1 => ⟨(by show 1 ≤ sizeLine; decide), fun l1 m1 => ?_⟩⟩
  have s1 := same_new n1 (.tup [.str b, .int 1])
  have s2 := same_new m1 (.lst [.ref t1])
  refine ⟨-j, l1, [.ref t1], [(b, 1)], rfl, .inl upd_same, .one (pair_mk (s2 _ _ upd_same)), by simp, fun H1 v1 S1 sm1 tS1 eS1 gS1 lS1 llS1 => ⟨(by show 2 ≤ sizeLine; decide), fun p1 np1 => ?_⟩⟩
  have s3 := same_new np1 (.tup [.str "most", v1])
  have sA := ((s1.trans s2).trans sm1).trans s3
  have tB := most_mk (s := S1) (upd_same (H := H1) (a := p1) (o := .tup [.str "most", v1])) (tS1.keep (.of s3))
  -- above
  refine ⟨_, rfl, j, 1, rfl, rfl, _, rfl, 1, rfl, (by show 2 ≤ sizeLine; decide), fun t2 n2 => ⟨(by show 1 ≤ sizeLine; decide), fun l2 m2 => ?_⟩⟩
  have s4 := same_new n2 (.tup [.str b, .int (-1)])
  have s5 := same_new m2 (.lst [.ref t2])
  refine ⟨j + 1, l2, [.ref t2], [(b, -1)], rfl, .inl upd_same, .one (pair_mk (s5 _ _ upd_same)), by simp, fun H2 v2 S2 sm2 tS2 eS2 gS2 lS2 llS2 => ⟨(by show 2 ≤ sizeLine; decide), fun p2 np2 => ?_⟩⟩
  have s6 := same_new np2 (.tup [.str "most", v2])
  have sB := ((s4.trans s5).trans sm2).trans s6
  have tC := most_mk (s := S2) (upd_same (H := H2) (a := p2) (o := .tup [.str "most", v2])) (tS2.keep (.of s6))
  have sC := sA.trans sB
  have v1e : ∀ f, val f S1 = f b - j := fun f => by
    unfold val
    rw [eS1, lS1]
    simp [lin]
    omega
  have v2e : ∀ f, val f S2 = j + 1 - f b := fun f => by
    unfold val
    rw [eS2, lS2]
    simp [lin]
    omega
  have okm : ∀ (S : Sm), S.2.length ≤ 1 → okA (A ++ [.most S]) := fun S hS G hG => (List.mem_append.mp hG).elim (oA G) (fun hG => by
    have e : G = .most S := by simpa using hG
    rw [e]
    show S.2.length ≤ 100
    omega)
  -- the lower side
  refine ⟨_, rfl, _, rfl, _, rfl, (by show 1 ≤ sizeLine; decide), fun l3 m3 => ?_⟩
  have s7 := same_new m3 (.lst [.ref p1])
  have sD := sC.trans s7
  refine ⟨a, l3, xa, _, rfl, rfl, sD _ _ ea, upd_same, by rw [sizeLine_eq, la]; simp only [List.length_singleton]; omega, fun l4 m4 => ?_⟩
  have s8 := same_new m4 (.lst (xa ++ [.ref p1]))
  have sE := sD.trans s8
  refine ⟨_, rfl, _, rfl, _, rfl, dp, 1, rfl, rfl, nm, l4, o, y, dp - 1, A ++ [.most S1], O, lo, rfl, ⟨⟨ns, sE _ _ en⟩, ⟨_, upd_same, ?_⟩, la2.keep sE, okm S1 llS1, oO, okp.1, ?_⟩, ty.keep (.of sE), hd1, fun H3 c3 sm3 hc3 _ => ?_⟩
  · rw [List.map_append]
    exact (ta.keep (.of sE)).append (.one (((tB.keep (.of sB)).keep (.of s7)).keep (.of s8)))
  · rw [List.length_append]
    simp only [List.length_singleton]
    omega
  refine ⟨c3, rfl, ite2 (fun e3 => no H3 (sE.trans sm3)) (fun e3 => ?_)⟩
  have e4 : c3 = true := by simpa using e3
  -- the upper side
  have sF := sE.trans sm3
  refine ⟨_, rfl, _, rfl, _, rfl, (by show 1 ≤ sizeLine; decide), fun l5 m5 => ?_⟩
  have s9 := same_new m5 (.lst [.ref p2])
  have sG := sF.trans s9
  refine ⟨a, l5, xa, _, rfl, rfl, sG _ _ ea, upd_same, by rw [sizeLine_eq, la]; simp only [List.length_singleton]; omega, fun l6 m6 => ?_⟩
  have s10 := same_new m6 (.lst (xa ++ [.ref p2]))
  have sH := sG.trans s10
  refine ⟨_, rfl, _, rfl, _, rfl, dp, 1, rfl, rfl, nm, l6, o, z, dp - 1, A ++ [.most S2], O, hi, rfl, ⟨⟨ns, sH _ _ en⟩, ⟨_, upd_same, ?_⟩, la2.keep sH, okm S2 llS2, oO, okp.2, ?_⟩, tz.keep (.of sH), hd2, fun H4 c4 sm4 hc4 _ => ?_⟩
  · rw [List.map_append]
    refine (ta.keep (.of sH)).append (.one ?_)
    exact ((((tC.keep (.of s7)).keep (.of s8)).keep (.of sm3)).keep (.of s9)).keep (.of s10)
  · rw [List.length_append]
    simp only [List.length_singleton]
    omega
  exact q H4 c4 (sH.trans sm4) fun e5 => cut_dead v1e v2e (hc3 e4) (hc4 e5)
end
end Calm

namespace Calm
open PySem PySem.Spec PyProof.Rows L2
theorem wv_rs : ¬ (V.str "rest" = V.str "sum") := by decide +kernel
theorem wv_os : ¬ (V.str "or" = V.str "sum") := by decide +kernel
theorem wv_or : ¬ (V.str "or" = V.str "rest") := by decide +kernel
theorem wv_cs : ¬ (V.str "cut" = V.str "sum") := by decide +kernel
theorem wv_cr : ¬ (V.str "cut" = V.str "rest") := by decide +kernel
theorem wv_co : ¬ (V.str "cut" = V.str "or") := by decide +kernel
theorem yes2 {x : V} {A B : Prop} (h : A) : if decide (x = x) = true then A else B := by
  rw [if_pos (decide_eq_true rfl)]
  exact h
theorem no2 {x y : V} {A B : Prop} (n : ¬ x = y) (h : B) : if decide (x = y) = true then A else B := by
  rw [if_neg (fun e => n (of_decide_eq_true e))]
  exact h
section
variable {P : Program} {w : World} {K : PySem.W.Frag} {mg : Str → Option Value} {base : Heap}
/-! ### shows -/
abbrev sShows : Stmt := topS 15
theorem scShows : FnScope pShows pShows (defScope sShows) := ⟨rfl, rfl, rfl, by decide +kernel, rfl, by decide +kernel, by decide +kernel⟩
theorem ok_shows1 {f fS fR fO fC : Addr} {fd fdS fdR fdO fdC : FuncData} {k n : Nat} (R : Rf K mg "shows" sShows pShows f fd) (B : Bt mg)
    (RS : Rf K mg "shows_sum" sSum ["atoms", "rows"] fS fdS) (GS : FnOk P w K mg base CX0 k fS fdS ["atoms", "rows"] (spSum K))
    (RR : Rf K mg "shows_rest" sRest ["atoms", "divisor", "rows"] fR fdR) (GR : FnOk P w K mg base CX0 k fR fdR ["atoms", "divisor", "rows"] spRest)
    (RO : Rf K mg "shows_or" sOr pShows fO fdO) (GO : FnOk P w K mg base CX0 k fO fdO pShows (spOr n))
    (RC : Rf K mg "shows_cut" sCut pShows fC fdC) (GC : FnOk P w K mg base CX0 k fC fdC pShows (spCut n)) :
    FnOk P w K mg base CX0 (k + 1) f fd pShows (spShows (n + 1)) := by
  refine R.F.ok scShows (fun vs H Q E h => ?_) (fun cdv A' outer s H vs Q E hr h => ?_)
  · obtain ⟨nm, a, o, v, dp, A, O, p, rfl, _⟩ := h
    rfl
  obtain ⟨nm, a, o, v, dp, A, O, p, rfl, sh, tv, hd, q⟩ := h
  refine ⟨_, pss_cons (ps_if (PW.pt (pw_or (pt_cmpR op_lt (pv 4) pe_int (nomark _)) (pw_or (pt_not (pt_val (pe_callB call_isi (by rfl) B.isinstance (by decide +kernel) (pa_cons (pv 3) (pa_cons (pe_bltn (v := .ty "tuple") (u := .type "tuple") (by rfl) B.tuple (by decide +kernel) rfl) pa_nil)))))
        (pw_or1 (pt_cmpR op_lt (pe_callB call_len_seq (by rfl) B.len PySem.boot_len (pa_cons (pv 3) pa_nil)) pe_int (nomark _)))))) (pss_one (ps_ret pe_bl)) pss_nil)
    (pss_cons (ps_if (PW.pt (pw_and (pt_cmpR op_eq (pe_ix ix_tup (pv 3) pe_int (fun _ _ => rfl)) pe_str (nomark _)) (pw_and1 (pt_cmpR op_eq (pe_callB call_len_seq (by rfl) B.len PySem.boot_len (pa_cons (pv 3) pa_nil)) pe_int (nomark _)))))
      (pss_one (ps_ret (pe_call GS hr rfl RS.m RS.F.kp RS.b .nil pass0 (pa_cons (pv 1) (pa_cons (pe_ix ix_tup (pv 3) pe_int (fun _ _ => rfl)) pa_nil))))) pss_nil)
    (pss_cons (ps_if (PW.pt (pw_and (pt_cmpR op_eq (pe_ix ix_tup (pv 3) pe_int (fun _ _ => rfl)) pe_str (nomark _)) (pw_and1 (pt_cmpR op_eq (pe_callB call_len_seq (by rfl) B.len PySem.boot_len (pa_cons (pv 3) pa_nil)) pe_int (nomark _)))))
      (pss_one (ps_ret (pe_call GR hr rfl RR.m RR.F.kp RR.b .nil pass0 (pa_cons (pv 1) (pa_cons (pe_ix ix_tup (pv 3) pe_int (fun _ _ => rfl)) (pa_cons (pe_ix ix_tup (pv 3) pe_int (fun _ _ => rfl)) pa_nil)))))) pss_nil)
    (pss_cons (ps_if (PW.pt (pw_and (pt_cmpR op_eq (pe_ix ix_tup (pv 3) pe_int (fun _ _ => rfl)) pe_str (nomark _)) (pw_and1 (pt_cmpR op_eq (pe_callB call_len_seq (by rfl) B.len PySem.boot_len (pa_cons (pv 3) pa_nil)) pe_int (nomark _)))))
      (pss_one (ps_ret (pe_call GO hr rfl RO.m RO.F.kp RO.b .nil pass0 (pa_cons (pv 0) (pa_cons (pv 1) (pa_cons (pv 2) (pa_cons (pv 3) (pa_cons (pv 4) pa_nil)))))))) pss_nil)
    (pss_cons (ps_if (PW.pt (pw_and (pt_cmpR op_eq (pe_ix ix_tup (pv 3) pe_int (fun _ _ => rfl)) pe_str (nomark _)) (pw_and1 (pt_cmpR op_eq (pe_callB call_len_seq (by rfl) B.len PySem.boot_len (pa_cons (pv 3) pa_nil)) pe_int (nomark _)))))
      (pss_one (ps_ret (pe_call GC hr rfl RC.m RC.F.kp RC.b .nil pass0 (pa_cons (pv 0) (pa_cons (pv 1) (pa_cons (pv 2) (pa_cons (pv 3) (pa_cons (pv 4) pa_nil)))))))) pss_nil)
    (pss_one (ps_ret pe_bl)))))), ?_⟩
  refine ⟨_, rfl, dp, 1, rfl, rfl, _, rfl, ite2 (fun e => iteT (q H false (.refl H) (fun z => nomatch z) fun R _ h1 => ?_)) (fun e => ?_)⟩
  · have : dp < 1 := of_decide_eq_true e
    omega
  cases p with
  | sum Rw =>
    obtain ⟨c, y, rfl, ec, ty⟩ := psum_inv tv
    refine ⟨_, rfl, _, _, _, _, true, rfl, .ty _, .base (.tup ec), kit_ty (by decide +kernel), true, rfl, iteF ?_⟩
    refine ⟨_, rfl, c, _, rfl, .inr (.of ec), 2, 2, rfl, rfl, _, rfl, iteF ?_⟩
    refine ⟨_, rfl, c, _, 0, _, rfl, rfl, .of ec, atI_nat (j := 0) rfl, rfl, _, rfl, yes2 ?_⟩
    refine ⟨_, rfl, c, _, rfl, .inr (.of ec), rfl, _, rfl, iteT ?_⟩
    exact ⟨_, rfl, _, rfl, c, _, 1, _, rfl, rfl, .of ec, atI_nat (j := 1) rfl, a, y, A, Rw, rfl, sh.la, sh.oA, ty, sh.ok, fun H' b sm hb => q H' b sm (fun z => sum_dead (hb.mp z)) fun R' eR _ => by
      cases eR
      exact hb⟩
  | rest m Rw =>
    obtain ⟨c, y, rfl, ec, ty⟩ := prest_inv tv
    refine ⟨_, rfl, _, _, _, _, true, rfl, .ty _, .base (.tup ec), kit_ty (by decide +kernel), true, rfl, iteF ?_⟩
    refine ⟨_, rfl, c, _, rfl, .inr (.of ec), 3, 2, rfl, rfl, _, rfl, iteF ?_⟩
    refine ⟨_, rfl, c, _, 0, _, rfl, rfl, .of ec, atI_nat (j := 0) rfl, rfl, _, rfl, no2 wv_rs (iteF ?_)⟩
    refine ⟨_, rfl, c, _, 0, _, rfl, rfl, .of ec, atI_nat (j := 0) rfl, rfl, _, rfl, yes2 ?_⟩
    refine ⟨_, rfl, c, _, rfl, .inr (.of ec), rfl, _, rfl, iteT ?_⟩
    exact ⟨_, rfl, _, rfl, c, _, 1, _, rfl, rfl, .of ec, atI_nat (j := 1) rfl, _, rfl, c, _, 2, _, rfl, rfl, .of ec, atI_nat (j := 2) rfl, a, m, y, A, Rw, rfl, sh.la, sh.oA, ty, sh.ok, fun H' b sm hb => q H' b sm (fun z => hb z O) fun R' eR _ => nomatch eR⟩
  | or j ps =>
    obtain ⟨c, q2, xp, rfl, ec, eq2, tp⟩ := por_inv tv
    refine ⟨_, rfl, _, _, _, _, true, rfl, .ty _, .base (.tup ec), kit_ty (by decide +kernel), true, rfl, iteF ?_⟩
    refine ⟨_, rfl, c, _, rfl, .inr (.of ec), 3, 2, rfl, rfl, _, rfl, iteF ?_⟩
    refine ⟨_, rfl, c, _, 0, _, rfl, rfl, .of ec, atI_nat (j := 0) rfl, rfl, _, rfl, no2 wv_os (iteF ?_)⟩
    refine ⟨_, rfl, c, _, 0, _, rfl, rfl, .of ec, atI_nat (j := 0) rfl, rfl, _, rfl, no2 wv_or (iteF ?_)⟩
    refine ⟨_, rfl, c, _, 0, _, rfl, rfl, .of ec, atI_nat (j := 0) rfl, rfl, _, rfl, yes2 ?_⟩
    refine ⟨_, rfl, c, _, rfl, .inr (.of ec), rfl, _, rfl, iteT ?_⟩
    simp only [Pp.dep] at hd
    exact ⟨_, rfl, _, rfl, _, rfl, _, rfl, _, rfl, nm, a, o, _, dp, A, O, j, ps, rfl, sh, tv, by omega, fun H' b sm hb => q H' b sm hb fun R' eR _ => nomatch eR⟩
  | cut b j lo hi =>
    obtain ⟨c, y, z, rfl, ec, ty, tz⟩ := pcut_inv tv
    refine ⟨_, rfl, _, _, _, _, true, rfl, .ty _, .base (.tup ec), kit_ty (by decide +kernel), true, rfl, iteF ?_⟩
    refine ⟨_, rfl, c, _, rfl, .inr (.of ec), 5, 2, rfl, rfl, _, rfl, iteF ?_⟩
    refine ⟨_, rfl, c, _, 0, _, rfl, rfl, .of ec, atI_nat (j := 0) rfl, rfl, _, rfl, no2 wv_cs (iteF ?_)⟩
    refine ⟨_, rfl, c, _, 0, _, rfl, rfl, .of ec, atI_nat (j := 0) rfl, rfl, _, rfl, no2 wv_cr (iteF ?_)⟩
    refine ⟨_, rfl, c, _, 0, _, rfl, rfl, .of ec, atI_nat (j := 0) rfl, rfl, _, rfl, no2 wv_co (iteF ?_)⟩
    refine ⟨_, rfl, c, _, 0, _, rfl, rfl, .of ec, atI_nat (j := 0) rfl, rfl, _, rfl, yes2 ?_⟩
    refine ⟨_, rfl, c, _, rfl, .inr (.of ec), rfl, _, rfl, iteT ?_⟩
    simp only [Pp.dep] at hd
    exact ⟨_, rfl, _, rfl, _, rfl, _, rfl, _, rfl, nm, a, o, _, dp, A, O, b, j, lo, hi, rfl, sh, tv, by omega, by omega, fun H' c' sm hb => q H' c' sm hb fun R' eR _ => nomatch eR⟩
end
end Calm

namespace Calm
open PySem PySem.Spec PyProof.Rows L2
abbrev sRA : Stmt := topS 16
abbrev sLet : Stmt := topS 17
/-- the checker's defs as they stand -/
structure Pg (K : PySem.W.Frag) (mg : Str → Option Value) where
  (a1 : Addr) (d1 : FuncData) (r1 : Rf K mg "sum_of" sSumOf ["number", "pairs"] a1 d1)
  (a2 : Addr) (d2 : FuncData) (r2 : Rf K mg "plus" sPlus ["one", "other"] a2 d2)
  (a3 : Addr) (d3 : FuncData) (r3 : Rf K mg "by" sBy ["one", "times"] a3 d3)
  (a6 : Addr) (d6 : FuncData) (r6 : Rf K mg "is_number" sNum ["thing"] a6 d6)
  (a7 : Addr) (d7 : FuncData) (r7 : Rf K mg "is_row" sRow ["thing", "many"] a7 d7)
  (a8 : Addr) (d8 : FuncData) (r8 : Rf K mg "lay_in" sLay ["form", "atoms", "ors"] a8 d8)
  (a9 : Addr) (d9 : FuncData) (r9 : Rf K mg "atom_at" sAtom ["atoms", "place", "word"] a9 d9)
  (a10 : Addr) (d10 : FuncData) (r10 : Rf K mg "shows_sum" sSum ["atoms", "rows"] a10 d10)
  (a11 : Addr) (d11 : FuncData) (r11 : Rf K mg "rest_part" sRPart ["atoms", "divisor", "row"] a11 d11)
  (a12 : Addr) (d12 : FuncData) (r12 : Rf K mg "shows_rest" sRest ["atoms", "divisor", "rows"] a12 d12)
  (a13 : Addr) (d13 : FuncData) (r13 : Rf K mg "shows_or" sOr pShows a13 d13)
  (a14 : Addr) (d14 : FuncData) (r14 : Rf K mg "shows_cut" sCut pShows a14 d14)
  (a15 : Addr) (d15 : FuncData) (r15 : Rf K mg "shows" sShows pShows a15 d15)
  (a16 : Addr) (d16 : FuncData) (r16 : Rf K mg "row_atoms" sRA ["rows"] a16 d16)
  (a17 : Addr) (d17 : FuncData) (r17 : Rf K mg "let_by" sLet ["rows", "forms", "paper"] a17 d17)
  deepest : ∃ t : Tok, mg "DEEPEST" = some (.int 90 t)
section
variable {P : Program} {w : World} {K : PySem.W.Frag} {mg : Str → Option Value} {base : Heap}
theorem Pg.sumOf (G : Pg K mg) (B : Bt mg) : FnOk P w K mg base CX0 1 G.a1 G.d1 ["number", "pairs"] (spSumOf K) := ok_sumOf G.r1 B
theorem Pg.plus (G : Pg K mg) (B : Bt mg) : FnOk P w K mg base CX0 2 G.a2 G.d2 ["one", "other"] (spPlus K) := ok_plus G.r2 G.r1 (G.sumOf B)
theorem Pg.by (G : Pg K mg) (B : Bt mg) : FnOk P w K mg base CX0 2 G.a3 G.d3 ["one", "times"] (spBy K) := ok_by G.r3 G.r1 (G.sumOf B)
theorem Pg.num (G : Pg K mg) (B : Bt mg) : FnOk P w K mg base CX0 1 G.a6 G.d6 ["thing"] spNum := ok_num G.r6 B
theorem Pg.row (G : Pg K mg) (B : Bt mg) : FnOk P w K mg base CX0 2 G.a7 G.d7 ["thing", "many"] (spRow K) := ok_row G.r7 B G.r6 (G.num B)
theorem Pg.lay (G : Pg K mg) : FnOk P w K mg base CX0 60 G.a8 G.d8 ["form", "atoms", "ors"] (spLay 60) := ok_lay G.r8 60
theorem Pg.atom (G : Pg K mg) (B : Bt mg) : FnOk P w K mg base CX0 1 G.a9 G.d9 ["atoms", "place", "word"] spAtom := ok_atom G.r9 B
theorem Pg.sum (G : Pg K mg) (B : Bt mg) : FnOk P w K mg base CX0 3 G.a10 G.d10 ["atoms", "rows"] (spSum K) :=
  ok_sum (k := 2) G.r10 B G.r7 (G.row B) G.r9 ((G.atom B).mono (by decide)) G.r2 (G.plus B) G.r3 (G.by B)
theorem Pg.rpart (G : Pg K mg) (B : Bt mg) : FnOk P w K mg base CX0 3 G.a11 G.d11 ["atoms", "divisor", "row"] spRPart :=
  ok_rpart (k := 2) G.r11 B G.r7 (G.row B) G.r9 ((G.atom B).mono (by decide)) G.r2 (G.plus B) G.r3 (G.by B)
theorem Pg.rest (G : Pg K mg) (B : Bt mg) : FnOk P w K mg base CX0 4 G.a12 G.d12 ["atoms", "divisor", "rows"] spRest :=
  ok_rest (k := 3) G.r12 B G.r6 ((G.num B).mono (by decide)) G.r11 (G.rpart B) G.r2 ((G.plus B).mono (by decide))
theorem Pg.shows (G : Pg K mg) (B : Bt mg) : ∀ n : Nat, FnOk P w K mg base CX0 (62 + 2 * n) G.a15 G.d15 pShows (spShows n)
  | 0 => by
    have no : ∀ vs H Q E, ¬ spShows 0 vs H Q E := fun vs H Q E h => by
      obtain ⟨nm, a, o, v, dp, A, O, p, _, _, _, h1, _⟩ := h
      exact absurd h1 (Nat.not_lt_zero _)
    exact ⟨fun vs H Q E h => absurd h (no vs H Q E), fun A outer s H args us vs Q E _ _ _ _ h => absurd h (no vs H Q E)⟩
  | n + 1 => by
    have ih := Pg.shows G B n
    have h1 : (1 : Nat) ≤ 62 + 2 * n := by omega
    have h2 : (60 : Nat) ≤ 62 + 2 * n := by omega
    have hO := ok_or G.r13 B G.r6 ((G.num (P := P) (w := w) (base := base) B).mono h1) G.r8 ((G.lay (P := P) (w := w) (base := base)).mono h2) G.r15 ih
    have hC := ok_cut G.r14 B G.r6 ((G.num (P := P) (w := w) (base := base) B).mono h1) G.r1 ((G.sumOf (P := P) (w := w) (base := base) B).mono h1) G.r15 ih
    have e : 62 + 2 * (n + 1) = 62 + 2 * n + 1 + 1 := by omega
    rw [e]
    exact ok_shows1 G.r15 B G.r10 ((G.sum B).mono (by omega)) G.r12 ((G.rest B).mono (by omega)) G.r13 hO G.r14 hC
/-! ### row_atoms -/
abbrev Row := Str × Int × Int
def rowD (r : Row) : PyData := .tuple [.str r.1, .int r.2.1, .int r.2.2]
inductive RowAts : List Row → List Fm → Prop
  | nil : RowAts [] []
  | snoc {R : List Row} {A : List Fm} {r : Row} {s s' : Sm} : RowAts R A → s.1 = r.2.1 → (∀ f, lin f s.2 = - f r.1) → s.2.length ≤ 1 → s'.1 = - r.2.2 → (∀ f, lin f s'.2 = f r.1) → s'.2.length ≤ 1 → RowAts (R ++ [r]) (A ++ [.most s, .most s'])
theorem RowAts.len {R : List Row} {A : List Fm} (h : RowAts R A) : A.length = 2 * R.length := by
  induction h with
  | nil => rfl
  | snoc _ _ _ _ _ _ _ ih =>
    simp only [List.length_append, List.length_cons, List.length_nil]
    omega
theorem RowAts.ok {R : List Row} {A : List Fm} (h : RowAts R A) : okA A := by
  induction h with
  | nil => exact fun F hF => absurd hF (by simp)
  | @snoc R A r s s' _ _ _ h1 _ _ h2 ih =>
    intro F hF
    rcases List.mem_append.mp hF with z | z
    · exact ih F z
    · rcases List.mem_cons.mp z with z | z
      · rw [z]
        show s.2.length ≤ 100
        omega
      · have z' : F = .most s' := by simpa using z
        rw [z']
        show s'.2.length ≤ 100
        omega
theorem RowAts.tru {R : List Row} {A : List Fm} (h : RowAts R A) {f : Str → Int} : (∀ r ∈ R, r.2.1 ≤ f r.1 ∧ f r.1 ≤ r.2.2) → allT f A := by
  induction h with
  | nil => exact fun _ F hF => absurd hF (by simp)
  | @snoc R A r s s' _ e1 l1 _ e2 l2 _ ih =>
    intro hr F hF
    rcases List.mem_append.mp hF with z | z
    · exact ih (fun r hr' => hr r (List.mem_append_left _ hr')) F z
    · have hb := hr r (List.mem_append_right _ (by simp))
      rcases List.mem_cons.mp z with z | z
      · rw [z]
        show val f s ≤ 0
        unfold val
        rw [e1, l1]
        omega
      · have z' : F = .most s' := by simpa using z
        rw [z']
        show val f s' ≤ 0
        unfold val
        rw [e2, l2]
        omega
theorem RowAts.at {R : List Row} {A : List Fm} (h : RowAts R A) : ∀ {i : Nat} {r : Row}, R[i]? = some r →
    (∃ s, A[2 * i]? = some (.most s) ∧ s.1 = r.2.1 ∧ ∀ f, lin f s.2 = - f r.1) ∧ (∃ s, A[2 * i + 1]? = some (.most s) ∧ s.1 = - r.2.2 ∧ ∀ f, lin f s.2 = f r.1) := by
  induction h with
  | nil => intro i r hi; simp at hi
  | @snoc R A r s s' h e1 l1 _ e2 l2 _ ih =>
    intro i r' hi
    have la := h.len
    by_cases c : i < R.length
    · rw [List.getElem?_append_left c] at hi
      have h2 := ih hi
      rw [List.getElem?_append_left (by omega), List.getElem?_append_left (by omega)]
      exact h2
    · have hi' : i < (R ++ [r]).length := (List.getElem?_eq_some_iff.mp hi).1
      rw [List.length_append, List.length_singleton] at hi'
      have ei : i = R.length := by omega
      subst ei
      rw [List.getElem?_append_right (Nat.le_refl _), Nat.sub_self] at hi
      have er : r = r' := by simpa using hi
      subst er
      refine ⟨⟨s, ?_, e1, l1⟩, ⟨s', ?_, e2, l2⟩⟩
      · rw [List.getElem?_append_right (by omega), la, Nat.sub_self]
        rfl
      · rw [List.getElem?_append_right (by omega), la, Nat.add_sub_cancel_left]
        rfl
theorem row3_inv {H : Hp} {v : V} {r : Row} (h : Tp H v (rowD r)) : ∃ c, v = .ref c ∧ H c = some (.tup [.str r.1, .int r.2.1, .int r.2.2]) := by
  obtain ⟨c, ys, e, ec, h⟩ := Tp.tup_inv (show Tp H v (.tuple [.str r.1, .int r.2.1, .int r.2.2]) from h)
  obtain ⟨x1, r1, e1, h1, h⟩ := h.cons_inv
  obtain ⟨x2, r2, e2, h2, h⟩ := h.cons_inv
  obtain ⟨x3, r3, e3, h3, h⟩ := h.cons_inv
  have e6 := h.nil_inv
  subst e6 e3 e2 e1
  rw [h1.str_inv, h2.int_inv, h3.int_inv] at ec
  exact ⟨c, e, ec⟩
theorem row3_mk {H : Hp} {c : Addr} {r : Row} (h : H c = some (.tup [.str r.1, .int r.2.1, .int r.2.2])) : Tp H (.ref c) (rowD r) := .tup h (.cons (.str _) (.cons (.int _) (.cons (.int _) .nil)))
theorem scRA : FnScope ["rows", "atoms", "box", "low", "high"] ["rows"] (defScope sRA) := ⟨rfl, rfl, rfl, by decide +kernel, rfl, by decide +kernel, by decide +kernel⟩
def spRA : Sp := fun vs H Q _ => ∃ (a : Addr) (R : List Row), vs = [.ref a] ∧ LstD H a (R.map rowD) ∧ R.length ≤ 1000 ∧
  ∀ (H' : Hp) (b : Addr) (A : List Fm), Same H H' → LstD H' b (A.map Fm.d) → RowAts R A → Q (.ref b) H'
theorem ok_ra {f fM : Addr} {fd fdM : FuncData} {k : Nat} (R : Rf K mg "row_atoms" sRA ["rows"] f fd) (RM : Rf K mg "sum_of" sSumOf ["number", "pairs"] fM fdM) (GM : FnOk P w K mg base CX0 k fM fdM ["number", "pairs"] (spSumOf K)) :
    FnOk P w K mg base CX0 (k + 1) f fd ["rows"] spRA := by
  refine R.F.ok scRA (fun vs H Q E h => ?_) (fun cdv A' outer s H vs Q E hr h => ?_)
  · obtain ⟨a, R, rfl, _⟩ := h
    rfl
  obtain ⟨a, R, rfl, ⟨xs, ea, tx⟩, hl, q⟩ := h
  refine ⟨_, pss_cons (ps_set (i := 1) scRA.nd rfl (.inl rfl) (pe_lst pa_nil))
    (pss_cons (ps_for PassesOwn.never rfl (pi_list (pv 0)) (pg_tup (n := 3) rfl (pgs_cons (pg_name (i := 2) scRA.nd rfl (.inl rfl)) (pgs_cons (pg_name (i := 3) scRA.nd rfl (.inl rfl)) (pgs_cons (pg_name (i := 4) scRA.nd rfl (.inl rfl)) pgs_nil))))
      (pss_cons (ps_expr (pe_bm PySem.F.plainAttrs_list PySem.F.slot_list_append PySem.F.type_list_append mt_append (pv 1) (pa_cons (pe_tup (pa_cons pe_str (pa_cons
          (pe_call GM hr rfl RM.m RM.F.kp RM.b .nil pass0 (pa_cons (pv 3) (pa_cons (pe_lst (pa_cons (pe_tup (pa_cons (pv 2) (pa_cons (pe_un un_neg pe_int) pa_nil))) pa_nil)) pa_nil))) pa_nil))) pa_nil)))
      (pss_one (ps_expr (pe_bm PySem.F.plainAttrs_list PySem.F.slot_list_append PySem.F.type_list_append mt_append (pv 1) (pa_cons (pe_tup (pa_cons pe_str (pa_cons
          (pe_call GM hr rfl RM.m RM.F.kp RM.b .nil pass0 (pa_cons (pe_un un_neg (pv 4)) (pa_cons (pe_lst (pa_cons (pe_tup (pa_cons (pv 2) (pa_cons pe_int pa_nil))) pa_nil)) pa_nil))) pa_nil))) pa_nil))))))
    (pss_one (ps_ret (pv 1)))), ?_⟩
  have lx := tx.len
  rw [List.length_map] at lx
  refine ⟨Nat.zero_le _, fun p np => ?_⟩
  refine ⟨_, rfl, a, rfl, ⟨xs, .of (same_new np (.lst []) _ _ ea)⟩, ?_⟩
  refine for_list (K := K) (xs := xs) (fun i σ H1 => ∃ A y2 y3 y4, σ = [some (.ref a), some (.ref p), y2, y3, y4] ∧ Same H H1 ∧ LstD H1 p (A.map Fm.d) ∧ RowAts (R.take i) A)
    ⟨[], none, none, none, rfl, same_new np _, ⟨[], upd_same, .nil⟩, .nil⟩ (fun i σ H1 _ hp => ?_) (fun i x σ H1 hx hp => ?_) (fun σ H1 hp => ?_)
  · obtain ⟨_, _, _, _, _, sm, _⟩ := hp
    exact .of (sm _ _ ea)
  · obtain ⟨A, y2, y3, y4, rfl, sm, ⟨za, ep, tz⟩, ra⟩ := hp
    obtain ⟨d, hd, td⟩ := tx.get hx
    obtain ⟨r, hr1, rfl⟩ := map_get hd
    obtain ⟨c, rfl, ec⟩ := row3_inv (td.keep (.of sm))
    have hi : i < R.length := (List.getElem?_eq_some_iff.mp hr1).1
    have lz := tz.len
    rw [List.length_map, ra.len, List.length_take] at lz
    refine ⟨c, _, rfl, .of ec, rfl, _, _, rfl, _, _, rfl, _, _, rfl, rfl, ?_⟩
    refine ⟨_, rfl, .inl ⟨rfl, _, .of ep⟩, _, rfl, _, rfl, 1, rfl, (by show 2 ≤ sizeLine; decide), fun t1 n1 => ⟨(by show 1 ≤ sizeLine; decide), fun l1 m1 => ?_⟩⟩
    have s1 := same_new n1 (.tup [.str r.1, .int (-1)])
    have s2 := same_new m1 (.lst [.ref t1])
    refine ⟨r.2.1, l1, [.ref t1], [(r.1, -1)], rfl, .inl upd_same, .one (pair_mk (s2 _ _ upd_same)), by simp, fun H2 v1 S1 sm1 tS1 eS1 gS1 lS1 llS1 => ⟨(by show 2 ≤ sizeLine; decide), fun p1 np1 => ?_⟩⟩
    have s3 := same_new np1 (.tup [.str "most", v1])
    have sA := ((s1.trans s2).trans sm1).trans s3
    have tB := most_mk (s := S1) (upd_same (H := H2) (a := p1) (o := .tup [.str "most", v1])) (tS1.keep (.of s3))
    refine ⟨p, za, _, rfl, rfl, sA _ _ ep, ?_, ?_⟩
    · rw [sizeLine_eq]
      omega
    -- the second one
    have hH : H p = none := np
    generalize hH3 : upd H2 p1 (.tup [.str "most", v1]) = H3 at sA tB s3
    have ep3 := sA _ _ ep
    have tu : Tups H3 (upd H3 p (.lst (za ++ [.ref p1]))) := fun b zs hb => by
      have nb : b ≠ p := fun e => by rw [e, ep3] at hb; cases hb
      rw [upd_ne nb]
      exact hb
    have sm3 : Same H (upd H3 p (.lst (za ++ [.ref p1]))) := same_upd2 (sm.trans sA) np
    generalize hH4 : upd H3 p (.lst (za ++ [.ref p1])) = H4 at tu sm3
    have ep4 : H4 p = some (.lst (za ++ [.ref p1])) := by rw [← hH4, upd_same]
    refine ⟨_, rfl, .inl ⟨rfl, _, .of ep4⟩, _, rfl, r.2.2, rfl, _, rfl, (by show 2 ≤ sizeLine; decide), fun t2 n2 => ⟨(by show 1 ≤ sizeLine; decide), fun l2 m2 => ?_⟩⟩
    have s5 := same_new n2 (.tup [.str r.1, .int 1])
    have s6 := same_new m2 (.lst [.ref t2])
    refine ⟨- r.2.2, l2, [.ref t2], [(r.1, 1)], rfl, .inl upd_same, .one (pair_mk (s6 _ _ upd_same)), by simp, fun H5 v2 S2 sm5 tS2 eS2 gS2 lS2 llS2 => ⟨(by show 2 ≤ sizeLine; decide), fun p2 np2 => ?_⟩⟩
    have s7 := same_new np2 (.tup [.str "most", v2])
    have sB := ((s5.trans s6).trans sm5).trans s7
    have tC := most_mk (s := S2) (upd_same (H := H5) (a := p2) (o := .tup [.str "most", v2])) (tS2.keep (.of s7))
    refine ⟨p, za ++ [.ref p1], _, rfl, rfl, sB _ _ ep4, ?_, ?_⟩
    · rw [sizeLine_eq, List.length_append, List.length_singleton]
      omega
    generalize hH6 : upd H5 p2 (.tup [.str "most", v2]) = H6 at sB tC s7
    have ep6 := sB _ _ ep4
    have tu2 : Tups H6 (upd H6 p (.lst (za ++ [.ref p1] ++ [.ref p2]))) := fun b zs hb => by
      have nb : b ≠ p := fun e => by rw [e, ep6] at hb; cases hb
      rw [upd_ne nb]
      exact hb
    have ht : R.take (i + 1) = R.take i ++ [r] := by rw [List.take_add_one, hr1]; rfl
    refine ⟨A ++ [.most S1, .most S2], some (.str r.1), some (.int r.2.1), some (.int r.2.2), rfl, same_upd2 (sm3.trans sB) np, ⟨_, upd_same, ?_⟩, ?_⟩
    · rw [List.map_append]
      have e9 : za ++ [V.ref p1] ++ [V.ref p2] = za ++ [V.ref p1, V.ref p2] := by simp
      rw [e9]
      rw [e9] at tu2
      have k1 : Tups H1 H4 := (Tups.of sA).trans tu
      have k2 : Tups H4 _ := (Tups.of sB).trans tu2
      exact (tz.keep (k1.trans k2)).append (.cons ((tB.keep tu).keep k2) (.cons (tC.keep tu2) .nil))
    · rw [ht]
      exact .snoc ra eS1 (fun f => by rw [lS1]; simp [lin]) llS1 eS2 (fun f => by rw [lS2]; simp [lin]) llS2
  · obtain ⟨A, y2, y3, y4, rfl, sm, la, ra⟩ := hp
    rw [lx, List.take_length] at ra
    exact ⟨_, rfl, q H1 p A sm la ra⟩
end
end Calm

namespace Calm
open PySem PySem.Spec PyProof.Rows L2
section
variable {P : Program} {w : World} {K : PySem.W.Frag} {mg : Str → Option Value} {base : Heap}
/-! ### let_by -/
theorem scLet : FnScope ["rows", "forms", "paper", "atoms", "ors", "row"] ["rows", "forms", "paper"] (defScope sLet) := ⟨rfl, rfl, rfl, by decide +kernel, rfl, by decide +kernel, by decide +kernel⟩
def spLet : Sp := fun vs H Q _ => ∃ (rw fm : Addr) (v : V) (R : List Row) (Fs : List Fm) (p : Pp), vs = [.ref rw, .ref fm, v] ∧ LstD H rw (R.map rowD) ∧ LstD H fm (Fs.map Fm.d) ∧ Tp H v p.d ∧ p.ok ∧ p.dep < 10 ∧ R.length ≤ 10 ∧ Fm.oks Fs ∧ Fm.szs Fs ≤ 50 ∧
  ∀ (H' : Hp) (b : Bool) (A : List Fm), Same H H' → RowAts R A → (b = true → Dead (lays Fs (A, [])).1 (lays Fs (A, [])).2) → (∀ Rw, p = .sum Rw → (b = true ↔ SumOk (lays Fs (A, [])).1 Rw)) → Q (.bl b) H'
theorem ok_let {f fL fR fS : Addr} {fd fdL fdR fdS : FuncData} {k : Nat} (R : Rf K mg "let_by" sLet ["rows", "forms", "paper"] f fd) (B : Bt mg) (hD : ∃ t : Tok, mg "DEEPEST" = some (.int 90 t))
    (RL : Rf K mg "lay_in" sLay ["form", "atoms", "ors"] fL fdL) (GL : FnOk P w K mg base CX0 k fL fdL ["form", "atoms", "ors"] (spLay 60))
    (RR : Rf K mg "row_atoms" sRA ["rows"] fR fdR) (GR : FnOk P w K mg base CX0 k fR fdR ["rows"] spRA)
    (RS : Rf K mg "shows" sShows pShows fS fdS) (GS : FnOk P w K mg base CX0 k fS fdS pShows (spShows 10)) :
    FnOk P w K mg base CX0 (k + 1) f fd ["rows", "forms", "paper"] spLet := by
  refine R.F.ok scLet (fun vs H Q E h => ?_) (fun cdv A' outer s H vs Q E hr h => ?_)
  · obtain ⟨rw, fm, v, R, Fs, p, rfl, _⟩ := h
    rfl
  obtain ⟨rw, fm, v, R, Fs, p, rfl, ⟨xr, er, tr⟩, ⟨xf, ef, tf⟩, tv, okp, dp, lR, okF, szF, q⟩ := h
  obtain ⟨tk, hD⟩ := hD
  refine ⟨_, pss_cons (ps_asg (pe_call GL hr rfl RL.m RL.F.kp RL.b .nil pass0 (pa_cons (pe_tup (pa_cons pe_str (pa_cons (pe_callTy call_tuple_of (by rfl) B.tuple (by decide +kernel) (pa_cons (pv 1) pa_nil)) pa_nil)))
        (pa_cons (pe_call GR hr rfl RR.m RR.F.kp RR.b .nil pass0 (pa_cons (pv 0) pa_nil)) (pa_cons (pe_lst pa_nil) pa_nil))))
      (pg_tup (n := 2) rfl (pgs_cons (pg_name (i := 3) scLet.nd rfl (.inl rfl)) (pgs_cons (pg_name (i := 4) scLet.nd rfl (.inl rfl)) pgs_nil))))
    (pss_one (ps_ret (pe_call GS hr rfl RS.m RS.F.kp RS.b .nil pass0 (pa_cons
      (pe_lc (own := [("row", 5)]) (g := gName 5) (te := tOp (rIxT K) (tVar 5) (tC (.int 0))) rfl scLet.nd (pi_list (pv 0)) (blkOk_by (own := [("row", 5)]) (N := ["rows", "forms", "paper", "atoms", "ors", "row"]) (sc := defScope sLet) (by decide +kernel))
        (fun _ _ _ _ _ => pg_name (i := 5) scLet.nd rfl (.inl rfl) (.inr rfl)) (fun _ _ _ _ _ => pts_nil) (fun _ _ _ _ _ => pe_ix ix_tup (pv 5) pe_int (fun _ _ => rfl)))
      (pa_cons (pv 3) (pa_cons (pv 4) (pa_cons (pv 2) (pa_cons (pe_glob (v := .int 90) rfl hD ⟨_, rfl⟩) pa_nil)))))))), ?_⟩
  have lr := tr.len
  rw [List.length_map] at lr
  -- ('and', tuple(forms)), row_atoms(rows), []
  refine ⟨_, rfl, fm, xf, rfl, .inl ⟨.of ef, fun l nl => ⟨(by show 2 ≤ sizeLine; decide), fun u nu => ?_⟩⟩⟩
  have s1 := same_new nl (.tup xf)
  have s2 := same_new nu (.tup [.str "and", .ref l])
  have s12 := s1.trans s2
  refine ⟨_, rfl, rw, R, rfl, ⟨xr, s12 _ _ er, tr.keep (.of s12)⟩, by omega, fun H1 b A sm1 la ra => ?_⟩
  refine ⟨Nat.zero_le _, fun o no => ?_⟩
  have s3 := same_new no (.lst [])
  have sA := (s12.trans sm1).trans s3
  have tAnd : Tp (upd H1 o (.lst [])) (.ref u) (Fm.and Fs).d := by
    refine .tup (s3 _ _ (sm1 _ _ upd_same)) (.cons (.str _) (.cons (.tup (s3 _ _ (sm1 _ _ (s2 _ _ upd_same))) ?_) .nil))
    rw [ds_eq]
    exact tf.keep (.of sA)
  have lenA := ra.len
  refine ⟨.ref u, b, o, .and Fs, A, [], rfl, tAnd, la.keep s3, ⟨[], upd_same, .nil⟩, by simp only [Fm.sz]; omega, by simp only [Fm.sz, List.length_nil]; omega, fun H2 r a2 o2 sm2 er2 la2 lo2 => ?_⟩
  refine ⟨r, _, rfl, .of er2, rfl, _, _, rfl, _, _, rfl, rfl, ?_⟩
  have sB := sA.trans sm2
  obtain ⟨k1, k2, k3⟩ := lays_ok (S := 60) Fs (A, []) okF (by omega) ra.ok (fun gs hg => absurd hg (by simp))
  simp only [List.length_nil] at k3
  -- the names
  refine ⟨_, rfl, rw, rfl, ⟨xr, .of (sB _ _ er)⟩, fun D nD => ?_⟩
  refine lc_list (K := K) (a := rw) (xs := xr) (fun i H3 => H3 D = some (.lst (((R.take i).map (·.1)).map V.str)) ∧ Same H2 H3) ⟨upd_same, same_new nD _⟩ (fun i H3 _ hp => .of (hp.2 _ _ (sB _ _ er))) (fun i x H3 hx hp => ?_) (fun H3 hp => ?_)
  · obtain ⟨ed, sm⟩ := hp
    obtain ⟨d, hd, td⟩ := tr.get hx
    obtain ⟨r1, hr1, rfl⟩ := map_get hd
    obtain ⟨c, rfl, ec⟩ := row3_inv (td.keep (.of (sB.trans sm)))
    have hi : i < R.length := (List.getElem?_eq_some_iff.mp hr1).1
    refine ⟨rfl, _, rfl, c, _, 0, _, rfl, rfl, .of ec, atI_nat (j := 0) rfl, _, ed, ?_, ?_, same_upd2 sm nD⟩
    · rw [List.length_map, List.length_map, List.length_take, sizeLine_eq]
      omega
    · rw [upd_same, List.take_add_one, hr1, List.map_append, List.map_append]
      rfl
  · obtain ⟨ed, sm⟩ := hp
    refine ⟨_, rfl, _, rfl, _, rfl, D, a2, o2, v, 90, _, _, p, rfl, ⟨⟨_, ed⟩, la2.keep sm, lo2.keep sm, k1, k2, okp, ?_⟩, tv.keep (.of (sB.trans sm)), dp, fun H4 c sm4 hc hs => ?_⟩
    · show (lays Fs (A, [])).1.length + (lays Fs (A, [])).2.length + _ ≤ _
      omega
    · exact q H4 c A ((sB.trans sm).trans sm4) ra hc fun Rw e => hs Rw e (by decide)
theorem Pg.letBy (G : Pg K mg) (B : Bt mg) : FnOk P w K mg base CX0 83 G.a17 G.d17 ["rows", "forms", "paper"] spLet :=
  ok_let (k := 82) G.r17 B G.deepest G.r8 (G.lay.mono (by decide)) G.r16 ((ok_ra G.r16 G.r1 (G.sumOf B)).mono (by decide)) G.r15 (G.shows B 10)
end
end Calm

namespace Calm
open PySem PySem.Spec PyProof.Rows L2
/-! ### the law's rows and book -/
abbrev Ent := Str × Int × Int × Int
def bx : List Str := ["x", "y", "@p", "z1"]
def rowsOf (L : List Ent) : List Row := L.map fun e => (e.1, e.2.1, e.2.2.1)
def bookOf (L : List Ent) : Lin := L.map fun e => (e.1, e.2.2.2)
def bk (L : List Ent) : Str → Int := getB (bookOf L)
structure EvOk (L : List Ent) : Prop where
  one : 1 ≤ L.length
  four : L.length ≤ 4
  names : L.map (·.1) = bx.take L.length
  book : ∀ e ∈ L, e.2.1 ≤ e.2.2.2 ∧ e.2.2.2 ≤ e.2.2.1
theorem bx_nd : bx.Nodup := by decide +kernel
theorem fmod_lt {x m : Int} (h : 0 < m) : 0 ≤ x.fmod m ∧ x.fmod m < m := by
  rw [Int.fmod_eq_emod_of_nonneg _ (by omega)]
  exact ⟨Int.emod_nonneg _ (by omega), Int.emod_lt_of_pos _ h⟩
theorem at2 {a b i : Int} (h0 : 0 ≤ i) (h : i < 2) : ∃ z, (z = a ∨ z = b) ∧ atI [V.int a, V.int b] i = some (.int z) := by
  have e : i = 0 ∨ i = 1 := by omega
  rcases e with rfl | rfl
  · exact ⟨a, .inl rfl, atI_nat (j := 0) rfl⟩
  · exact ⟨b, .inr rfl, atI_nat (j := 1) rfl⟩
theorem at4 {a b c d : Int} {i : Nat} (h : i < 4) : ∃ z, (z = a ∨ z = b ∨ z = c ∨ z = d) ∧ atI [V.int a, V.int b, V.int c, V.int d] (0 + (i : Int)) = some (.int z) := by
  rw [Int.zero_add]
  match i, h with
  | 0, _ => exact ⟨a, .inl rfl, atI_nat (j := 0) rfl⟩
  | 1, _ => exact ⟨b, .inr (.inl rfl), atI_nat (j := 1) rfl⟩
  | 2, _ => exact ⟨c, .inr (.inr (.inl rfl)), atI_nat (j := 2) rfl⟩
  | 3, _ => exact ⟨d, .inr (.inr (.inr rfl)), atI_nat (j := 3) rfl⟩
theorem atB {i : Nat} (h : i < 4) : ∃ b, bx[i]? = some b ∧ atI [V.str "x", V.str "y", V.str "@p", V.str "z1"] (0 + (i : Int)) = some (.str b) := by
  rw [Int.zero_add]
  match i, h with
  | 0, _ => exact ⟨_, rfl, atI_nat (j := 0) rfl⟩
  | 1, _ => exact ⟨_, rfl, atI_nat (j := 1) rfl⟩
  | 2, _ => exact ⟨_, rfl, atI_nat (j := 2) rfl⟩
  | 3, _ => exact ⟨_, rfl, atI_nat (j := 3) rfl⟩
theorem put_fresh {D : Lin} {b : Str} {v : Int} (h : b ∉ D.map (·.1)) : putK (enc D) (Sum.inr b) (.int v) = enc (D ++ [(b, v)]) := by
  unfold putK
  rw [any_enc, if_neg (by simpa using h), enc, enc, List.map_append]
  rfl
theorem bx_fresh {i : Nat} {b : Str} (h : bx[i]? = some b) : b ∉ bx.take i := fun hb => by
  obtain ⟨j, hj⟩ := List.getElem?_of_mem hb
  have hlt : j < (bx.take i).length := (List.getElem?_eq_some_iff.mp hj).1
  rw [List.length_take] at hlt
  rw [List.getElem?_take] at hj
  have hji : j < i := by omega
  rw [if_pos hji] at hj
  have := nd_ix bx_nd h hj
  omega
section
variable {P : Program} {w : World} {K : PySem.W.Frag} {mg : Str → Option Value} {base : Heap}
/-! ### _law_cell_at, _law_signed -/
abbrev sCell : Stmt := topS 19
theorem scCell : FnScope ["_law_script", "_law_k"] ["_law_script", "_law_k"] (defScope sCell) := ⟨rfl, rfl, rfl, by decide +kernel, rfl, by decide +kernel, by decide +kernel⟩
def spCell (K : PySem.W.Frag) : Sp := fun vs H Q _ => ∃ (a : Addr) (k : Int) (ns : List Int), vs = [.ref a, .int k] ∧ SqL K H a (ns.map V.int) ∧ 0 ≤ k ∧ ∀ z : Int, Q (.int z) H
theorem ok_cell {f : Addr} {fd : FuncData} {k : Nat} (R : Rf K mg "_law_cell_at" sCell ["_law_script", "_law_k"] f fd) (B : Bt mg) : FnOk P w K mg base CX0 (k + 1) f fd ["_law_script", "_law_k"] (spCell K) := by
  refine R.F.ok scCell (fun vs H Q E h => ?_) (fun cdv A' outer s H vs Q E hr h => ?_)
  · obtain ⟨a, k, ns, rfl, _⟩ := h
    rfl
  obtain ⟨a, k, ns, rfl, hS, h0, q⟩ := h
  refine ⟨_, pss_cons (ps_if (pt_cmpR op_lt (pv 1) (pe_callB call_len_seq (by rfl) B.len PySem.boot_len (pa_cons (pv 0) pa_nil)) (nomark _)) (pss_one (ps_ret (pe_ix ix_list (pv 0) (pv 1) (fun _ _ => rfl)))) pss_nil) (pss_one (ps_ret pe_int)), ?_⟩
  refine ⟨_, rfl, _, rfl, a, _, rfl, .inl hS, _, _, rfl, rfl, _, rfl, ite2 (fun e => ?_) (fun e => ?_)⟩
  · have h1 : k < (((ns.map V.int).length : Nat) : Int) := of_decide_eq_true e
    rw [List.length_map] at h1
    have hk : k.toNat < ns.length := by omega
    have ek : k = ((k.toNat : Nat) : Int) := by omega
    have hat : atI (ns.map V.int) k = some (.int ns[k.toNat]) := at_of ek (by rw [List.getElem?_map, List.getElem?_eq_getElem hk]; rfl)
    exact ⟨_, rfl, _, rfl, a, _, k, _, rfl, rfl, hS, hat, q _⟩
  · exact q 0
abbrev sSigned : Stmt := topS 20
theorem scSigned : FnScope ["_law_cell", "_law_most"] ["_law_cell", "_law_most"] (defScope sSigned) := ⟨rfl, rfl, rfl, by decide +kernel, rfl, by decide +kernel, by decide +kernel⟩
def spSigned : Sp := fun vs H Q _ => ∃ (c m : Int), vs = [.int c, .int m] ∧ m ≠ 0 ∧ ∀ z : Int, Q (.int z) H
theorem ok_signed {f : Addr} {fd : FuncData} {k : Nat} (R : Rf K mg "_law_signed" sSigned ["_law_cell", "_law_most"] f fd) : FnOk P w K mg base CX0 (k + 1) f fd ["_law_cell", "_law_most"] spSigned := by
  refine R.F.ok scSigned (fun vs H Q E h => ?_) (fun cdv A' outer s H vs Q E hr h => ?_)
  · obtain ⟨c, m, rfl, _⟩ := h
    rfl
  obtain ⟨c, m, rfl, hm, q⟩ := h
  refine ⟨_, pss_cons (ps_if (pt_cmpR op_lt (pv 0) pe_int (nomark _)) (pss_one (ps_ret (pe_un un_neg (pe_op op_modN (pe_un un_neg (pv 0)) (pv 1))))) pss_nil) (pss_one (ps_ret (pe_op op_modN (pv 0) (pv 1)))), ?_⟩
  refine ⟨_, rfl, _, _, rfl, rfl, _, rfl, ite2 (fun e => ?_) (fun e => ?_)⟩
  · exact ⟨_, rfl, c, rfl, _, rfl, _, m, rfl, rfl, hm, _, rfl, q _⟩
  · exact ⟨_, rfl, _, rfl, c, m, rfl, rfl, hm, q _⟩
/-! ### _law_rows -/
abbrev sRowsL : Stmt := topS 21
theorem scRowsL : FnScope ["_law_script", "_law_rows_here", "_law_book", "_law_k", "_law_cell", "_law_low", "_law_many", "_law_box"] ["_law_script"] (defScope sRowsL) := ⟨rfl, rfl, rfl, by decide +kernel, rfl, by decide +kernel, by decide +kernel⟩
/-- rows and book in the heap -/
structure EvAt (H : Hp) (r d : Addr) (L : List Ent) : Prop where
  rows : LstD H r ((rowsOf L).map rowD)
  book : H d = some (.dK (enc (bookOf L)))
theorem EvAt.keep {H H' : Hp} {r d : Addr} {L : List Ent} (s : Same H H') (h : EvAt H r d L) : EvAt H' r d L := ⟨h.rows.keep s, s _ _ h.book⟩
def spRowsL (K : PySem.W.Frag) : Sp := fun vs H Q _ => ∃ (a : Addr) (ns : List Int), vs = [.ref a] ∧ SqL K H a (ns.map V.int) ∧
  ∀ (H' : Hp) (t r d : Addr) (L : List Ent), Same H H' → H r = none → H' t = some (.tup [.ref r, .ref d]) → EvAt H' r d L → EvOk L → Q (.ref t) H'
theorem ok_rowsL {f fC fS : Addr} {fd fdC fdS : FuncData} {k : Nat} (R : Rf K mg "_law_rows" sRowsL ["_law_script"] f fd) (B : Bt mg)
    (RC : Rf K mg "_law_cell_at" sCell ["_law_script", "_law_k"] fC fdC) (GC : FnOk P w K mg base CX0 k fC fdC ["_law_script", "_law_k"] (spCell K))
    (RS : Rf K mg "_law_signed" sSigned ["_law_cell", "_law_most"] fS fdS) (GS : FnOk P w K mg base CX0 k fS fdS ["_law_cell", "_law_most"] spSigned) :
    FnOk P w K mg base CX0 (k + 1) f fd ["_law_script"] (spRowsL K) := by
  refine R.F.ok scRowsL (fun vs H Q E h => ?_) (fun cdv A' outer s H vs Q E hr h => ?_)
  · obtain ⟨a, ns, rfl, _⟩ := h
    rfl
  obtain ⟨a, ns, rfl, hS, q⟩ := h
  have hu := hu_of hr
  refine ⟨_, pss_cons (ps_set (i := 1) scRowsL.nd rfl (.inl rfl) (pe_lst pa_nil))
    (pss_cons (ps_set (i := 2) scRowsL.nd rfl (.inl rfl) pe_dnewK)
    (pss_cons (ps_for PassesOwn.never rfl (pi_range1 rfl B.range (pa_cons (pe_op op_add pe_int (pe_op op_modN (pe_call GC hr rfl RC.m RC.F.kp RC.b .nil pass0 (pa_cons (pv 0) (pa_cons pe_int pa_nil))) pe_int)) pa_nil)) (pg_name (i := 3) scRowsL.nd rfl (.inl rfl))
      (pss_cons (ps_set (i := 4) scRowsL.nd rfl (.inl rfl) (pe_call GC hr rfl RC.m RC.F.kp RC.b .nil pass0 (pa_cons (pv 0) (pa_cons (pe_op op_add pe_int (pv 3)) pa_nil))))
      (pss_cons (ps_set (i := 5) scRowsL.nd rfl (.inl rfl) (pe_ix ix_list (pe_lst (pa_cons (pe_call GS hr rfl RS.m RS.F.kp RS.b .nil pass0 (pa_cons (pv 4) (pa_cons pe_int pa_nil)))
          (pa_cons (pe_call GS hr rfl RS.m RS.F.kp RS.b .nil pass0 (pa_cons (pv 4) (pa_cons (pe_op op_mul pe_int (pe_op op_pow pe_int pe_int)) pa_nil))) pa_nil)))
          (pe_op op_modN (pe_op op_fdivN (pe_call GC hr rfl RC.m RC.F.kp RC.b .nil pass0 (pa_cons (pv 0) (pa_cons pe_int pa_nil))) pe_int) pe_int) (fun _ _ => rfl)))
      (pss_cons (ps_set (i := 6) scRowsL.nd rfl (.inl rfl) (pe_op op_modN (pe_op op_fdivN (pv 4) pe_int) (pe_ix ix_list (pe_lst (pa_cons pe_int (pa_cons (pe_op op_pow pe_int pe_int) pa_nil)))
          (pe_op op_modN (pe_op op_fdivN (pe_call GC hr rfl RC.m RC.F.kp RC.b .nil pass0 (pa_cons (pv 0) (pa_cons pe_int pa_nil))) pe_int) pe_int) (fun _ _ => rfl))))
      (pss_cons (ps_set (i := 7) scRowsL.nd rfl (.inl rfl) (pe_ix ix_list (pe_lst (pa_cons pe_str (pa_cons pe_str (pa_cons pe_str (pa_cons pe_str pa_nil))))) (pv 3) (fun _ _ => rfl)))
      (pss_cons (ps_expr (pe_bm PySem.F.plainAttrs_list PySem.F.slot_list_append PySem.F.type_list_append mt_append (pv 1) (pa_cons (pe_tup (pa_cons (pv 7) (pa_cons (pv 5) (pa_cons (pe_op op_add (pv 5) (pv 6)) pa_nil)))) pa_nil)))
      (pss_one (ps_dput hu (pv 2) (pv 7) (pe_op op_add (pv 5) (pe_op op_modN (pe_op op_fdivN (pv 4) pe_int) (pe_op op_add (pv 6) pe_int))) rfl))))))))
    (pss_one (ps_ret (pe_tup (pa_cons (pv 1) (pa_cons (pv 2) pa_nil))))))), ?_⟩
  refine ⟨Nat.zero_le _, fun r nr => fun d nd => ?_⟩
  have s0 : Same H (upd (upd H r (.lst [])) d (.dK [])) := (same_new nr _).trans (same_new nd _)
  have hrd : r ≠ d := fun e => by rw [← e, upd_same] at nd; cases nd
  have nd' : H d = none := by rw [upd_ne hrd.symm] at nd; exact nd
  refine ⟨_, rfl, a, 0, ns, rfl, s0.seq hS, Int.le_refl 0, fun z0 => ?_⟩
  have hz0 := fmod_lt (x := z0) (m := 4) (by decide)
  refine ⟨z0, 4, rfl, rfl, (by show _ ≠ (0 : Int); decide), 1, z0.fmod 4, rfl, rfl, 1 + z0.fmod 4, rfl, by omega, by omega, ?_⟩
  refine for_range (lo := 0) (n := (1 + z0.fmod 4).toNat) (fun i σ H1 => ∃ L y3 y4 y5 y6 y7, σ = [some (.ref a), some (.ref r), some (.ref d), y3, y4, y5, y6, y7] ∧ Same H H1 ∧ EvAt H1 r d L ∧ L.length = i ∧ L.map (·.1) = bx.take i ∧ ∀ e ∈ L, e.2.1 ≤ e.2.2.2 ∧ e.2.2.2 ≤ e.2.2.1)
    ⟨[], none, none, none, none, none, rfl, s0, ⟨⟨[], by rw [upd_ne hrd, upd_same], .nil⟩, upd_same⟩, rfl, rfl, fun e he => absurd he (by simp)⟩ (fun i σ H1 hi hp => ?_) (fun σ H1 hp => ?_)
  · obtain ⟨L, y3, y4, y5, y6, y7, rfl, sm, ev, lL, nL, bL⟩ := hp
    have hi4 : i < 4 := by omega
    -- cell
    refine ⟨_, rfl, _, rfl, 1, 0 + (i : Int), rfl, rfl, a, 1 + (0 + (i : Int)), ns, rfl, sm.seq hS, by omega, fun cell => ?_⟩
    -- low
    refine ⟨_, rfl, cell, 9, rfl, (by show _ ≠ (0 : Int); decide), fun w1 => ⟨_, rfl, 10, 29, rfl, rfl, ⟨by decide, by decide, by decide⟩, 9, _, rfl, rfl, .inl ⟨by decide, by decide⟩, cell, _, rfl, (by show _ ≠ (0 : Int); decide), fun w2 => ⟨(by show 2 ≤ sizeLine; decide), fun p1 np1 => ?_⟩⟩⟩
    have s1 := same_new np1 (.lst [.int w1, .int w2])
    have sm1 := sm.trans s1
    refine ⟨_, rfl, a, 0, ns, rfl, sm1.seq hS, Int.le_refl 0, fun z1 => ⟨z1, 4, rfl, rfl, ⟨by decide, by decide⟩, z1.fdiv 4, 2, rfl, rfl, (by show _ ≠ (0 : Int); decide), ?_⟩⟩
    obtain ⟨low, _, hlow⟩ := at2 (a := w1) (b := w2) (fmod_lt (x := z1.fdiv 4) (m := 2) (by decide)).1 (fmod_lt (x := z1.fdiv 4) (m := 2) (by decide)).2
    refine ⟨p1, _, _, _, rfl, rfl, .of upd_same, hlow, ?_⟩
    -- many
    refine ⟨_, rfl, cell, 9, rfl, rfl, ⟨by decide, by decide⟩, 10, 29, rfl, rfl, ⟨by decide, by decide, by decide⟩, (by show 2 ≤ sizeLine; decide), fun p2 np2 => ?_⟩
    have s2 := same_new np2 (.lst [.int 5, .int (10 ^ (29 : Int).toNat)])
    have sm2 := sm1.trans s2
    refine ⟨_, rfl, a, 0, ns, rfl, sm2.seq hS, Int.le_refl 0, fun z2 => ⟨z2, 8, rfl, rfl, ⟨by decide, by decide⟩, z2.fdiv 8, 2, rfl, rfl, (by show _ ≠ (0 : Int); decide), ?_⟩⟩
    obtain ⟨mm, hmm, hmat⟩ := at2 (a := 5) (b := 10 ^ (29 : Int).toNat) (fmod_lt (x := z2.fdiv 8) (m := 2) (by decide)).1 (fmod_lt (x := z2.fdiv 8) (m := 2) (by decide)).2
    have mpos : 0 < mm := by
      rcases hmm with e | e
      · omega
      · rw [e]
        decide
    refine ⟨p2, _, _, _, rfl, rfl, .of upd_same, hmat, cell.fdiv 9, mm, rfl, rfl, (show mm ≠ 0 by omega), ?_⟩
    have hmany := fmod_lt (x := cell.fdiv 9) (m := mm) mpos
    -- box
    obtain ⟨b, hb, hbat⟩ := atB hi4
    refine ⟨(by show 4 ≤ sizeLine; decide), fun p3 np3 => ?_⟩
    have s3 := same_new np3 (.lst [.str "x", .str "y", .str "@p", .str "z1"])
    have sm3 := sm2.trans s3
    refine ⟨_, rfl, p3, _, _, _, rfl, rfl, .of upd_same, hbat, ?_⟩
    -- rows_here.append
    have ev3 := ev.keep ((s1.trans s2).trans s3)
    generalize hH3 : upd (upd (upd H1 p1 (.lst [.int w1, .int w2])) p2 (.lst [.int 5, .int (10 ^ (29 : Int).toNat)])) p3 (.lst [.str "x", .str "y", .str "@p", .str "z1"]) = H3 at sm3 ev3
    obtain ⟨⟨xr, er, tr⟩, ed⟩ := ev3
    have lr := tr.len
    rw [List.length_map, rowsOf, List.length_map, lL] at lr
    refine ⟨_, rfl, .inl ⟨rfl, _, .of er⟩, _, rfl, _, rfl, _, rfl, _, rfl, low, ((cell.fdiv 9).fmod mm), rfl, rfl, (by show 3 ≤ sizeLine; decide), fun t nt => ?_⟩
    have s4 := same_new nt (.tup [.str b, .int low, .int (low + ((cell.fdiv 9).fmod mm))])
    refine ⟨r, xr, _, rfl, rfl, s4 _ _ er, by rw [sizeLine_eq]; omega, ?_⟩
    -- book[box] = ..
    have sm4 := sm3.trans s4
    have hv := fmod_lt (x := cell.fdiv 7) (m := ((cell.fdiv 9).fmod mm) + 1) (by omega)
    have ndr : d ≠ r := hrd.symm
    have ed4 : (upd (upd H3 t (.tup [.str b, .int low, .int (low + ((cell.fdiv 9).fmod mm))])) r (.lst (xr ++ [.ref t]))) d = some (.dK (enc (bookOf L))) := by
      rw [upd_ne ndr]
      exact s4 _ _ ed
    refine ⟨_, rfl, _, rfl, cell, 7, rfl, rfl, ⟨by decide, by decide⟩, _, rfl, ((cell.fdiv 9).fmod mm), 1, rfl, rfl, cell.fdiv 7, ((cell.fdiv 9).fmod mm) + 1, rfl, rfl, (show ((cell.fdiv 9).fmod mm) + 1 ≠ 0 by omega), low, _, rfl, rfl, _, rfl, _, rfl, d, _, rfl, DPut.k (k := Sum.inr b) ed4 ?_, ?_⟩
    · rw [enc, List.length_map, bookOf, List.length_map, lL, sizeLine_eq]
      omega
    have kb : (bookOf L).map (·.1) = bx.take i := by
      rw [← nL, bookOf, List.map_map]
      rfl
    have hfresh : b ∉ (bookOf L).map (·.1) := by
      rw [kb]
      exact bx_fresh hb
    rw [put_fresh hfresh]
    generalize hval : low + (cell.fdiv 7).fmod (((cell.fdiv 9).fmod mm) + 1) = vv
    refine ⟨L ++ [(b, low, low + ((cell.fdiv 9).fmod mm), vv)], some (.int (0 + (i : Int))), some (.int cell), some (.int low), some (.int ((cell.fdiv 9).fmod mm)), some (.str b), rfl, ?_, ⟨⟨xr ++ [.ref t], ?_, ?_⟩, ?_⟩, ?_, ?_, fun e he => ?_⟩
    · exact same_upd2 (same_upd2 sm4 nr) nd'
    · rw [upd_ne hrd, upd_same]
    · have tu : Tups H3 (upd (upd (upd H3 t (.tup [.str b, .int low, .int (low + ((cell.fdiv 9).fmod mm))])) r (.lst (xr ++ [.ref t]))) d (.dK (enc (bookOf L ++ [(b, vv)])))) := fun c zs hc => by
        have n1 : c ≠ d := fun e => by rw [e, ed] at hc; cases hc
        have n2 : c ≠ r := fun e => by rw [e, er] at hc; cases hc
        rw [upd_ne n1, upd_ne n2]
        exact s4 _ _ hc
      have e9 : rowsOf (L ++ [(b, low, low + ((cell.fdiv 9).fmod mm), vv)]) = rowsOf L ++ [(b, low, low + ((cell.fdiv 9).fmod mm))] := by
        unfold rowsOf
        rw [List.map_append]
        rfl
      rw [e9, List.map_append]
      refine (tr.keep tu).append (.one (row3_mk (r := (b, low, low + ((cell.fdiv 9).fmod mm))) ?_))
      have n1 : t ≠ d := fun e => by rw [e, ed] at nt; cases nt
      have n2 : t ≠ r := fun e => by rw [e, er] at nt; cases nt
      rw [upd_ne n1, upd_ne n2, upd_same]
    · rw [upd_same]
      unfold bookOf
      rw [List.map_append]
      rfl
    · rw [List.length_append, lL]
      rfl
    · rw [List.map_append, nL, List.take_add_one, hb]
      rfl
    · rcases List.mem_append.mp he with z | z
      · exact bL e z
      · have z' : e = (b, low, low + ((cell.fdiv 9).fmod mm), vv) := by simpa using z
        rw [z', ← hval]
        refine ⟨?_, ?_⟩
        · show low ≤ low + _
          omega
        · show low + _ ≤ low + ((cell.fdiv 9).fmod mm)
          omega
  · obtain ⟨L, y3, y4, y5, y6, y7, rfl, sm, ev, lL, nL, bL⟩ := hp
    refine ⟨_, rfl, _, rfl, (by show 2 ≤ sizeLine; decide), fun t nt => ?_⟩
    have s5 := same_new nt (.tup [.ref r, .ref d])
    exact q _ t r d L (sm.trans s5) nr upd_same (ev.keep s5) ⟨by omega, by omega, by rw [lL]; exact nL, bL⟩
end
end Calm

namespace Calm
open PySem PySem.Spec PyProof.Rows L2
/-- parts by boxes of the book -/
structure PtOk (L : List Ent) (ps : Lin) : Prop where
  few : ps.length ≤ 4
  each : ∀ p ∈ ps, p.1 ∈ L.map (·.1) ∧ -2 ≤ p.2 ∧ p.2 ≤ 2 ∧ p.2 ≠ 0
theorem keys_book (L : List Ent) : (bookOf L).map (·.1) = L.map (·.1) := by
  unfold bookOf
  rw [List.map_map]
  rfl
theorem valV_key {b : Str} : ∀ {D : Lin}, b ∈ D.map (·.1) → valV (enc D) (Sum.inr b) = some (.int (getB D b))
  | [], h => absurd h (by simp)
  | p :: r, h => by
    by_cases e : p.1 = b
    · have h1 : valV (enc (p :: r)) (Sum.inr b) = some (.int p.2) := valV_pos (p := (Sum.inr p.1, V.int p.2)) (r := enc r) (by rw [e])
      have h2 : getB (p :: r) b = p.2 := by simp [getB, List.find?_cons, e]
      rw [h1, h2]
    · have h1 : valV (enc (p :: r)) (Sum.inr b) = valV (enc r) (Sum.inr b) := valV_neg (p := (Sum.inr p.1, V.int p.2)) (r := enc r) (fun q => e (Sum.inr.inj q))
      have h2 : getB (p :: r) b = getB r b := by simp [getB, List.find?_cons, e]
      rw [List.map_cons, List.mem_cons] at h
      rw [h1, h2]
      exact valV_key (h.resolve_left fun q => e q.symm)
theorem lin_sum (f : Str → Int) : ∀ ps : Lin, (ps.map fun p => p.2 * f p.1).sum = lin f ps
  | [] => rfl
  | p :: r => by
    rw [List.map_cons, List.sum_cons, lin_sum f r]
    rfl
theorem rows_get {L : List Ent} {i : Nat} {e : Ent} (h : L[i]? = some e) : (rowsOf L)[i]? = some (e.1, e.2.1, e.2.2.1) := by
  unfold rowsOf
  rw [List.getElem?_map, h]
  rfl
section
variable {P : Program} {w : World} {K : PySem.W.Frag} {mg : Str → Option Value} {base : Heap}
/-! ### _law_sum -/
abbrev sSumL : Stmt := topS 22
theorem scSumL : FnScope ["_law_digits", "_law_rows_here", "_law_parts", "_law_k", "_law_many"] ["_law_digits", "_law_rows_here"] (defScope sSumL) := ⟨rfl, rfl, rfl, by decide +kernel, rfl, by decide +kernel, by decide +kernel⟩
def spSumL : Sp := fun vs H Q _ => ∃ (dg : Int) (r : Addr) (L : List Ent), vs = [.int dg, .ref r] ∧ LstD H r ((rowsOf L).map rowD) ∧ L.length ≤ 4 ∧
  ∀ (H' : Hp) (v : V) (ps : Lin), Same H H' → Tp H' v (.tuple (linD ps)) → PtOk L ps → Q v H'
theorem ok_sumL {f : Addr} {fd : FuncData} {k : Nat} (R : Rf K mg "_law_sum" sSumL ["_law_digits", "_law_rows_here"] f fd) (B : Bt mg) : FnOk P w K mg base CX0 (k + 1) f fd ["_law_digits", "_law_rows_here"] spSumL := by
  refine R.F.ok scSumL (fun vs H Q E h => ?_) (fun cdv A' outer s H vs Q E hr h => ?_)
  · obtain ⟨dg, r, L, rfl, _⟩ := h
    rfl
  obtain ⟨dg, r, L, rfl, ⟨xr, er, tr⟩, l4, q⟩ := h
  refine ⟨_, pss_cons (ps_set (i := 2) scSumL.nd rfl (.inl rfl) (pe_lst pa_nil))
    (pss_cons (ps_for PassesOwn.never rfl (pi_range1 rfl B.range (pa_cons (pe_callB call_len_seq (by rfl) B.len PySem.boot_len (pa_cons (pv 1) pa_nil)) pa_nil)) (pg_name (i := 3) scSumL.nd rfl (.inl rfl))
      (pss_cons (ps_set (i := 4) scSumL.nd rfl (.inl rfl) (pe_op op_sub (pe_op op_modN (pe_op op_fdivN (pv 0) (pe_ix ix_list (pe_lst (pa_cons pe_int (pa_cons pe_int (pa_cons pe_int (pa_cons pe_int pa_nil))))) (pv 3) (fun _ _ => rfl))) pe_int) pe_int))
      (pss_one (ps_if (pt_cmpR op_ne (pv 4) pe_int (nomark _))
        (pss_one (ps_expr (pe_bm PySem.F.plainAttrs_list PySem.F.slot_list_append PySem.F.type_list_append mt_append (pv 2) (pa_cons (pe_tup (pa_cons (pe_ix ix_tup (pe_ix ix_list (pv 1) (pv 3) (fun _ _ => rfl)) pe_int (fun _ _ => rfl)) (pa_cons (pv 4) pa_nil))) pa_nil)))) pss_nil))))
    (pss_one (ps_ret (pe_callTy call_tuple_of (by rfl) B.tuple (by decide +kernel) (pa_cons (pe_callB cr_sortedTI (by rfl) B.sorted (by decide +kernel) (pa_cons (pv 2) pa_nil)) pa_nil))))), ?_⟩
  have lr := tr.len
  rw [List.length_map, rowsOf, List.length_map] at lr
  refine ⟨Nat.zero_le _, fun p np => ?_⟩
  have s0 := same_new np (.lst [])
  have hrp : r ≠ p := ne_of_none er np
  refine ⟨_, rfl, r, xr, rfl, .inl (.of (s0 _ _ er)), _, rfl, by omega, by omega, ?_⟩
  refine for_range (lo := 0) (n := (((xr.length : Nat) : Int)).toNat) (fun i σ H1 => ∃ ps y3 y4, σ = [some (.int dg), some (.ref r), some (.ref p), y3, y4] ∧ Same H H1 ∧ LstD H1 p (linD ps) ∧ ps.length ≤ i ∧ ∀ x ∈ ps, x.1 ∈ L.map (·.1) ∧ -2 ≤ x.2 ∧ x.2 ≤ 2 ∧ x.2 ≠ 0)
    ⟨[], none, none, rfl, s0, ⟨[], upd_same, .nil⟩, Nat.le_refl _, fun x hx => absurd hx (by simp)⟩ (fun i σ H1 hi hp => ?_) (fun σ H1 hp => ?_)
  · obtain ⟨ps, y3, y4, rfl, sm, ⟨xp, ep, tp⟩, lp, bp⟩ := hp
    have hiL : i < L.length := by omega
    obtain ⟨wt, hwt, hat⟩ := at4 (a := 1) (b := 5) (c := 25) (d := 125) (show i < 4 by omega)
    have wpos : wt ≠ 0 ∧ wt.natAbs < 1073741824 := by
      rcases hwt with e | e | e | e <;> (subst e; exact ⟨by decide, by decide⟩)
    refine ⟨_, rfl, (by show 4 ≤ sizeLine; decide), fun p1 np1 => ?_⟩
    have s1 := same_new np1 (.lst [.int 1, .int 5, .int 25, .int 125])
    have sm1 := sm.trans s1
    refine ⟨_, rfl, p1, _, _, _, rfl, rfl, .of upd_same, hat, dg, wt, rfl, rfl, wpos, dg.fdiv wt, 5, rfl, rfl, (by show _ ≠ (0 : Int); decide), _, 2, rfl, rfl, ?_⟩
    have hm := fmod_lt (x := dg.fdiv wt) (m := 5) (by decide)
    have ep1 := s1 _ _ ep
    have tp1 := tp.keep (.of s1)
    generalize hH2 : upd H1 p1 (.lst [.int 1, .int 5, .int 25, .int 125]) = H2 at sm1 ep1 tp1
    refine ⟨_, rfl, rfl, _, rfl, ite2 (fun e => ?_) (fun e => ?_)⟩
    · have heq : L[i]? = some L[i] := List.getElem?_eq_getElem hiL
      have hrow : ((rowsOf L).map rowD)[i]? = some (rowD (L[i].1, L[i].2.1, L[i].2.2.1)) := by
        rw [List.getElem?_map, rows_get heq]
        rfl
      obtain ⟨xv, hxv, txv⟩ := tr.get' hrow
      obtain ⟨c, rfl, ec⟩ := row3_inv (txv.keep (.of sm1))
      have hat2 : atI xr (0 + (i : Int)) = some (.ref c) := at_of (Int.zero_add _) hxv
      refine ⟨_, rfl, .inl ⟨rfl, _, .of ep1⟩, _, rfl, _, rfl, r, _, _, _, rfl, rfl, .of (sm1 _ _ er), hat2, c, _, 0, _, rfl, rfl, .of ec, atI_nat (j := 0) rfl, _, rfl, (by show 2 ≤ sizeLine; decide), fun t nt => ?_⟩
      have s3 := same_new nt (.tup [.str L[i].1, .int ((dg.fdiv wt).fmod 5 - 2)])
      have lxp := tp.len
      rw [linD_len] at lxp
      refine ⟨p, xp, _, rfl, rfl, s3 _ _ ep1, by rw [sizeLine_eq]; omega, ?_⟩
      have tu : Tups H2 (upd (upd H2 t (.tup [.str L[i].1, .int ((dg.fdiv wt).fmod 5 - 2)])) p (.lst (xp ++ [.ref t]))) := fun c' zs hc => by
        have n1 : c' ≠ p := fun e => by rw [e, ep1] at hc; cases hc
        rw [upd_ne n1]
        exact s3 _ _ hc
      refine ⟨ps ++ [(L[i].1, (dg.fdiv wt).fmod 5 - 2)], some (.int (0 + (i : Int))), some (.int ((dg.fdiv wt).fmod 5 - 2)), rfl, same_upd2 (sm1.trans s3) np, ⟨_, upd_same, ?_⟩, ?_, fun x hx => ?_⟩
      · rw [linD_app]
        refine (tp1.keep tu).append (.one (pair_mk ?_))
        have n1 : t ≠ p := fun e => by rw [e, ep1] at nt; cases nt
        rw [upd_ne n1, upd_same]
      · rw [List.length_append, List.length_singleton]
        omega
      · rcases List.mem_append.mp hx with z | z
        · exact bp x z
        · have z' : x = (L[i].1, (dg.fdiv wt).fmod 5 - 2) := by simpa using z
          rw [z']
          have en : ¬ (dg.fdiv wt).fmod 5 - 2 = 0 := by simpa using e
          refine ⟨List.mem_map.mpr ⟨L[i], List.getElem_mem hiL, rfl⟩, ?_, ?_, en⟩
          · show -2 ≤ (dg.fdiv wt).fmod 5 - 2
            omega
          · show (dg.fdiv wt).fmod 5 - 2 ≤ 2
            omega
    · exact ⟨ps, _, _, rfl, sm1, ⟨xp, ep1, tp1⟩, by omega, bp⟩
  · obtain ⟨ps, y3, y4, rfl, sm, ⟨xp, ep, tp⟩, lp, bp⟩ := hp
    refine ⟨_, rfl, p, xp, rfl, .of ep, fun x hx => ?_, fun zs u pz nu => ?_⟩
    · obtain ⟨j, hj⟩ := List.getElem?_of_mem hx
      obtain ⟨e, h1, h2⟩ := tp.get hj
      obtain ⟨y, _, rfl⟩ := linD_get h1
      obtain ⟨t, et, ht⟩ := pair_inv h2
      exact ⟨t, y.1, y.2, et, ht⟩
    · obtain ⟨m, pm, tm⟩ := tp.perm pz
      have k1 := same_new nu (.lst zs)
      refine ⟨u, zs, rfl, .inl ⟨.of upd_same, fun l nl => ?_⟩⟩
      have k2 := same_new nl (.tup zs)
      refine q _ (.ref l) m ((sm.trans k1).trans k2) (.tup upd_same ((tm.keep (.of k1)).keep (.of k2))) ⟨by rw [pm.length_eq]; omega, fun x hx => bp x (pm.mem_iff.mp hx)⟩
/-! ### _law_at -/
abbrev sAtL : Stmt := topS 23
theorem scAtL : FnScope ["_law_parts", "_law_book", "_law_box", "_law_times"] ["_law_parts", "_law_book"] (defScope sAtL) := ⟨rfl, rfl, rfl, by decide +kernel, rfl, by decide +kernel, by decide +kernel⟩
def spAtL : Sp := fun vs H Q _ => ∃ (v : V) (d : Addr) (L : List Ent) (ps : Lin), vs = [v, .ref d] ∧ Tp H v (.tuple (linD ps)) ∧ H d = some (.dK (enc (bookOf L))) ∧ PtOk L ps ∧ ∀ H', Same H H' → Q (.int (lin (bk L) ps)) H'
theorem ok_atL {f : Addr} {fd : FuncData} {k : Nat} (R : Rf K mg "_law_at" sAtL ["_law_parts", "_law_book"] f fd) (B : Bt mg) : FnOk P w K mg base CX0 (k + 1) f fd ["_law_parts", "_law_book"] spAtL := by
  refine R.F.ok scAtL (fun vs H Q E h => ?_) (fun cdv A' outer s H vs Q E hr h => ?_)
  · obtain ⟨v, d, L, ps, rfl, _⟩ := h
    rfl
  obtain ⟨v, d, L, ps, rfl, tv, ed, ok, q⟩ := h
  obtain ⟨c, xp, rfl, ec, tp⟩ := tv.tup_inv
  have hu := hu_of hr
  refine ⟨_, pss_one (ps_ret (pe_callB (cr_sum rfl) (by rfl) B.sum (by decide +kernel) (pa_cons
    (pe_lc (own := [("_law_box", 2), ("_law_times", 3)]) (g := gTup K 2 (gCons (gName 2) (gCons (gName 3) gNil))) rfl scAtL.nd (pi_tup (pv 0))
      (blkOk_by (own := [("_law_box", 2), ("_law_times", 3)]) (N := ["_law_parts", "_law_book", "_law_box", "_law_times"]) (sc := defScope sAtL) (by decide +kernel))
      (fun _ _ _ _ _ => pg_tup (n := 2) rfl (pgs_cons (pg_name (i := 2) scAtL.nd rfl (.inl rfl) (.inr rfl)) (pgs_cons (pg_name (i := 3) scAtL.nd rfl (.inl rfl) (.inr rfl)) pgs_nil)))
      (fun _ _ _ _ _ => pts_nil)
      (fun _ _ _ _ _ => pe_op op_mul (pv 3) (pe_dget hu (pv 1) (pv 2) (fun _ _ => rfl)))) pa_nil))), ?_⟩
  have lp := tp.len
  rw [linD_len] at lp
  refine ⟨_, rfl, c, rfl, ⟨xp, .of ec⟩, fun D nD => ?_⟩
  refine lc_tup (K := K) (a := c) (xs := xp) (fun i H2 => H2 D = some (.lst (((ps.take i).map fun p => p.2 * bk L p.1).map V.int)) ∧ Same H H2) ⟨upd_same, same_new nD _⟩ (fun i H2 _ hp => .of (hp.2 _ _ ec)) (fun i x H2 hx hp => ?_) (fun H2 hp => ?_)
  · obtain ⟨eD, sm⟩ := hp
    obtain ⟨e, he, te⟩ := tp.get hx
    obtain ⟨p, hp, rfl⟩ := linD_get he
    obtain ⟨t, rfl, et⟩ := pair_inv (te.keep (.of sm))
    have okp := ok.each p (List.mem_of_getElem? hp)
    have hi : i < ps.length := (List.getElem?_eq_some_iff.mp hp).1
    have hk : valV (enc (bookOf L)) (Sum.inr p.1) = some (.int (getB (bookOf L) p.1)) := valV_key (by rw [keys_book]; exact okp.1)
    have hg := DGet.k (k := Sum.inr p.1) (sm _ _ ed)
    rw [hk] at hg
    refine ⟨t, _, rfl, .of et, rfl, _, _, rfl, _, _, rfl, rfl, rfl, ?_⟩
    refine ⟨_, rfl, _, rfl, _, rfl, d, _, rfl, hg, p.2, _, rfl, rfl, .inl ⟨by omega, by omega⟩, _, eD, ?_, ?_, same_upd2 sm nD⟩
    · have := ok.few
      rw [List.length_map, List.length_map, List.length_take, sizeLine_eq]
      omega
    · rw [upd_same, List.take_add_one, hp, List.map_append, List.map_append]
      rfl
  · obtain ⟨eD, sm⟩ := hp
    rw [lp, List.take_length] at eD
    refine ⟨D, _, rfl, .of eD, ?_⟩
    rw [lin_sum]
    exact q H2 sm
end
end Calm

namespace Calm
open PySem PySem.Spec PyProof.Rows L2
section
variable {P : Program} {w : World} {K : PySem.W.Frag} {mg : Str → Option Value} {base : Heap}
/-! ### _law_atom -/
abbrev sAtomL : Stmt := topS 24
theorem scAtomL : FnScope ["_law_digits", "_law_rows_here", "_law_book", "_law_parts", "_law_here", "_law_m"] ["_law_digits", "_law_rows_here", "_law_book"] (defScope sAtomL) := ⟨rfl, rfl, rfl, by decide +kernel, rfl, by decide +kernel, by decide +kernel⟩
abbrev pDRB : List Str := ["_law_digits", "_law_rows_here", "_law_book"]
def spAtomL : Sp := fun vs H Q _ => ∃ (dg : Int) (r d : Addr) (L : List Ent), vs = [.int dg, .ref r, .ref d] ∧ EvAt H r d L ∧ L.length ≤ 4 ∧
  ∀ (H' : Hp) (v : V) (F : Fm), Same H H' → Tp H' v F.d → F.tru (bk L) → F.ok → F.sz = 1 → Q v H'
theorem ok_atomL {f fS fA : Addr} {fd fdS fdA : FuncData} {k : Nat} (R : Rf K mg "_law_atom" sAtomL pDRB f fd)
    (RS : Rf K mg "_law_sum" sSumL ["_law_digits", "_law_rows_here"] fS fdS) (GS : FnOk P w K mg base CX0 k fS fdS ["_law_digits", "_law_rows_here"] spSumL)
    (RA : Rf K mg "_law_at" sAtL ["_law_parts", "_law_book"] fA fdA) (GA : FnOk P w K mg base CX0 k fA fdA ["_law_parts", "_law_book"] spAtL) :
    FnOk P w K mg base CX0 (k + 1) f fd pDRB spAtomL := by
  refine R.F.ok scAtomL (fun vs H Q E h => ?_) (fun cdv A' outer s H vs Q E hr h => ?_)
  · obtain ⟨dg, r, d, L, rfl, _⟩ := h
    rfl
  obtain ⟨dg, r, d, L, rfl, ev, l4, q⟩ := h
  refine ⟨_, pss_cons (ps_set (i := 3) scAtomL.nd rfl (.inl rfl) (pe_call GS hr rfl RS.m RS.F.kp RS.b .nil pass0 (pa_cons (pe_op op_fdivN (pv 0) pe_int) (pa_cons (pv 1) pa_nil))))
    (pss_cons (ps_set (i := 4) scAtomL.nd rfl (.inl rfl) (pe_call GA hr rfl RA.m RA.F.kp RA.b .nil pass0 (pa_cons (pv 3) (pa_cons (pv 2) pa_nil))))
    (pss_cons (ps_if (pt_cmpR op_lt (pe_op op_modN (pv 0) pe_int) pe_int (nomark _))
      (pss_one (ps_ret (pe_tup (pa_cons pe_str (pa_cons (pe_tup (pa_cons (pe_op op_sub (pe_un un_neg (pv 4)) (pe_op op_mul (pe_op op_modN (pv 0) pe_int) (pe_op op_modN (pe_op op_fdivN (pv 0) pe_int) pe_int))) (pa_cons (pv 3) pa_nil))) pa_nil))))) pss_nil)
    (pss_cons (ps_set (i := 5) scAtomL.nd rfl (.inl rfl) (pe_op op_add pe_int (pe_op op_modN (pe_op op_fdivN (pv 0) pe_int) pe_int)))
    (pss_one (ps_ret (pe_tup (pa_cons pe_str (pa_cons (pe_tup (pa_cons (pe_op op_add (pe_un un_neg (pv 4)) (pe_op op_mul (pv 5) (pe_op op_sub (pe_op op_modN (pe_op op_fdivN (pv 0) pe_int) pe_int) pe_int))) (pa_cons (pv 3) pa_nil))) (pa_cons (pv 5) pa_nil))))))))), ?_⟩
  refine ⟨_, rfl, dg, 4, rfl, rfl, ⟨by decide, by decide⟩, _, rfl, _, r, L, rfl, ev.rows, l4, fun H1 v ps sm tv pt => ?_⟩
  have ev1 := ev.keep sm
  refine ⟨_, rfl, _, rfl, v, d, L, ps, rfl, tv, ev1.book, pt, fun H2 sm2 => ?_⟩
  have sA := sm.trans sm2
  have tv2 := tv.keep (.of sm2)
  obtain ⟨c, xp, rfl, ec, tp⟩ := tv2.tup_inv
  have few := pt.few
  have h2 := fmod_lt (x := dg) (m := 2) (by decide)
  refine ⟨_, rfl, dg, 4, rfl, rfl, (by show _ ≠ (0 : Int); decide), _, 2, rfl, rfl, _, rfl, ite2 (fun e => ?_) (fun e => ?_)⟩
  · refine ⟨_, rfl, _, rfl, _, rfl, dg, 2, rfl, rfl, (by show _ ≠ (0 : Int); decide), _, rfl, dg, 2500, rfl, rfl, ⟨by decide, by decide⟩, dg.fdiv 2500, 4, rfl, rfl, (by show _ ≠ (0 : Int); decide), dg.fmod 2, (dg.fdiv 2500).fmod 4, rfl, rfl, .inl ⟨by omega, by omega⟩, -(lin (bk L) ps), _, rfl, rfl, _, rfl, (by show 2 ≤ sizeLine; decide), fun t nt => ⟨(by show 2 ≤ sizeLine; decide), fun u nu => ?_⟩⟩
    have s1 := same_new nt (.tup [.int (-(lin (bk L) ps) - dg.fmod 2 * (dg.fdiv 2500).fmod 4), .ref c])
    have s2 := same_new nu (.tup [.str "most", .ref t])
    have h4 := fmod_lt (x := dg.fdiv 2500) (m := 4) (by decide)
    have hp : 0 ≤ dg.fmod 2 * (dg.fdiv 2500).fmod 4 := Int.mul_nonneg h2.1 h4.1
    refine q _ (.ref u) (.most (-(lin (bk L) ps) - dg.fmod 2 * (dg.fdiv 2500).fmod 4, ps)) ((sA.trans s1).trans s2) (most_mk upd_same (sm_mk (q := c) (xs := xp) (s2 _ _ upd_same) (s2 _ _ (s1 _ _ ec)) ((tp.keep (.of s1)).keep (.of s2)))) ?_ ?_ rfl
    · show val _ _ ≤ 0
      unfold val
      show -(lin (bk L) ps) - dg.fmod 2 * (dg.fdiv 2500).fmod 4 + lin (bk L) ps ≤ 0
      omega
    · show ps.length ≤ 100
      omega
  · have h11 := fmod_lt (x := dg.fdiv 2500) (m := 11) (by decide)
    refine ⟨_, rfl, dg, 2500, rfl, rfl, ⟨by decide, by decide⟩, dg.fdiv 2500, 11, rfl, rfl, (by show _ ≠ (0 : Int); decide), 2, (dg.fdiv 2500).fmod 11, rfl, rfl, ?_⟩
    refine ⟨_, rfl, _, rfl, _, rfl, _, rfl, dg, 27500, rfl, rfl, ⟨by decide, by decide⟩, dg.fdiv 27500, 3, rfl, rfl, (by show _ ≠ (0 : Int); decide), (dg.fdiv 27500).fmod 3, 1, rfl, rfl, 2 + (dg.fdiv 2500).fmod 11, (dg.fdiv 27500).fmod 3 - 1, rfl, rfl, .inl ⟨by omega, by omega⟩, -(lin (bk L) ps), _, rfl, rfl, _, rfl, (by show 2 ≤ sizeLine; decide), fun t nt => ⟨_, rfl, (by show 3 ≤ sizeLine; decide), fun u nu => ?_⟩⟩
    have s1 := same_new nt (.tup [.int (-(lin (bk L) ps) + (2 + (dg.fdiv 2500).fmod 11) * ((dg.fdiv 27500).fmod 3 - 1)), .ref c])
    have s2 := same_new nu (.tup [.str "rest", .ref t, .int (2 + (dg.fdiv 2500).fmod 11)])
    refine q _ (.ref u) (.rest (-(lin (bk L) ps) + (2 + (dg.fdiv 2500).fmod 11) * ((dg.fdiv 27500).fmod 3 - 1), ps) (2 + (dg.fdiv 2500).fmod 11)) ((sA.trans s1).trans s2)
      (.tup upd_same (.cons (.str _) (.cons (sm_mk (q := c) (xs := xp) (s2 _ _ upd_same) (s2 _ _ (s1 _ _ ec)) ((tp.keep (.of s1)).keep (.of s2))) (.cons (.int _) .nil)))) ?_ ?_ rfl
    · show _ ∣ val _ _
      unfold val
      show (2 + (dg.fdiv 2500).fmod 11) ∣ -(lin (bk L) ps) + (2 + (dg.fdiv 2500).fmod 11) * ((dg.fdiv 27500).fmod 3 - 1) + lin (bk L) ps
      have e9 : -(lin (bk L) ps) + (2 + (dg.fdiv 2500).fmod 11) * ((dg.fdiv 27500).fmod 3 - 1) + lin (bk L) ps = (2 + (dg.fdiv 2500).fmod 11) * ((dg.fdiv 27500).fmod 3 - 1) := by omega
      rw [e9]
      exact Int.dvd_mul_right _ _
    · show ps.length ≤ 100 ∧ 2 ≤ 2 + (dg.fdiv 2500).fmod 11
      exact ⟨by omega, by omega⟩
/-! ### _law_form -/
abbrev sFormL : Stmt := topS 25
theorem scFormL : FnScope ["_law_digits", "_law_rows_here", "_law_book", "_law_kind", "_law_one", "_law_other", "_law_any_one"] pDRB (defScope sFormL) := ⟨rfl, rfl, rfl, by decide +kernel, rfl, by decide +kernel, by decide +kernel⟩
def spFormL : Sp := fun vs H Q _ => ∃ (dg : Int) (r d : Addr) (L : List Ent), vs = [.int dg, .ref r, .ref d] ∧ EvAt H r d L ∧ L.length ≤ 4 ∧
  ∀ (H' : Hp) (v : V) (F : Fm), Same H H' → Tp H' v F.d → F.tru (bk L) → F.ok → F.sz ≤ 5 → Q v H'
theorem at5 {a b c d e : V} {i : Int} (h0 : 0 ≤ i) (h : i < 5) : (i = 0 ∨ i = 1 ∨ i = 2 ∨ i = 3 ∨ i = 4) := by omega
theorem ok_formL {f fS fA : Addr} {fd fdS fdA : FuncData} {k : Nat} (R : Rf K mg "_law_form" sFormL pDRB f fd)
    (RS : Rf K mg "_law_sum" sSumL ["_law_digits", "_law_rows_here"] fS fdS) (GS : FnOk P w K mg base CX0 k fS fdS ["_law_digits", "_law_rows_here"] spSumL)
    (RA : Rf K mg "_law_atom" sAtomL pDRB fA fdA) (GA : FnOk P w K mg base CX0 k fA fdA pDRB spAtomL) :
    FnOk P w K mg base CX0 (k + 1) f fd pDRB spFormL := by
  refine R.F.ok scFormL (fun vs H Q E h => ?_) (fun cdv A' outer s H vs Q E hr h => ?_)
  · obtain ⟨dg, r, d, L, rfl, _⟩ := h
    rfl
  obtain ⟨dg, r, d, L, rfl, ev, l4, q⟩ := h
  refine ⟨_, pss_cons (ps_set (i := 3) scFormL.nd rfl (.inl rfl) (pe_op op_modN (pv 0) pe_int))
    (pss_cons (ps_set (i := 4) scFormL.nd rfl (.inl rfl) (pe_call GA hr rfl RA.m RA.F.kp RA.b .nil pass0 (pa_cons (pe_op op_fdivN (pv 0) pe_int) (pa_cons (pv 1) (pa_cons (pv 2) pa_nil)))))
    (pss_cons (ps_set (i := 5) scFormL.nd rfl (.inl rfl) (pe_call GA hr rfl RA.m RA.F.kp RA.b .nil pass0 (pa_cons (pe_op op_fdivN (pv 0) pe_int) (pa_cons (pv 1) (pa_cons (pv 2) pa_nil)))))
    (pss_cons (ps_set (i := 6) scFormL.nd rfl (.inl rfl) (pe_tup (pa_cons pe_str (pa_cons (pe_tup (pa_cons (pe_op op_sub (pe_op op_modN (pe_op op_fdivN (pv 0) pe_int) pe_int) pe_int)
      (pa_cons (pe_call GS hr rfl RS.m RS.F.kp RS.b .nil pass0 (pa_cons (pe_op op_fdivN (pv 0) pe_int) (pa_cons (pv 1) pa_nil))) pa_nil))) pa_nil))))
    (pss_one (ps_ret (pe_ix ix_list (pe_lst (pa_cons (pv 4) (pa_cons (pv 4) (pa_cons (pe_tup (pa_cons pe_str (pa_cons (pe_tup (pa_cons (pv 4) (pa_cons (pv 5) pa_nil))) pa_nil)))
      (pa_cons (pe_tup (pa_cons pe_str (pa_cons (pe_tup (pa_cons (pv 6) (pa_cons (pv 4) pa_nil))) pa_nil)))
      (pa_cons (pe_tup (pa_cons pe_str (pa_cons (pe_tup (pa_cons (pv 4) (pa_cons (pv 6) (pa_cons (pe_tup (pa_cons pe_str (pa_cons (pe_tup pa_nil) pa_nil))) pa_nil)))) pa_nil))) pa_nil)))))) (pv 3) (fun _ _ => rfl))))))), ?_⟩
  have hk := fmod_lt (x := dg) (m := 5) (by decide)
  refine ⟨_, rfl, dg, 5, rfl, rfl, (by show _ ≠ (0 : Int); decide), ?_⟩
  refine ⟨_, rfl, dg, 5, rfl, rfl, ⟨by decide, by decide⟩, _, rfl, _, rfl, _, r, d, L, rfl, ev, l4, fun H1 v1 F1 sm1 t1 tr1 ok1 sz1 => ?_⟩
  refine ⟨_, rfl, dg, 500000, rfl, rfl, ⟨by decide, by decide⟩, _, rfl, _, rfl, _, r, d, L, rfl, ev.keep sm1, l4, fun H2 v2 F2 sm2 t2 tr2 ok2 sz2 => ?_⟩
  have sA := sm1.trans sm2
  refine ⟨_, rfl, dg, 7, rfl, rfl, ⟨by decide, by decide⟩, dg.fdiv 7, 9, rfl, rfl, (by show _ ≠ (0 : Int); decide), (dg.fdiv 7).fmod 9, 4, rfl, rfl, _, rfl, dg, 63, rfl, rfl, ⟨by decide, by decide⟩, _, rfl, _, r, L, rfl, (ev.keep sA).rows, l4, fun H3 v3 ps sm3 t3 pt => ?_⟩
  obtain ⟨c, xp, rfl, ec, tp⟩ := t3.tup_inv
  refine ⟨(by show 2 ≤ sizeLine; decide), fun p1 n1 => ⟨(by show 2 ≤ sizeLine; decide), fun p2 n2 => ?_⟩⟩
  have s1 := same_new n1 (.tup [.int ((dg.fdiv 7).fmod 9 - 4), .ref c])
  have s2 := same_new n2 (.tup [.str "most", .ref p1])
  have t6 := most_mk (s := ((dg.fdiv 7).fmod 9 - 4, ps)) (upd_same (H := upd H3 p1 (.tup [.int ((dg.fdiv 7).fmod 9 - 4), .ref c])) (a := p2) (o := .tup [.str "most", .ref p1]))
    (sm_mk (q := c) (xs := xp) (s2 _ _ upd_same) (s2 _ _ (s1 _ _ ec)) ((tp.keep (.of s1)).keep (.of s2)))
  have sB := (sA.trans sm3).trans (s1.trans s2)
  have few := pt.few
  have ok3 : (Fm.most ((dg.fdiv 7).fmod 9 - 4, ps)).ok := show ps.length ≤ 100 by omega
  have k1 : Tups H1 (upd (upd H3 p1 (.tup [.int ((dg.fdiv 7).fmod 9 - 4), .ref c])) p2 (.tup [.str "most", .ref p1])) := .of ((sm2.trans sm3).trans (s1.trans s2))
  have k2 : Tups H2 (upd (upd H3 p1 (.tup [.int ((dg.fdiv 7).fmod 9 - 4), .ref c])) p2 (.tup [.str "most", .ref p1])) := .of (sm3.trans (s1.trans s2))
  have t4 := t1.keep k1
  have t5 := t2.keep k2
  generalize hH4 : upd (upd H3 p1 (.tup [.int ((dg.fdiv 7).fmod 9 - 4), .ref c])) p2 (.tup [.str "most", .ref p1]) = H4 at t4 t5 t6 sB
  -- the five
  refine ⟨_, rfl, _, rfl, _, rfl, _, rfl, (by show 2 ≤ sizeLine; decide), fun a1 m1 => ⟨(by show 2 ≤ sizeLine; decide), fun a2 m2 => ?_⟩⟩
  have u1 := same_new m1 (.tup [v1, v2])
  have u2 := same_new m2 (.tup [.str "and", .ref a1])
  refine ⟨_, rfl, _, rfl, (by show 2 ≤ sizeLine; decide), fun a3 m3 => ⟨(by show 2 ≤ sizeLine; decide), fun a4 m4 => ?_⟩⟩
  have u3 := same_new m3 (.tup [.ref p2, v1])
  have u4 := same_new m4 (.tup [.str "or", .ref a3])
  refine ⟨_, rfl, _, rfl, Nat.zero_le _, fun a5 m5 => ⟨(by show 2 ≤ sizeLine; decide), fun a6 m6 => ⟨(by show 3 ≤ sizeLine; decide), fun a7 m7 => ⟨(by show 2 ≤ sizeLine; decide), fun a8 m8 => ⟨(by show 5 ≤ sizeLine; decide), fun a9 m9 => ?_⟩⟩⟩⟩⟩
  have u5 := same_new m5 (.tup [])
  have u6 := same_new m6 (.tup [.str "or", .ref a5])
  have u7 := same_new m7 (.tup [v1, .ref p2, .ref a6])
  have u8 := same_new m8 (.tup [.str "or", .ref a7])
  have u9 := same_new m9 (.lst [v1, v1, .ref a2, .ref a4, .ref a8])
  have w34 := ((((u5.trans u6).trans u7).trans u8).trans u9)
  have w2 := (u3.trans u4).trans w34
  have w1 := (u1.trans u2).trans w2
  have sC := sB.trans w1
  refine ⟨_, rfl, a9, [v1, v1, .ref a2, .ref a4, .ref a8], dg.fmod 5, ?_⟩
  have hk' : dg.fmod 5 = 0 ∨ dg.fmod 5 = 1 ∨ dg.fmod 5 = 2 ∨ dg.fmod 5 = 3 ∨ dg.fmod 5 = 4 := by omega
  rcases hk' with e | e | e | e | e
  · refine ⟨v1, rfl, rfl, .of upd_same, at_of (j := 0) e rfl, ?_⟩
    exact q _ v1 F1 sC (t4.keep (.of w1)) tr1 ok1 (by omega)
  · refine ⟨v1, rfl, rfl, .of upd_same, at_of (j := 1) e rfl, ?_⟩
    exact q _ v1 F1 sC (t4.keep (.of w1)) tr1 ok1 (by omega)
  · refine ⟨.ref a2, rfl, rfl, .of upd_same, at_of (j := 2) e rfl, ?_⟩
    refine q _ _ (.and [F1, F2]) sC (.tup (w2 _ _ upd_same) (.cons (.str _) (.cons (.tup (w2 _ _ (u2 _ _ upd_same)) (.cons (t4.keep (.of w1)) (.cons (t5.keep (.of w1)) .nil))) .nil))) ⟨tr1, tr2, trivial⟩ ⟨ok1, ok2, trivial⟩ ?_
    simp only [Fm.sz, Fm.szs]
    omega
  · refine ⟨.ref a4, rfl, rfl, .of upd_same, at_of (j := 3) e rfl, ?_⟩
    refine q _ _ (.or [.most ((dg.fdiv 7).fmod 9 - 4, ps), F1]) sC (.tup (w34 _ _ upd_same) (.cons (.str _) (.cons (.tup (w34 _ _ (u4 _ _ upd_same)) (.cons (t6.keep (.of w1)) (.cons (t4.keep (.of w1)) .nil))) .nil))) (.inr (.inl tr1)) ⟨ok3, ok1, trivial⟩ ?_
    simp only [Fm.sz, Fm.szs]
    omega
  · refine ⟨.ref a8, rfl, rfl, .of upd_same, at_of (j := 4) e rfl, ?_⟩
    have u89 := u8.trans u9
    refine q _ _ (.or [F1, .most ((dg.fdiv 7).fmod 9 - 4, ps), .or []]) sC (.tup (u9 _ _ upd_same) (.cons (.str _) (.cons (.tup (u89 _ _ upd_same) (.cons (t4.keep (.of w1)) (.cons (t6.keep (.of w1)) (.cons ?_ .nil)))) .nil))) (.inl tr1) ⟨ok1, ok3, trivial, trivial⟩ ?_
    · exact .tup ((u7.trans u89) _ _ upd_same) (.cons (.str _) (.cons (.tup ((u7.trans u89) _ _ (u6 _ _ upd_same)) .nil) .nil))
    · simp only [Fm.sz, Fm.szs]
      omega
end
end Calm

namespace Calm
open PySem PySem.Spec PyProof.Rows L2
def rD (r : List Int) : PyData := .tuple (r.map .int)
theorem But.tups {c : Addr} {H H' : Hp} {xs : List V} (b : But c H H') (hc : H c = some (.lst xs)) : Tups H H' := fun a zs h => b a _ (fun e => by rw [e, hc] at h; cases h) h
theorem EvAt.but {c : Addr} {H H' : Hp} {xs : List V} {r d : Addr} {L : List Ent} (b : But c H H') (hc : H c = some (.lst xs)) (hr : r ≠ c) (ev : EvAt H r d L) : EvAt H' r d L := by
  obtain ⟨⟨ys, er, tr⟩, ed⟩ := ev
  exact ⟨⟨ys, b _ _ hr er, tr.keep (b.tups hc)⟩, b _ _ (fun e => by rw [e, hc] at ed; cases ed) ed⟩
section
variable {P : Program} {w : World} {K : PySem.W.Frag} {mg : Str → Option Value} {base : Heap}
/-! ### _law_rows_of -/
abbrev sRO : Stmt := topS 26
theorem scRO : FnScope ["_law_digits", "_law_many", "_law_triples", "_law_rows_here", "_law_k", "_law_more"] ["_law_digits", "_law_many", "_law_triples"] (defScope sRO) := ⟨rfl, rfl, rfl, by decide +kernel, rfl, by decide +kernel, by decide +kernel⟩
def spRO : Sp := fun vs H Q _ => ∃ (dg m : Int) (t : Bool), vs = [.int dg, .int m, .bl t] ∧ 0 < m ∧ m ≤ 1000 ∧ ∀ (H' : Hp) (v : V) (R : List (List Int)), Same H H' → Tp H' v (rowsD R) → rowsOk R → Q v H'
theorem ok_ro {f : Addr} {fd : FuncData} {k : Nat} (R : Rf K mg "_law_rows_of" sRO ["_law_digits", "_law_many", "_law_triples"] f fd) (B : Bt mg) : FnOk P w K mg base CX0 (k + 1) f fd ["_law_digits", "_law_many", "_law_triples"] spRO := by
  refine R.F.ok scRO (fun vs H Q E h => ?_) (fun cdv A' outer s H vs Q E hr h => ?_)
  · obtain ⟨dg, m, t, rfl, _⟩ := h
    rfl
  obtain ⟨dg, m, t, rfl, m0, m1, q⟩ := h
  refine ⟨_, pss_cons (ps_set (i := 3) scRO.nd rfl (.inl rfl) (pe_lst pa_nil))
    (pss_cons (ps_for PassesOwn.never rfl (pi_range1 rfl B.range (pa_cons (pe_op op_add pe_int (pe_op op_modN (pv 0) pe_int)) pa_nil)) (pg_name (i := 4) scRO.nd rfl (.inl rfl))
      (pss_cons (ps_set (i := 5) scRO.nd rfl (.inl rfl) (pe_op op_fdivN (pv 0) (pe_ix ix_list (pe_lst (pa_cons pe_int (pa_cons pe_int (pa_cons pe_int (pa_cons pe_int pa_nil))))) (pv 4) (fun _ _ => rfl))))
      (pss_one (ps_if (PW.pt (pw_and (pt_val (pv 2)) (pw_and1 (pt_cmpR op_eq (pe_op op_modN (pv 5) pe_int) pe_int (nomark _)))))
        (pss_one (ps_expr (pe_bm PySem.F.plainAttrs_list PySem.F.slot_list_append PySem.F.type_list_append mt_append (pv 3) (pa_cons (pe_tup (pa_cons (pe_op op_modN (pe_op op_fdivN (pv 5) pe_int) (pv 1)) (pa_cons (pe_op op_modN (pe_op op_fdivN (pv 5) pe_int) (pv 1)) (pa_cons (pe_op op_add pe_int (pe_op op_modN (pe_op op_fdivN (pv 5) pe_int) pe_int)) pa_nil)))) pa_nil))))
        (pss_one (ps_expr (pe_bm PySem.F.plainAttrs_list PySem.F.slot_list_append PySem.F.type_list_append mt_append (pv 3) (pa_cons (pe_tup (pa_cons (pe_op op_modN (pe_op op_fdivN (pv 5) pe_int) (pv 1)) (pa_cons (pe_op op_sub (pe_op op_modN (pe_op op_fdivN (pv 5) pe_int) pe_int) pe_int) pa_nil))) pa_nil))))))))
    (pss_one (ps_ret (pe_callTy call_tuple_of (by rfl) B.tuple (by decide +kernel) (pa_cons (pv 3) pa_nil))))), ?_⟩
  refine ⟨Nat.zero_le _, fun p np => ?_⟩
  have s0 := same_new np (.lst [])
  have h4 := fmod_lt (x := dg) (m := 4) (by decide)
  refine ⟨_, rfl, dg, 4, rfl, rfl, (by show _ ≠ (0 : Int); decide), 1, dg.fmod 4, rfl, rfl, 1 + dg.fmod 4, rfl, by omega, by omega, ?_⟩
  refine for_range (lo := 0) (n := (1 + dg.fmod 4).toNat) (fun i σ H1 => ∃ R y4 y5, σ = [some (.int dg), some (.int m), some (.bl t), some (.ref p), y4, y5] ∧ Same H H1 ∧ LstD H1 p (R.map rD) ∧ R.length = i ∧ ∀ r ∈ R, (r.length = 2 ∨ r.length = 3) ∧ ∀ z ∈ r, -(2 ^ 60) < z ∧ z < 2 ^ 60)
    ⟨[], none, none, rfl, s0, ⟨[], upd_same, .nil⟩, rfl, fun r hr => absurd hr (by simp)⟩ (fun i σ H1 hi hp => ?_) (fun σ H1 hp => ?_)
  · obtain ⟨R, y4, y5, rfl, sm, ⟨xp, ep, tp⟩, lR, bR⟩ := hp
    have lp := tp.len
    rw [List.length_map] at lp
    obtain ⟨wt, hwt, hat⟩ := at4 (a := 4) (b := 44) (c := 484) (d := 5324) (show i < 4 by omega)
    have wpos : wt ≠ 0 ∧ wt.natAbs < 1073741824 := by
      rcases hwt with e | e | e | e <;> (subst e; exact ⟨by decide, by decide⟩)
    refine ⟨_, rfl, (by show 4 ≤ sizeLine; decide), fun p1 np1 => ?_⟩
    have s1 := same_new np1 (.lst [.int 4, .int 44, .int 484, .int 5324])
    have sm1 := sm.trans s1
    refine ⟨_, rfl, p1, _, _, _, rfl, rfl, .of upd_same, hat, dg, wt, rfl, rfl, wpos, ?_⟩
    have ep1 := s1 _ _ ep
    have tp1 := tp.keep (.of s1)
    generalize hH2 : upd H1 p1 (.lst [.int 4, .int 44, .int 484, .int 5324]) = H2 at sm1 ep1 tp1
    have hm2 := fmod_lt (x := (dg.fdiv wt).fdiv 2) (m := m) m0
    have hm4 := fmod_lt (x := (dg.fdiv wt).fdiv 4) (m := m) m0
    have hm8 := fmod_lt (x := (dg.fdiv wt).fdiv 4) (m := 8) (by decide)
    have hm3 := fmod_lt (x := (dg.fdiv wt).fdiv 8) (m := 3) (by decide)
    have fin : ∀ (rr : List Int), ((rr.length = 2 ∨ rr.length = 3) ∧ ∀ z ∈ rr, -(2 ^ 60) < z ∧ z < 2 ^ 60) → ∀ (tt : Addr), H2 tt = none → ∀ y4 y5 : Option V,
        ∃ (R' : List (List Int)) (y4' y5' : Option V), [some (V.int dg), some (V.int m), some (V.bl t), some (V.ref p), y4, y5] = [some (V.int dg), some (V.int m), some (V.bl t), some (V.ref p), y4', y5'] ∧ Same H (upd (upd H2 tt (.tup (rr.map V.int))) p (.lst (xp ++ [.ref tt]))) ∧ LstD (upd (upd H2 tt (.tup (rr.map V.int))) p (.lst (xp ++ [.ref tt]))) p (R'.map rD) ∧ R'.length = i + 1 ∧ ∀ r ∈ R', (r.length = 2 ∨ r.length = 3) ∧ ∀ z ∈ r, -(2 ^ 60) < z ∧ z < 2 ^ 60 := fun rr hrr tt ht y4 y5 => by
      have s3 := same_new ht (.tup (rr.map V.int))
      have tu : Tups H2 (upd (upd H2 tt (.tup (rr.map V.int))) p (.lst (xp ++ [.ref tt]))) := fun c' zs hc => by
        have n1 : c' ≠ p := fun e => by rw [e, ep1] at hc; cases hc
        rw [upd_ne n1]
        exact s3 _ _ hc
      refine ⟨R ++ [rr], y4, y5, rfl, same_upd2 (sm1.trans s3) np, ⟨_, upd_same, ?_⟩, ?_, fun x hx => ?_⟩
      · rw [List.map_append]
        refine (tp1.keep tu).append (.one (.tup (xs := rr.map V.int) ?_ (ints_mk rr)))
        have n1 : tt ≠ p := fun e => by rw [e, ep1] at ht; cases ht
        rw [upd_ne n1, upd_same]
      · rw [List.length_append, List.length_singleton]
        omega
      · rcases List.mem_append.mp hx with z | z
        · exact bR x z
        · have z' : x = rr := by simpa using z
          rw [z']
          exact hrr
    refine ⟨_, rfl, t, rfl, ite2 (fun et => ?_) (fun et => ?_)⟩
    · refine ⟨_, rfl, dg.fdiv wt, 2, rfl, rfl, (by show _ ≠ (0 : Int); decide), rfl, _, rfl, ite2 (fun e2 => ?_) (fun e2 => ?_)⟩
      · refine ⟨_, rfl, .inl ⟨rfl, _, .of ep1⟩, _, rfl, dg.fdiv wt, 2, rfl, rfl, ⟨by decide, by decide⟩, _, rfl, _, m, rfl, rfl, (show m ≠ 0 by omega), _, rfl, dg.fdiv wt, 4, rfl, rfl, ⟨by decide, by decide⟩, _, rfl, _, m, rfl, rfl, (show m ≠ 0 by omega),
          _, rfl, dg.fdiv wt, 8, rfl, rfl, ⟨by decide, by decide⟩, _, 3, rfl, rfl, (by show _ ≠ (0 : Int); decide), 1, _, rfl, rfl, (by show 3 ≤ sizeLine; decide), fun tt ht => ?_⟩
        have s3 := same_new ht (.tup ([((dg.fdiv wt).fdiv 2).fmod m, ((dg.fdiv wt).fdiv 4).fmod m, 1 + ((dg.fdiv wt).fdiv 8).fmod 3].map V.int))
        exact ⟨p, xp, _, rfl, rfl, s3 _ _ ep1, by rw [sizeLine_eq]; omega, fin [((dg.fdiv wt).fdiv 2).fmod m, ((dg.fdiv wt).fdiv 4).fmod m, 1 + ((dg.fdiv wt).fdiv 8).fmod 3] ⟨.inr rfl, fun z hz => by
          simp only [List.mem_cons, List.not_mem_nil, or_false] at hz
          rcases hz with rfl | rfl | rfl <;> omega⟩ tt ht _ _⟩
      · refine ⟨_, rfl, .inl ⟨rfl, _, .of ep1⟩, _, rfl, dg.fdiv wt, 2, rfl, rfl, ⟨by decide, by decide⟩, _, rfl, _, m, rfl, rfl, (show m ≠ 0 by omega), _, rfl, dg.fdiv wt, 4, rfl, rfl, ⟨by decide, by decide⟩, _, 8, rfl, rfl, (by show _ ≠ (0 : Int); decide), _, 2, rfl, rfl, (by show 2 ≤ sizeLine; decide), fun tt ht => ?_⟩
        have s3 := same_new ht (.tup ([((dg.fdiv wt).fdiv 2).fmod m, ((dg.fdiv wt).fdiv 4).fmod 8 - 2].map V.int))
        exact ⟨p, xp, _, rfl, rfl, s3 _ _ ep1, by rw [sizeLine_eq]; omega, fin [((dg.fdiv wt).fdiv 2).fmod m, ((dg.fdiv wt).fdiv 4).fmod 8 - 2] ⟨.inl rfl, fun z hz => by
          simp only [List.mem_cons, List.not_mem_nil, or_false] at hz
          rcases hz with rfl | rfl <;> omega⟩ tt ht _ _⟩
    · refine iteF ?_
      refine ⟨_, rfl, .inl ⟨rfl, _, .of ep1⟩, _, rfl, dg.fdiv wt, 2, rfl, rfl, ⟨by decide, by decide⟩, _, rfl, _, m, rfl, rfl, (show m ≠ 0 by omega), _, rfl, dg.fdiv wt, 4, rfl, rfl, ⟨by decide, by decide⟩, _, 8, rfl, rfl, (by show _ ≠ (0 : Int); decide), _, 2, rfl, rfl, (by show 2 ≤ sizeLine; decide), fun tt ht => ?_⟩
      have s3 := same_new ht (.tup ([((dg.fdiv wt).fdiv 2).fmod m, ((dg.fdiv wt).fdiv 4).fmod 8 - 2].map V.int))
      exact ⟨p, xp, _, rfl, rfl, s3 _ _ ep1, by rw [sizeLine_eq]; omega, fin [((dg.fdiv wt).fdiv 2).fmod m, ((dg.fdiv wt).fdiv 4).fmod 8 - 2] ⟨.inl rfl, fun z hz => by
        simp only [List.mem_cons, List.not_mem_nil, or_false] at hz
        rcases hz with rfl | rfl <;> omega⟩ tt ht _ _⟩
  · obtain ⟨R, y4, y5, rfl, sm, ⟨xp, ep, tp⟩, lR, bR⟩ := hp
    refine ⟨_, rfl, p, xp, rfl, .inl ⟨.of ep, fun l nl => ?_⟩⟩
    have s5 := same_new nl (.tup xp)
    exact q _ (.ref l) R (sm.trans s5) (.tup upd_same (tp.keep (.of s5))) ⟨by omega, bR⟩
end
end Calm

namespace Calm
open PySem PySem.Spec PyProof.Rows L2
section
variable {P : Program} {w : World} {K : PySem.W.Frag} {mg : Str → Option Value} {base : Heap}
/-! ### _law_paper -/
theorem ite_keep {c L B : Prop} [Decidable c] (h : L) (h2 : L → ¬ c → B) : if c then L else B := by
  by_cases e : c
  · rw [if_pos e]
    exact h
  · rw [if_neg e]
    exact h2 h e
abbrev sPaper : Stmt := topS 27
abbrev pPaper : List Str := ["_law_cells", "_law_rows_here", "_law_book", "_law_many", "_law_deep"]
theorem scPaper : FnScope ["_law_cells", "_law_rows_here", "_law_book", "_law_many", "_law_deep", "_law_cell", "_law_kind", "_law_box", "_law_k", "_law_low", "_law_papers"] pPaper (defScope sPaper) := ⟨rfl, rfl, rfl, by decide +kernel, rfl, by decide +kernel, by decide +kernel⟩
def spPaper (n : Nat) : Sp := fun vs H Q _ => ∃ (c r d : Addr) (m dp : Int) (cs : List Int) (L : List Ent), vs = [.ref c, .ref r, .ref d, .int m, .int dp] ∧ H c = some (.lst (cs.map V.int)) ∧ r ≠ c ∧ EvAt H r d L ∧ EvOk L ∧ 0 < m ∧ 0 ≤ dp ∧ dp < n ∧ m + dp ≤ 1000 ∧
  ∀ (H' : Hp) (v : V) (p : Pp) (cs' : List Int), But c H H' → H' c = some (.lst (cs'.map V.int)) → Tp H' v p.d → p.ok → (p.dep : Int) ≤ dp → Q v H'
theorem psum_mk {H : Hp} {a : Addr} {y : V} {R : List (List Int)} (h : H a = some (.tup [.str "sum", y])) (t : Tp H y (rowsD R)) : Tp H (.ref a) (Pp.sum R).d := .tup h (.cons (.str _) (.cons t .nil))
theorem prest_mk {H : Hp} {a : Addr} {y : V} {m : Int} {R : List (List Int)} (h : H a = some (.tup [.str "rest", .int m, y])) (t : Tp H y (rowsD R)) : Tp H (.ref a) (Pp.rest m R).d := .tup h (.cons (.str _) (.cons (.int _) (.cons t .nil)))
theorem pcut_mk {H : Hp} {a : Addr} {y z : V} {b : Str} {k : Int} {lo hi : Pp} (h : H a = some (.tup [.str "cut", .str b, .int k, y, z])) (t : Tp H y lo.d) (u : Tp H z hi.d) : Tp H (.ref a) (Pp.cut b k lo hi).d := .tup h (.cons (.str _) (.cons (.str _) (.cons (.int _) (.cons t (.cons u .nil)))))
theorem por_mk {H : Hp} {a q : Addr} {xs : List V} {j : Int} {ps : List Pp} (h : H a = some (.tup [.str "or", .int j, .ref q])) (hq : H q = some (.tup xs)) (t : TpAll H xs (ps.map Pp.d)) : Tp H (.ref a) (Pp.or j ps).d := .tup h (.cons (.str _) (.cons (.int _) (.cons (.tup hq (by rw [pds_eq]; exact t)) .nil)))
theorem ok_paper1 {f fR : Addr} {fd fdR : FuncData} {k n : Nat} (R : Rf K mg "_law_paper" sPaper pPaper f fd) (B : Bt mg)
    (RR : Rf K mg "_law_rows_of" sRO ["_law_digits", "_law_many", "_law_triples"] fR fdR) (GR : FnOk P w K mg base CX0 k fR fdR ["_law_digits", "_law_many", "_law_triples"] spRO)
    (G : FnOk P w K mg base CX0 k f fd pPaper (spPaper n)) : FnOk P w K mg base CX0 (k + 1) f fd pPaper (spPaper (n + 1)) := by
  refine R.F.ok scPaper (fun vs H Q E h => ?_) (fun cdv A' outer s H vs Q E hr h => ?_)
  · obtain ⟨c, r, d, m, dp, cs, L, rfl, _⟩ := h
    rfl
  obtain ⟨c, r, d, m, dp, cs, L, rfl, ec, hrc, ev, eo, m0, d0, dn, mdp, q⟩ := h
  have hu := hu_of hr
  refine ⟨_, pss_cons (ps_set (i := 5) scPaper.nd rfl (.inl rfl) pe_int)
    (C8.pss_cut (ps_if (pt_cmpR op_gt (pe_callB call_len_seq (by rfl) B.len PySem.boot_len (pa_cons (pv 0) pa_nil)) pe_int (nomark _)) (pss_one (ps_set (i := 5) scPaper.nd rfl (.inl rfl) (pe_bm0 PySem.F.plainAttrs_list PySem.F.slot_list_pop PySem.F.type_list_pop mt_pop (pv 0)))) pss_nil)
    (pss_cons (ps_set (i := 6) scPaper.nd rfl (.inl rfl) (pe_op op_modN (pv 5) pe_int))
    (pss_cons (ps_if (PW.pt (pw_or (pt_cmpR op_eq (pv 4) pe_int (nomark _)) (pw_or (pt_cmpR op_eq (pe_callB call_len_seq (by rfl) B.len PySem.boot_len (pa_cons (pv 0) pa_nil)) pe_int (nomark _)) (pw_or1 (pt_cmpR op_lt (pv 6) pe_int (nomark _))))))
      (pss_cons (ps_if (pt_cmpR op_eq (pe_op op_modN (pe_op op_fdivN (pv 5) pe_int) pe_int) pe_int (nomark _))
        (pss_one (ps_ret (pe_tup (pa_cons pe_str (pa_cons (pe_call GR hr rfl RR.m RR.F.kp RR.b .nil pass0 (pa_cons (pe_op op_fdivN (pv 5) pe_int) (pa_cons (pv 3) (pa_cons pe_bl pa_nil)))) pa_nil))))) pss_nil)
      (pss_one (ps_ret (pe_tup (pa_cons pe_str (pa_cons (pe_op op_add pe_int (pe_op op_modN (pe_op op_fdivN (pv 5) pe_int) pe_int)) (pa_cons (pe_call GR hr rfl RR.m RR.F.kp RR.b .nil pass0 (pa_cons (pe_op op_fdivN (pv 5) pe_int) (pa_cons (pv 3) (pa_cons pe_bl pa_nil)))) pa_nil))))))) pss_nil)
    (pss_cons (ps_if (pt_cmpR op_lt (pv 6) pe_int (nomark _))
      (pss_cons (ps_set (i := 7) scPaper.nd rfl (.inl rfl) (pe_ix ix_tup (pe_ix ix_list (pv 1) (pe_op op_modN (pe_op op_fdivN (pv 5) pe_int) (pe_callB call_len_seq (by rfl) B.len PySem.boot_len (pa_cons (pv 1) pa_nil))) (fun _ _ => rfl)) pe_int (fun _ _ => rfl)))
      (pss_cons (ps_set (i := 8) scPaper.nd rfl (.inl rfl) (pe_op op_sub (pe_op op_add (pe_dget hu (pv 2) (pv 7) (fun _ _ => rfl)) (pe_op op_modN (pe_op op_fdivN (pv 5) pe_int) pe_int)) pe_int))
      (pss_cons (ps_set (i := 9) scPaper.nd rfl (.inl rfl) (pe_call G hr rfl R.m R.F.kp R.b .nil pass0 (pa_cons (pv 0) (pa_cons (pv 1) (pa_cons (pv 2) (pa_cons (pe_op op_add (pv 3) pe_int) (pa_cons (pe_op op_sub (pv 4) pe_int) pa_nil)))))))
      (pss_one (ps_ret (pe_tup (pa_cons pe_str (pa_cons (pv 7) (pa_cons (pv 8) (pa_cons (pv 9) (pa_cons (pe_call G hr rfl R.m R.F.kp R.b .nil pass0 (pa_cons (pv 0) (pa_cons (pv 1) (pa_cons (pv 2) (pa_cons (pe_op op_add (pv 3) pe_int) (pa_cons (pe_op op_sub (pv 4) pe_int) pa_nil)))))) pa_nil)))))))))))
      pss_nil)
    (pss_cons (ps_set (i := 10) scPaper.nd rfl (.inl rfl) (pe_lst pa_nil))
    (pss_cons (ps_for PassesOwn.never rfl (pi_range1 rfl B.range (pa_cons (pe_op op_modN (pe_op op_fdivN (pv 5) pe_int) pe_int) pa_nil)) (pg_name (i := 8) scPaper.nd rfl (.inl rfl))
      (pss_one (ps_expr (pe_bm PySem.F.plainAttrs_list PySem.F.slot_list_append PySem.F.type_list_append mt_append (pv 10) (pa_cons (pe_call G hr rfl R.m R.F.kp R.b .nil pass0 (pa_cons (pv 0) (pa_cons (pv 1) (pa_cons (pv 2) (pa_cons (pe_op op_add (pv 3) pe_int) (pa_cons (pe_op op_sub (pv 4) pe_int) pa_nil)))))) pa_nil)))))
    (pss_one (ps_ret (pe_tup (pa_cons pe_str (pa_cons (pe_op op_modN (pe_op op_fdivN (pv 5) pe_int) pe_int) (pa_cons (pe_callTy call_tuple_of (by rfl) B.tuple (by decide +kernel) (pa_cons (pv 10) pa_nil)) pa_nil)))))))))))), ?_⟩
  -- the cell is taken
  refine ⟨fun σ H0 => ∃ (cell : Int) (cs0 : List Int), σ = [some (.ref c), some (.ref r), some (.ref d), some (.int m), some (.int dp), some (.int cell), none, none, none, none, none] ∧ But c H H0 ∧ H0 c = some (.lst (cs0.map V.int)), ?_, fun σ H0 hp => ?_⟩
  · refine ⟨_, rfl, c, _, rfl, .inl (.of ec), _, _, rfl, rfl, _, rfl, ite2 (fun e => ?_) (fun e => ?_)⟩
    · have h1 : ((((cs.map V.int).length : Nat) : Int)) > 0 := of_decide_eq_true e
      rw [List.length_map] at h1
      have hne : cs ≠ [] := fun z => by rw [z] at h1; simp at h1
      have hlast : (cs.map V.int)[(cs.map V.int).length - 1]? = some (.int (cs.getLast hne)) := by
        rw [← List.getLast?_eq_getElem?, List.getLast?_map, List.getLast?_eq_getLast hne]
        rfl
      refine ⟨_, rfl, .inl ⟨rfl, _, .of ec⟩, c, _, _, rfl, rfl, ec, hlast, cs.getLast hne, cs.dropLast, rfl, fun b o hb h => by rw [upd_ne hb]; exact h, ?_⟩
      rw [upd_same, List.map_dropLast]
    · exact ⟨0, cs, rfl, fun b o hb h => h, ec⟩
  obtain ⟨cell, cs0, rfl, b0, ec0⟩ := hp
  have ev0 := ev.but b0 ec hrc
  obtain ⟨⟨xr, er, tr⟩, ed⟩ := id ev0
  have lr := tr.len
  rw [List.length_map, rowsOf, List.length_map] at lr
  have hL1 := eo.one
  have hL4 := eo.four
  refine ⟨_, rfl, cell, 7, rfl, rfl, (by show _ ≠ (0 : Int); decide), ?_⟩
  have bT : ∀ {H1 : Hp}, Same H0 H1 → But c H H1 := fun sm => b0.trans (.of sm)
  -- the deeper papers
  have hd1 : dp ≠ 0 → ∀ (H1 : Hp) (cs1 : List Int), But c H H1 → H1 c = some (.lst (cs1.map V.int)) → ∀ Q1 : VK, (∀ (H' : Hp) (v : V) (p : Pp) (cs' : List Int), But c H1 H' → H' c = some (.lst (cs'.map V.int)) → Tp H' v p.d → p.ok → (p.dep : Int) ≤ dp - 1 → Q1 v H') →
      spPaper n ([.ref c, .ref r, .ref d, .int (m + 1), .int (dp - 1)] ++ []) H1 Q1 E0 := fun hd H1 cs1 b1 e1 Q1 hq =>
    ⟨c, r, d, m + 1, dp - 1, cs1, L, rfl, e1, hrc, ev.but b1 ec hrc, eo, by omega, by omega, by omega, by omega, hq⟩
  -- a leaf
  have hleaf : ∀ (dg : Int) (t : Bool) (Q1 : VK), (∀ (H' : Hp) (v : V) (R : List (List Int)), Same H0 H' → Tp H' v (rowsD R) → rowsOk R → Q1 v H') → spRO ([.int dg, .int m, .bl t] ++ []) H0 Q1 E0 := fun dg t Q1 hq =>
    ⟨dg, m, t, rfl, m0, by omega, hq⟩
  have leaf1 : ∀ (H1 : Hp) (v : V) (Rw : List (List Int)), Same H0 H1 → Tp H1 v (rowsD Rw) → rowsOk Rw → ∀ u, H1 u = none → Q (.ref u) (upd H1 u (.tup [.str "sum", v])) := fun H1 v Rw sm tv ok u nu => by
    have s1 := same_new nu (.tup [.str "sum", v])
    exact q _ (.ref u) (.sum Rw) cs0 (bT (sm.trans s1)) ((sm.trans s1) _ _ ec0) (psum_mk upd_same (tv.keep (.of s1))) ok d0
  have leaf2 : ∀ (H1 : Hp) (v : V) (mm : Int) (Rw : List (List Int)), Same H0 H1 → Tp H1 v (rowsD Rw) → rowsOk Rw → ∀ u, H1 u = none → Q (.ref u) (upd H1 u (.tup [.str "rest", .int mm, v])) := fun H1 v mm Rw sm tv ok u nu => by
    have s1 := same_new nu (.tup [.str "rest", .int mm, v])
    exact q _ (.ref u) (.rest mm Rw) cs0 (bT (sm.trans s1)) ((sm.trans s1) _ _ ec0) (prest_mk upd_same (tv.keep (.of s1))) ok d0
  refine ⟨_, rfl, rfl, _, rfl, ite_keep (iteT ?_) (fun hL e1 => ?_)⟩
  · -- a sum or a rest
    refine ⟨_, rfl, cell, 7, rfl, rfl, ⟨by decide, by decide⟩, cell.fdiv 7, 2, rfl, rfl, (by show _ ≠ (0 : Int); decide), rfl, _, rfl, ite2 (fun e2 => ?_) (fun e2 => ?_)⟩
    · exact ⟨_, rfl, cell, 14, rfl, rfl, ⟨by decide, by decide⟩, _, rfl, hleaf _ _ _ fun H1 v Rw sm tv ok => ⟨(by show 2 ≤ sizeLine; decide), fun u nu => leaf1 H1 v Rw sm tv ok u nu⟩⟩
    · exact ⟨_, rfl, cell, 14, rfl, rfl, ⟨by decide, by decide⟩, cell.fdiv 14, 11, rfl, rfl, (by show _ ≠ (0 : Int); decide), 2, _, rfl, rfl, _, rfl, cell, 154, rfl, rfl, ⟨by decide, by decide⟩, _, rfl, hleaf _ _ _ fun H1 v Rw sm tv ok => ⟨(by show 3 ≤ sizeLine; decide), fun u nu => leaf2 H1 v _ Rw sm tv ok u nu⟩⟩
  have hdp : dp ≠ 0 := by simpa using e1
  refine ⟨_, rfl, c, _, rfl, .inl (.of ec0), rfl, _, rfl, ite2 (fun _ => hL) (fun _ => ?_)⟩
  refine ⟨_, rfl, cell.fmod 7, 2, rfl, rfl, _, rfl, ite2 (fun _ => hL) (fun _ => ?_)⟩
  -- a cut
  refine ⟨_, rfl, cell.fmod 7, 5, rfl, rfl, _, rfl, ite2 (fun e5 => ?_) (fun e5 => ?_)⟩
  · have hL0 : 0 < ((xr.length : Nat) : Int) := by omega
    have hj := fmod_lt (x := cell.fdiv 7) (m := ((xr.length : Nat) : Int)) hL0
    obtain ⟨j, ej⟩ : ∃ j, j = (cell.fdiv 7).fmod ((xr.length : Nat) : Int) := ⟨_, rfl⟩
    rw [← ej] at hj
    have hjl : j.toNat < L.length := by omega
    have heq : L[j.toNat]? = some L[j.toNat] := List.getElem?_eq_getElem hjl
    have hrow : ((rowsOf L).map rowD)[j.toNat]? = some (rowD (L[j.toNat].1, L[j.toNat].2.1, L[j.toNat].2.2.1)) := by
      rw [List.getElem?_map, rows_get heq]
      rfl
    obtain ⟨xv, hxv, txv⟩ := tr.get' hrow
    obtain ⟨c1, rfl, ec1⟩ := row3_inv txv
    have hat : atI xr ((cell.fdiv 7).fmod ((xr.length : Nat) : Int)) = some (.ref c1) := at_of (by rw [← ej]; omega) hxv
    have hk : valV (enc (bookOf L)) (Sum.inr L[j.toNat].1) = some (.int (getB (bookOf L) L[j.toNat].1)) := valV_key (by rw [keys_book]; exact List.mem_map.mpr ⟨_, List.getElem_mem hjl, rfl⟩)
    have hg := DGet.k (k := Sum.inr L[j.toNat].1) ed
    rw [hk] at hg
    refine ⟨_, rfl, _, rfl, cell, 7, rfl, rfl, ⟨by decide, by decide⟩, _, rfl, r, xr, rfl, .inl (.of er), cell.fdiv 7, _, rfl, rfl, (show ((xr.length : Nat) : Int) ≠ 0 by omega), r, _, _, _, rfl, rfl, .of er, hat, c1, _, 0, _, rfl, rfl, .of ec1, atI_nat (j := 0) rfl, ?_⟩
    refine ⟨_, rfl, _, rfl, d, _, rfl, hg, _, rfl, cell, 28, rfl, rfl, ⟨by decide, by decide⟩, cell.fdiv 28, 5, rfl, rfl, (by show _ ≠ (0 : Int); decide), getB (bookOf L) L[j.toNat].1, _, rfl, rfl, _, 2, rfl, rfl, ?_⟩
    refine ⟨_, rfl, _, rfl, _, rfl, _, rfl, m, 1, rfl, rfl, _, rfl, dp, 1, rfl, rfl, hd1 hdp H0 cs0 b0 ec0 _ fun H1 v1 p1 cs1 b1 e1c t1 ok1 dp1 => ?_⟩
    have b01 := b0.trans b1
    refine ⟨_, rfl, _, rfl, _, rfl, _, rfl, _, rfl, _, rfl, _, rfl, m, 1, rfl, rfl, _, rfl, dp, 1, rfl, rfl, hd1 hdp H1 cs1 b01 e1c _ fun H2 v2 p2 cs2 b2 e2c t2 ok2 dp2 => ⟨(by show 5 ≤ sizeLine; decide), fun u nu => ?_⟩⟩
    have s1 := same_new nu (.tup [.str "cut", .str L[j.toNat].1, .int (getB (bookOf L) L[j.toNat].1 + (cell.fdiv 28).fmod 5 - 2), v1, v2])
    refine q _ (.ref u) (.cut L[j.toNat].1 (getB (bookOf L) L[j.toNat].1 + (cell.fdiv 28).fmod 5 - 2) p1 p2) cs2 ((b01.trans b2).trans (.of s1)) (s1 _ _ e2c) (pcut_mk upd_same ((t1.keep (b2.tups e1c)).keep (.of s1)) (t2.keep (.of s1))) ⟨ok1, ok2⟩ ?_
    simp only [Pp.dep]
    omega
  -- an or
  refine ⟨Nat.zero_le _, fun pp np => ?_⟩
  have h4 := fmod_lt (x := cell.fdiv 7) (m := 4) (by decide)
  have s0 := same_new np (.lst [])
  have npc : pp ≠ c := fun e => by rw [e, ec0] at np; cases np
  have hnp : H pp = none := by
    cases e : H pp with
    | none => rfl
    | some o =>
      have := b0 pp o npc e
      rw [np] at this
      cases this
  refine ⟨_, rfl, cell, 7, rfl, rfl, ⟨by decide, by decide⟩, cell.fdiv 7, 4, rfl, rfl, (by show _ ≠ (0 : Int); decide), (cell.fdiv 7).fmod 4, rfl, by omega, by omega, ?_⟩
  refine for_range (lo := 0) (n := ((cell.fdiv 7).fmod 4).toNat) (fun i σ H1 => ∃ (ps : List Pp) (cs1 : List Int) (y8 : Option V), σ = [some (.ref c), some (.ref r), some (.ref d), some (.int m), some (.int dp), some (.int cell), some (.int (cell.fmod 7)), none, y8, none, some (.ref pp)] ∧ But c H H1 ∧ H1 c = some (.lst (cs1.map V.int)) ∧ LstD H1 pp (ps.map Pp.d) ∧ ps.length = i ∧ ∀ p ∈ ps, p.ok ∧ (p.dep : Int) ≤ dp - 1)
    ⟨[], cs0, none, rfl, bT s0, s0 _ _ ec0, ⟨[], upd_same, .nil⟩, rfl, fun p hp => absurd hp (by simp)⟩ (fun i σ H1 hi hp => ?_) (fun σ H1 hp => ?_)
  · obtain ⟨ps, cs1, y8, rfl, b1, e1c, ⟨xp, ep, tp⟩, lps, okps⟩ := hp
    have lp := tp.len
    rw [List.length_map] at lp
    refine ⟨_, rfl, .inl ⟨rfl, _, .of ep⟩, _, rfl, _, rfl, _, rfl, _, rfl, m, 1, rfl, rfl, _, rfl, dp, 1, rfl, rfl, hd1 hdp H1 cs1 b1 e1c _ fun H2 v2 p2 cs2 b2 e2c t2 ok2 dp2 => ?_⟩
    have ep2 := b2 _ _ npc ep
    refine ⟨pp, xp, _, rfl, rfl, ep2, by rw [sizeLine_eq]; omega, ?_⟩
    have tu : Tups H2 (upd H2 pp (.lst (xp ++ [v2]))) := fun b zs hb => by
      have nb : b ≠ pp := fun e => by rw [e, ep2] at hb; cases hb
      rw [upd_ne nb]
      exact hb
    refine ⟨ps ++ [p2], cs2, some (.int (0 + (i : Int))), rfl, fun b o nb hb => ?_, ?_, ⟨_, upd_same, ?_⟩, ?_, fun p hp => ?_⟩
    · rw [upd_ne (fun e => by rw [e, hnp] at hb; cases hb)]
      exact (b1.trans b2) b o nb hb
    · rw [upd_ne npc.symm]
      exact e2c
    · rw [List.map_append]
      exact ((tp.keep (b2.tups e1c)).keep tu).append (.one (t2.keep tu))
    · rw [List.length_append, List.length_singleton]
      omega
    · rcases List.mem_append.mp hp with z | z
      · exact okps p z
      · have z' : p = p2 := by simpa using z
        rw [z']
        exact ⟨ok2, dp2⟩
  · obtain ⟨ps, cs1, y8, rfl, b1, e1c, ⟨xp, ep, tp⟩, lps, okps⟩ := hp
    refine ⟨_, rfl, cell, 28, rfl, rfl, ⟨by decide, by decide⟩, cell.fdiv 28, 4, rfl, rfl, (by show _ ≠ (0 : Int); decide), _, rfl, pp, xp, rfl, .inl ⟨.of ep, fun l nl => ⟨(by show 3 ≤ sizeLine; decide), fun u nu => ?_⟩⟩⟩
    have s1 := same_new nl (.tup xp)
    have s2 := same_new nu (.tup [.str "or", .int ((cell.fdiv 28).fmod 4), .ref l])
    have s12 := s1.trans s2
    refine q _ (.ref u) (.or ((cell.fdiv 28).fmod 4) ps) cs1 (b1.trans (.of s12)) (s12 _ _ e1c) (por_mk upd_same (s2 _ _ upd_same) (tp.keep (.of s12))) (poks_iff.mpr fun p hp => (okps p hp).1) ?_
    have hd : Pp.deps ps ≤ (dp - 1).toNat := deps_le fun p hp => by
      have := (okps p hp).2
      omega
    simp only [Pp.dep]
    omega
theorem ok_paper {f fR : Addr} {fd fdR : FuncData} (R : Rf K mg "_law_paper" sPaper pPaper f fd) (B : Bt mg)
    (RR : Rf K mg "_law_rows_of" sRO ["_law_digits", "_law_many", "_law_triples"] fR fdR) (GR : FnOk P w K mg base CX0 1 fR fdR ["_law_digits", "_law_many", "_law_triples"] spRO) :
    ∀ n : Nat, FnOk P w K mg base CX0 (1 + n) f fd pPaper (spPaper n)
  | 0 => by
    have no : ∀ vs H Q E, ¬ spPaper 0 vs H Q E := fun vs H Q E h => by
      obtain ⟨c, r, d, m, dp, cs, L, _, _, _, _, _, _, h1, h2, _⟩ := h
      omega
    exact ⟨fun vs H Q E h => absurd h (no vs H Q E), fun A outer s H args us vs Q E _ _ _ _ h => absurd h (no vs H Q E)⟩
  | n + 1 => ok_paper1 R B RR (GR.mono (Nat.le_add_right 1 n)) (ok_paper R B RR GR n)
end
end Calm

namespace Calm
open PySem PySem.Spec PyProof.Rows L2
/-! ### the plain law: the book makes all true; the one sum that comes out -/
theorem names_nd {L : List Ent} (h : EvOk L) : (L.map (·.1)).Nodup := by
  rw [h.names]
  exact bx_nd.sublist (List.take_sublist _ _)
theorem getB_nd {b : Str} {v : Int} : ∀ {D : Lin}, (D.map (·.1)).Nodup → (b, v) ∈ D → getB D b = v
  | [], _, h => absurd h (by simp)
  | p :: r, nd, h => by
    rw [List.map_cons, List.nodup_cons] at nd
    rcases List.mem_cons.mp h with e | h
    · simp [getB, List.find?_cons, ← e]
    · have ne : ¬ p.1 = b := fun e => nd.1 (by rw [e]; exact List.mem_map.mpr ⟨_, h, rfl⟩)
      have h2 : getB (p :: r) b = getB r b := by simp [getB, List.find?_cons, ne]
      rw [h2]
      exact getB_nd nd.2 h
theorem bk_at {L : List Ent} (h : EvOk L) {e : Ent} (he : e ∈ L) : bk L e.1 = e.2.2.2 := by
  refine getB_nd (D := bookOf L) ?_ (List.mem_map.mpr ⟨e, he, rfl⟩)
  rw [keys_book]
  exact names_nd h
/-- the rows cut to the book -/
def heldOf (L : List Ent) : List Row := L.map fun e => (e.1, bk L e.1, bk L e.1)
theorem held_tru {L : List Ent} : ∀ r ∈ heldOf L, r.2.1 ≤ bk L r.1 ∧ bk L r.1 ≤ r.2.2 := fun r hr => by
  obtain ⟨e, _, rfl⟩ := List.mem_map.mp hr
  exact ⟨Int.le_refl _, Int.le_refl _⟩
theorem rows_tru {L : List Ent} (h : EvOk L) : ∀ r ∈ rowsOf L, r.2.1 ≤ bk L r.1 ∧ bk L r.1 ≤ r.2.2 := fun r hr => by
  obtain ⟨e, he, rfl⟩ := List.mem_map.mp hr
  show e.2.1 ≤ bk L e.1 ∧ bk L e.1 ≤ e.2.2.1
  rw [bk_at h he]
  exact h.book e he
theorem never {R : List Row} {A Fs : List Fm} {f : Str → Int} {b : Bool} (hA : RowAts R A) (hr : ∀ r ∈ R, r.2.1 ≤ f r.1 ∧ f r.1 ≤ r.2.2) (ht : Fm.all f Fs) (hb : b = true → Dead (lays Fs (A, [])).1 (lays Fs (A, [])).2) : b = false := by
  cases b with
  | false => rfl
  | true =>
    obtain ⟨h1, h2⟩ := lays_tru Fs (A, []) ht (hA.tru hr) (fun gs hg => absurd hg (by simp))
    exact (hb rfl f h1 h2).elim
/-- a part's row in the sum -/
def PRow (L : List Ent) (p : Str × Int) (r : List Int) : Prop := ∃ (j : Nat) (e : Ent), L[j]? = some e ∧ e.1 = p.1 ∧ r = [2 * (j : Int) + (if p.2 < 0 then 1 else 0), if p.2 < 0 then -p.2 else p.2]
inductive PRows (L : List Ent) : Lin → List (List Int) → Prop
  | nil : PRows L [] []
  | snoc {ps : Lin} {R : List (List Int)} {p : Str × Int} {r : List Int} : PRows L ps R → PRow L p r → PRows L (ps ++ [p]) (R ++ [r])
theorem PRows.len {L : List Ent} {ps : Lin} {R : List (List Int)} (h : PRows L ps R) : R.length = ps.length := by
  induction h with
  | nil => rfl
  | snoc _ _ ih => rw [List.length_append, List.length_append, ih]; rfl
theorem PRows.bnd {L : List Ent} {ps : Lin} {R : List (List Int)} (h : PRows L ps R) (hL : L.length ≤ 4) (hp : ∀ p ∈ ps, -2 ≤ p.2 ∧ p.2 ≤ 2) : ∀ r ∈ R, (r.length = 2 ∨ r.length = 3) ∧ ∀ z ∈ r, -(2 ^ 60) < z ∧ z < 2 ^ 60 := by
  induction h with
  | nil => exact fun r hr => absurd hr (by simp)
  | @snoc ps R p r _ hr ih =>
    intro r' hr'
    rcases List.mem_append.mp hr' with z | z
    · exact ih (fun q hq => hp q (List.mem_append_left _ hq)) r' z
    · have e : r' = r := by simpa using z
      rw [e]
      have hb := hp p (List.mem_append_right _ (by simp))
      obtain ⟨j, e2, hj, _, rfl⟩ := hr
      have hjl : j < L.length := (List.getElem?_eq_some_iff.mp hj).1
      refine ⟨.inl rfl, fun z hz => ?_⟩
      simp only [List.mem_cons, List.not_mem_nil, or_false] at hz
      rcases hz with rfl | rfl
      · split <;> omega
      · split <;> omega
theorem held_at {L : List Ent} {j : Nat} {e : Ent} (h : L[j]? = some e) : (heldOf L)[j]? = some (e.1, bk L e.1, bk L e.1) := by
  unfold heldOf
  rw [List.getElem?_map, h]
  rfl
/-- behind the rows' atoms any more -/
theorem PRows.tot {L : List Ent} {A B : List Fm} (hA : RowAts (heldOf L) A) {ps : Lin} {R : List (List Int)} (h : PRows L ps R) (hp : ∀ p ∈ ps, p.2 ≠ 0) :
    (∀ r ∈ R, RowOk (A ++ B) r) ∧ (∀ g, totL (A ++ B) g R = - lin g ps) ∧ totN (A ++ B) R = lin (bk L) ps := by
  induction h with
  | nil => exact ⟨fun r hr => absurd hr (by simp), fun g => rfl, rfl⟩
  | @snoc ps R p r _ hr ih =>
    obtain ⟨i1, i2, i3⟩ := ih fun q hq => hp q (List.mem_append_left _ hq)
    have hne := hp p (List.mem_append_right _ (by simp))
    obtain ⟨j, e, hj, ee, er⟩ := hr
    obtain ⟨⟨s, hs1, hs2, hs3⟩, ⟨s', ht1, ht2, ht3⟩⟩ := hA.at (held_at hj)
    have pre : ∀ {i : Nat} {F : Fm}, A[i]? = some F → (A ++ B)[i]? = some F := fun {i F} h => by
      rw [List.getElem?_append_left (List.getElem?_eq_some_iff.mp h).1]
      exact h
    have a1 : sAt (A ++ B) (2 * (j : Int)) = some s := sAt_of (by omega) (by
      have e1 : (2 * (j : Int)).toNat = 2 * j := by omega
      rw [e1]
      exact pre hs1)
    have a2 : sAt (A ++ B) (2 * (j : Int) + 1) = some s' := sAt_of (by omega) (by
      have e1 : (2 * (j : Int) + 1).toNat = 2 * j + 1 := by omega
      rw [e1]
      exact pre ht1)
    simp only [ee] at hs2 hs3 ht2 ht3
    by_cases neg : p.2 < 0
    · rw [if_pos neg, if_pos neg] at er
      have g0 : r.getD 0 0 = 2 * (j : Int) + 1 := by rw [er]; rfl
      have g1 : r.getD 1 0 = - p.2 := by rw [er]; rfl
      refine ⟨fun r' hr' => ?_, fun g => ?_, ?_⟩
      · rcases List.mem_append.mp hr' with z | z
        · exact i1 r' z
        · have e1 : r' = r := by simpa using z
          rw [e1]
          exact ⟨by rw [er]; rfl, by rw [g1]; omega, s', by rw [g0]; exact a2⟩
      · rw [totL_app, lin_app, i2]
        simp only [totL, lin, g0, g1, a2, Option.map_some, Option.getD_some, ht3]
        rw [Int.neg_mul]
        omega
      · rw [totN_app, lin_app, i3]
        simp only [totN, lin, g0, g1, a2, Option.map_some, Option.getD_some, ht2]
        rw [Int.neg_mul_neg, Int.mul_comm]
    · rw [if_neg neg, if_neg neg, Int.add_zero] at er
      have g0 : r.getD 0 0 = 2 * (j : Int) := by rw [er]; rfl
      have g1 : r.getD 1 0 = p.2 := by rw [er]; rfl
      refine ⟨fun r' hr' => ?_, fun g => ?_, ?_⟩
      · rcases List.mem_append.mp hr' with z | z
        · exact i1 r' z
        · have e1 : r' = r := by simpa using z
          rw [e1]
          exact ⟨by rw [er]; rfl, by rw [g1]; omega, s, by rw [g0]; exact a1⟩
      · rw [totL_app, lin_app, i2]
        simp only [totL, lin, g0, g1, a1, Option.map_some, Option.getD_some, hs3]
        rw [Int.mul_neg]
        omega
      · rw [totN_app, lin_app, i3]
        simp only [totN, lin, g0, g1, a1, Option.map_some, Option.getD_some, hs2]
        rw [Int.mul_comm]
theorem sum_right {L : List Ent} {A Fs : List Fm} {s0 : Sm} {R : List (List Int)} (hA : RowAts (heldOf L) A) (h : PRows L s0.2 R) (hp : ∀ p ∈ s0.2, p.2 ≠ 0) (hv : 0 < s0.1 + lin (bk L) s0.2) :
    SumOk (lays (.most s0 :: Fs) (A, [])).1 ([2 * (L.length : Int), 1] :: R) := by
  obtain ⟨more, hm⟩ := lays_pre Fs (A ++ [.most s0], [])
  have e0 : (lays (.most s0 :: Fs) (A, [])).1 = A ++ ([.most s0] ++ more) := by
    show (lays Fs (lay (.most s0) (A, []))).1 = _
    rw [show lay (.most s0) (A, []) = (A ++ [.most s0], []) from rfl, hm, List.append_assoc]
  rw [e0]
  obtain ⟨t1, t2, t3⟩ := PRows.tot (B := [.most s0] ++ more) hA h hp
  have la := hA.len
  have ll : (heldOf L).length = L.length := List.length_map _
  rw [ll] at la
  have a0 : sAt (A ++ ([.most s0] ++ more)) (2 * (L.length : Int)) = some s0 := sAt_of (by omega) (by
    have e1 : (2 * (L.length : Int)).toNat = A.length := by omega
    rw [e1, List.getElem?_append_right (Nat.le_refl _), Nat.sub_self]
    rfl)
  refine ⟨fun r hr => ?_, fun g => ?_, ?_⟩
  · rcases List.mem_cons.mp hr with e | hr
    · rw [e]
      exact ⟨rfl, Int.le_refl 1, s0, a0⟩
    · exact t1 r hr
  · have g0 : ([2 * (L.length : Int), 1] : List Int).getD 0 0 = 2 * (L.length : Int) := rfl
    have g1 : ([2 * (L.length : Int), 1] : List Int).getD 1 0 = 1 := rfl
    simp only [totL, g0, g1, a0, Option.map_some, Option.getD_some, t2]
    omega
  · have g0 : ([2 * (L.length : Int), 1] : List Int).getD 0 0 = 2 * (L.length : Int) := rfl
    have g1 : ([2 * (L.length : Int), 1] : List Int).getD 1 0 = 1 := rfl
    simp only [totN, g0, g1, a0, Option.map_some, Option.getD_some, t3]
    omega
/-- the place of a name -/
theorem ix_of {L : List Ent} (nd : (L.map (·.1)).Nodup) {b : Str} (h : b ∈ L.map (·.1)) : ∃ (j : Nat) (e : Ent), L[j]? = some e ∧ e.1 = b ∧ ((L.map (·.1)).map V.str)[j]? = some (.str b) ∧
    ∀ (m : Nat) (z : V), m < j → ((L.map (·.1)).map V.str)[m]? = some z → eqV z (.str b) = false := by
  obtain ⟨j, hj⟩ := List.getElem?_of_mem h
  rw [List.getElem?_map] at hj
  cases he : L[j]? with
  | none => rw [he] at hj; cases hj
  | some e =>
    rw [he] at hj
    have eb : e.1 = b := Option.some.inj hj
    have hj2 : (L.map (·.1))[j]? = some b := by rw [List.getElem?_map, he, ← eb]; rfl
    refine ⟨j, e, he, eb, by rw [List.getElem?_map, hj2]; rfl, fun m z hm hz => ?_⟩
    rw [List.getElem?_map] at hz
    cases hc : (L.map (·.1))[m]? with
    | none => rw [hc] at hz; cases hz
    | some c =>
      rw [hc] at hz
      obtain rfl : V.str c = z := Option.some.inj hz
      have ne : ¬ c = b := fun e' => by
        rw [e'] at hc
        have := nd_ix nd hc hj2
        omega
      show (c == b) = false
      exact beq_eq_false_iff_ne.mpr ne
end Calm

namespace Calm
open PySem PySem.Spec PyProof.Rows L2
section
variable {P : Program} {w : World} {K : PySem.W.Frag} {mg : Str → Option Value} {base : Heap}
/-! ### _law_false -/
abbrev sFalse : Stmt := topS 28
abbrev pFalse : List Str := ["_law_rows_here", "_law_forms", "_law_book", "_law_digits"]
theorem scFalse : FnScope ["_law_rows_here", "_law_forms", "_law_book", "_law_digits", "_law_held", "_law_parts", "_law_atom_here", "_law_paper_rows", "_law_box", "_law_times", "_law_at_here", "_law_paper_here", "_law_both", "_law_k", "_law_low", "_law_high", "_law_row"] pFalse (defScope sFalse) := ⟨rfl, rfl, rfl, by decide +kernel, rfl, by decide +kernel, by decide +kernel⟩
def spFalse : Sp := fun vs H Q _ => ∃ (r fm d : Addr) (dg : Int) (L : List Ent) (Fs : List Fm), vs = [.ref r, .ref fm, .ref d, .int dg] ∧ EvAt H r d L ∧ EvOk L ∧ LstD H fm (Fs.map Fm.d) ∧ Fm.all (bk L) Fs ∧ Fm.oks Fs ∧ Fm.szs Fs ≤ 40 ∧ ∀ H', Same H H' → Q (.bl true) H'
theorem ok_false {f fS fA fL : Addr} {fd fdS fdA fdL : FuncData} {k : Nat} (R : Rf K mg "_law_false" sFalse pFalse f fd) (B : Bt mg)
    (RS : Rf K mg "_law_sum" sSumL ["_law_digits", "_law_rows_here"] fS fdS) (GS : FnOk P w K mg base CX0 k fS fdS ["_law_digits", "_law_rows_here"] spSumL)
    (RA : Rf K mg "_law_at" sAtL ["_law_parts", "_law_book"] fA fdA) (GA : FnOk P w K mg base CX0 k fA fdA ["_law_parts", "_law_book"] spAtL)
    (RL : Rf K mg "let_by" sLet ["rows", "forms", "paper"] fL fdL) (GL : FnOk P w K mg base CX0 k fL fdL ["rows", "forms", "paper"] spLet) :
    FnOk P w K mg base CX0 (k + 1) f fd pFalse spFalse := by
  refine R.F.ok scFalse (fun vs H Q E h => ?_) (fun cdv A' outer s H vs Q E hr h => ?_)
  · obtain ⟨r, fm, d, dg, L, Fs, rfl, _⟩ := h
    rfl
  obtain ⟨r, fm, d, dg, L, Fs, rfl, ev, eo, lf, tru, okF, szF, q⟩ := h
  have hu := hu_of hr
  refine ⟨_, (pss_cons (ps_setLc (i := 4) (own := [("_law_box", 8), ("_law_low", 14), ("_law_high", 15)]) (g := gTup K 3 (gCons (gName 8) (gCons (gName 14) (gCons (gName 15) gNil)))) rfl scFalse.nd rfl rfl (sw_true rfl rfl rfl (by decide +kernel)) (pi_list (pv 0)) (blkOk_by (own := [("_law_box", 8), ("_law_low", 14), ("_law_high", 15)]) (N := ["_law_rows_here", "_law_forms", "_law_book", "_law_digits", "_law_held", "_law_parts", "_law_atom_here", "_law_paper_rows", "_law_box", "_law_times", "_law_at_here", "_law_paper_here", "_law_both", "_law_k", "_law_low", "_law_high", "_law_row"]) (sc := defScope sFalse) (by decide +kernel)) (fun _ _ _ _ _ => (pg_tup (n := 3) rfl (pgs_cons (pg_name (i := 8) scFalse.nd rfl (.inl rfl) (.inr rfl)) (pgs_cons (pg_name (i := 14) scFalse.nd rfl (.inl rfl) (.inr rfl)) (pgs_cons (pg_name (i := 15) scFalse.nd rfl (.inl rfl) (.inr rfl)) pgs_nil))))) (fun _ _ _ _ _ => pts_nil) (fun _ _ _ _ _ => (pe_tup (pa_cons (pv 8) (pa_cons (pe_dget hu (pv 2) (pv 8) (fun _ _ => rfl)) (pa_cons (pe_dget hu (pv 2) (pv 8) (fun _ _ => rfl)) pa_nil))))))
    (pss_cons (ps_set (i := 5) scFalse.nd rfl (.inl rfl) (pe_call GS hr rfl RS.m RS.F.kp RS.b .nil pass0 (pa_cons (pv 3) (pa_cons (pv 0) pa_nil))))
    (pss_cons (ps_set (i := 6) scFalse.nd rfl (.inl rfl) (pe_tup (pa_cons pe_str (pa_cons (pe_tup (pa_cons (pe_op op_sub (pe_op op_add pe_int (pe_op op_modN (pe_op op_fdivN (pv 3) pe_int) pe_int)) (pe_call GA hr rfl RA.m RA.F.kp RA.b .nil pass0 (pa_cons (pv 5) (pa_cons (pv 2) pa_nil)))) (pa_cons (pv 5) pa_nil))) pa_nil))))
    (pss_cons (ps_set (i := 7) scFalse.nd rfl (.inl rfl) (pe_lst (pa_cons (pe_tup (pa_cons (pe_op op_mul pe_int (pe_callB call_len_seq (by rfl) B.len PySem.boot_len (pa_cons (pv 0) pa_nil))) (pa_cons pe_int pa_nil))) pa_nil)))
    (pss_cons (ps_for PassesOwn.never rfl (pi_tup (pv 5)) (pg_tup (n := 2) rfl (pgs_cons (pg_name (i := 8) scFalse.nd rfl (.inl rfl)) (pgs_cons (pg_name (i := 9) scFalse.nd rfl (.inl rfl)) pgs_nil)))
      (pss_cons (ps_set (i := 10) scFalse.nd rfl (.inl rfl) (pe_bm PySem.F.plainAttrs_list PySem.F.slot_list_index PySem.F.type_list_index mt_index (pe_lc (own := [("_law_row", 16)]) (g := gName 16) (te := tOp (rIxT K) (tVar 16) (tC (.int 0))) rfl scFalse.nd (pi_list (pv 0)) (blkOk_by (own := [("_law_row", 16)]) (N := ["_law_rows_here", "_law_forms", "_law_book", "_law_digits", "_law_held", "_law_parts", "_law_atom_here", "_law_paper_rows", "_law_box", "_law_times", "_law_at_here", "_law_paper_here", "_law_both", "_law_k", "_law_low", "_law_high", "_law_row"]) (sc := defScope sFalse) (by decide +kernel)) (fun _ _ _ _ _ => (pg_name (i := 16) scFalse.nd rfl (.inl rfl) (.inr rfl))) (fun _ _ _ _ _ => pts_nil) (fun _ _ _ _ _ => (pe_ix ix_tup (pv 16) pe_int (fun _ _ => rfl)))) (pa_cons (pv 8) pa_nil)))
    (pss_one (ps_expr (pe_bm PySem.F.plainAttrs_list PySem.F.slot_list_append PySem.F.type_list_append mt_append (pv 7) (pa_cons (pe_tup (pa_cons (pe_op op_add (pe_op op_mul pe_int (pv 10)) (pe_callTy call_int1 (by rfl) B.int (by decide +kernel) (pa_cons (pe_cmpR op_lt (pv 9) pe_int (nomark _)) pa_nil))) (pa_cons (pe_callB call_abs (by rfl) B.abs (by decide +kernel) (pa_cons (pv 9) pa_nil)) pa_nil))) pa_nil))))))
    (pss_cons (ps_set (i := 11) scFalse.nd rfl (.inl rfl) (pe_tup (pa_cons pe_str (pa_cons (pe_callTy call_tuple_of (by rfl) B.tuple (by decide +kernel) (pa_cons (pv 7) pa_nil)) pa_nil))))
    (pss_cons (ps_if (PW.pt (pw_or (pt_cmpR op_notBl (pe_call GL hr rfl RL.m RL.F.kp RL.b .nil pass0 (pa_cons (pv 4) (pa_cons (pe_op op_cat (pe_lst (pa_cons (pv 6) pa_nil)) (pv 1)) (pa_cons (pv 11) pa_nil)))) pe_bl (nomark _)) (pw_or1 (pt_cmpR op_notBl (pe_call GL hr rfl RL.m RL.F.kp RL.b .nil pass0 (pa_cons (pv 4) (pa_cons (pv 1) (pa_cons (pv 11) pa_nil)))) pe_bl (nomark _))))) (pss_one (ps_ret pe_bl)) pss_nil)
    (pss_cons (ps_set (i := 12) scFalse.nd rfl (.inl rfl) (pe_tup (pa_cons pe_str (pa_cons pe_int (pa_cons (pe_tup (pa_cons (pv 11) (pa_cons (pe_tup (pa_cons pe_str (pa_cons (pe_tup pa_nil) pa_nil))) pa_nil))) pa_nil)))))
    (pss_cons (ps_if (pt_cmpR op_notBl (pe_call GL hr rfl RL.m RL.F.kp RL.b .nil pass0 (pa_cons (pv 4) (pa_cons (pe_lst (pa_cons (pe_tup (pa_cons pe_str (pa_cons (pe_tup (pa_cons (pv 6) (pa_cons (pe_tup (pa_cons pe_str (pa_cons (pe_tup pa_nil) pa_nil))) pa_nil))) pa_nil))) pa_nil)) (pa_cons (pv 12) pa_nil)))) pe_bl (nomark _)) (pss_one (ps_ret pe_bl)) pss_nil)
    (pss_cons (ps_set (i := 10) scFalse.nd rfl (.inl rfl) (pe_op op_modN (pv 3) (pe_callB call_len_seq (by rfl) B.len PySem.boot_len (pa_cons (pv 0) pa_nil))))
    (pss_cons (ps_set (i := 8) scFalse.nd rfl (.inl rfl) (pe_ix ix_tup (pe_ix ix_list (pv 0) (pv 10) (fun _ _ => rfl)) pe_int (fun _ _ => rfl)))
    (pss_cons (ps_for PassesOwn.never rfl (pi_list (pe_lst (pa_cons (pe_op op_sub (pe_dget hu (pv 2) (pv 8) (fun _ _ => rfl)) pe_int) (pa_cons (pe_dget hu (pv 2) (pv 8) (fun _ _ => rfl)) (pa_cons (pe_op op_add (pe_dget hu (pv 2) (pv 8) (fun _ _ => rfl)) pe_int) pa_nil))))) (pg_name (i := 13) scFalse.nd rfl (.inl rfl))
      (pss_cons (ps_set (i := 14) scFalse.nd rfl (.inl rfl) (pe_tup (pa_cons pe_str (pa_cons (pe_tup (pa_cons (pe_tup (pa_cons (pe_op op_mul pe_int (pv 10)) (pa_cons pe_int pa_nil))) (pa_cons (pe_tup (pa_cons (pe_op op_mul pe_int (pe_callB call_len_seq (by rfl) B.len PySem.boot_len (pa_cons (pv 0) pa_nil))) (pa_cons pe_int pa_nil))) pa_nil))) pa_nil))))
    (pss_cons (ps_set (i := 15) scFalse.nd rfl (.inl rfl) (pe_tup (pa_cons pe_str (pa_cons (pe_tup (pa_cons (pe_tup (pa_cons (pe_op op_add (pe_op op_mul pe_int (pv 10)) pe_int) (pa_cons pe_int pa_nil))) (pa_cons (pe_tup (pa_cons (pe_op op_mul pe_int (pe_callB call_len_seq (by rfl) B.len PySem.boot_len (pa_cons (pv 0) pa_nil))) (pa_cons pe_int pa_nil))) pa_nil))) pa_nil))))
    (pss_one (ps_if (pt_cmpR op_notBl (pe_call GL hr rfl RL.m RL.F.kp RL.b .nil pass0 (pa_cons (pv 4) (pa_cons (pe_lst pa_nil) (pa_cons (pe_tup (pa_cons pe_str (pa_cons (pv 8) (pa_cons (pv 13) (pa_cons (pv 14) (pa_cons (pv 15) pa_nil)))))) pa_nil)))) pe_bl (nomark _)) (pss_one (ps_ret pe_bl)) pss_nil)))))
    (pss_one (ps_ret pe_bl)))))))))))))), ?_⟩
  obtain ⟨⟨xr, er, tr⟩, ed⟩ := id ev
  have lr := tr.len
  rw [List.length_map, rowsOf, List.length_map] at lr
  have hL1 := eo.one
  have hL4 := eo.four
  have hrow : ∀ {i : Nat} {x : V} {H2 : Hp}, Same H H2 → xr[i]? = some x → ∃ (e : Ent) (c : Addr), L[i]? = some e ∧ x = .ref c ∧ H2 c = some (.tup [.str e.1, .int e.2.1, .int e.2.2.1]) := fun {i x H2} sm hx => by
    have hi : i < L.length := by rw [← lr]; exact (List.getElem?_eq_some_iff.mp hx).1
    have heq : L[i]? = some L[i] := List.getElem?_eq_getElem hi
    obtain ⟨dd, hd, td⟩ := tr.get hx
    rw [List.getElem?_map, rows_get heq] at hd
    obtain rfl : rowD (L[i].1, L[i].2.1, L[i].2.2.1) = dd := Option.some.inj hd
    obtain ⟨c, hc, ec⟩ := row3_inv (td.keep (.of sm))
    exact ⟨L[i], c, heq, hc, ec⟩
  have hget : ∀ {i : Nat} {e : Ent} {H2 : Hp}, Same H H2 → L[i]? = some e → DGet H2 d (.str e.1) (some (.int (bk L e.1))) := fun {i e H2} sm he => by
    have hk : valV (enc (bookOf L)) (Sum.inr e.1) = some (.int (getB (bookOf L) e.1)) := valV_key (by rw [keys_book]; exact List.mem_map.mpr ⟨_, List.mem_of_getElem? he, rfl⟩)
    have hg := DGet.k (k := Sum.inr e.1) (sm _ _ ed)
    rw [hk] at hg
    exact hg
  -- held
  refine ⟨_, rfl, r, rfl, ⟨xr, .of er⟩, fun D nD => ?_⟩
  refine lc_list (K := K) (a := r) (xs := xr) (fun i H2 => (∃ ys, H2 D = some (.lst ys) ∧ TpAll H2 ys (((heldOf L).take i).map rowD)) ∧ Same H H2) ⟨⟨[], upd_same, .nil⟩, same_new nD _⟩ (fun i H2 _ hp => .of (hp.2 _ _ er)) (fun i x H2 hx hp => ?_) (fun H2 hp => ?_)
  · obtain ⟨⟨ys, eD, ty⟩, sm⟩ := hp
    obtain ⟨e, c, he, rfl, ec⟩ := hrow sm hx
    have hg := hget sm he
    refine ⟨c, _, rfl, .of ec, rfl, _, _, rfl, _, _, rfl, _, _, rfl, rfl, rfl, ?_⟩
    refine ⟨_, rfl, _, rfl, _, rfl, d, _, rfl, hg, _, rfl, _, rfl, d, _, rfl, hg, (by show 3 ≤ sizeLine; decide), fun t nt => ⟨ys, ?_, ?_, ⟨ys ++ [.ref t], upd_same, ?_⟩, same_upd2 (sm.trans (same_new nt _)) nD⟩⟩
    · exact same_new nt _ _ _ eD
    · have h1 := ty.len
      rw [List.length_map, List.length_take] at h1
      rw [sizeLine_eq]
      have : (heldOf L).length = L.length := List.length_map _
      omega
    · have ht : (heldOf L).take (i + 1) = (heldOf L).take i ++ [(e.1, bk L e.1, bk L e.1)] := by rw [List.take_add_one, held_at he]; rfl
      have tu : Tups H2 (upd (upd H2 t (.tup [.str e.1, .int (bk L e.1), .int (bk L e.1)])) D (.lst (ys ++ [.ref t]))) := fun b zs hb => by
        have nb : b ≠ D := fun e => by rw [e, eD] at hb; cases hb
        rw [upd_ne nb]
        exact same_new nt _ _ _ hb
      rw [ht, List.map_append]
      refine (ty.keep tu).append (.one (row3_mk (r := (e.1, bk L e.1, bk L e.1)) ?_))
      have n1 : t ≠ D := fun e => by rw [e, eD] at nt; cases nt
      rw [upd_ne n1, upd_same]
  obtain ⟨⟨ys, eD, ty⟩, sm2⟩ := hp
  have lh : (heldOf L).length = L.length := List.length_map _
  rw [lr, ← lh, List.take_length] at ty
  have hD2 : LstD H2 D ((heldOf L).map rowD) := ⟨ys, eD, ty⟩
  -- parts
  refine ⟨_, rfl, _, rfl, dg, r, L, rfl, (ev.keep sm2).rows, hL4, fun H3 v ps sm3 tv pt => ?_⟩
  have sm03 := sm2.trans sm3
  -- atom_here
  refine ⟨_, rfl, dg, 625, rfl, rfl, ⟨by decide, by decide⟩, dg.fdiv 625, 9, rfl, rfl, (by show _ ≠ (0 : Int); decide), 1, (dg.fdiv 625).fmod 9, rfl, rfl, _, rfl, _, rfl, v, d, L, ps, rfl, tv, sm03 _ _ ed, pt, fun H4 sm4 => ?_⟩
  have h9 := fmod_lt (x := dg.fdiv 625) (m := 9) (by decide)
  obtain ⟨c5, xp, rfl, ec5, tp⟩ := (tv.keep (.of sm4)).tup_inv
  refine ⟨1 + (dg.fdiv 625).fmod 9, lin (bk L) ps, rfl, rfl, _, rfl, (by show 2 ≤ sizeLine; decide), fun p1 np1 => ⟨(by show 2 ≤ sizeLine; decide), fun p2 np2 => ?_⟩⟩
  have k1 := same_new np1 (.tup [.int (1 + (dg.fdiv 625).fmod 9 - lin (bk L) ps), .ref c5])
  have k2 := same_new np2 (.tup [.str "most", .ref p1])
  have k12 := k1.trans k2
  have tA := most_mk (s := (1 + (dg.fdiv 625).fmod 9 - lin (bk L) ps, ps)) (upd_same (H := upd H4 p1 (.tup [.int (1 + (dg.fdiv 625).fmod 9 - lin (bk L) ps), .ref c5])) (a := p2) (o := .tup [.str "most", .ref p1])) (sm_mk (q := c5) (xs := xp) (k2 _ _ upd_same) (k12 _ _ ec5) (tp.keep (.of k12)))
  have sm04 := (sm03.trans sm4).trans k12
  have s24 := (sm3.trans sm4).trans k12
  -- paper_rows
  refine ⟨_, rfl, r, xr, rfl, .inl (.of (sm04 _ _ er)), 2, _, rfl, rfl, .inl ⟨by decide, by decide⟩, (by show 2 ≤ sizeLine; decide), fun p3 np3 => ⟨(by show 1 ≤ sizeLine; decide), fun p4 np4 => ?_⟩⟩
  have k3 := same_new np3 (.tup [.int (2 * ((xr.length : Nat) : Int)), .int 1])
  have k4 := same_new np4 (.lst [.ref p3])
  have k34 := k3.trans k4
  have sm05 := sm04.trans k34
  have nDp : D ≠ p4 := ne_of_none ((s24.trans k3) _ _ eD) np4
  have np4H : H p4 = none := (sm04.trans k3).free np4
  have tA5 := tA.keep (.of k34)
  have hD5 := hD2.keep (s24.trans k34)
  have ec5' := k34 _ _ (k12 _ _ ec5)
  have tp5 := (tp.keep (.of k12)).keep (.of k34)
  have e35 := k4 _ _ (upd_same (H := upd (upd H4 p1 (.tup [.int (1 + (dg.fdiv 625).fmod 9 - lin (bk L) ps), .ref c5])) p2 (.tup [.str "most", .ref p1])) (a := p3) (o := .tup [.int (2 * ((xr.length : Nat) : Int)), .int 1]))
  refine ⟨_, rfl, c5, rfl, ⟨xp, .of ec5'⟩, ?_⟩
  have e45 : (upd (upd (upd (upd H4 p1 (.tup [.int (1 + (dg.fdiv 625).fmod 9 - lin (bk L) ps), .ref c5])) p2 (.tup [.str "most", .ref p1])) p3 (.tup [.int (2 * ((xr.length : Nat) : Int)), .int 1])) p4 (.lst [.ref p3])) p4 = some (.lst [.ref p3]) := upd_same
  generalize hH5 : upd (upd (upd (upd H4 p1 (.tup [.int (1 + (dg.fdiv 625).fmod 9 - lin (bk L) ps), .ref c5])) p2 (.tup [.str "most", .ref p1])) p3 (.tup [.int (2 * ((xr.length : Nat) : Int)), .int 1])) p4 (.lst [.ref p3]) = H5 at sm05 tA5 hD5 ec5' tp5 e35 e45 ⊢
  have lxp := tp5.len
  rw [linD_len] at lxp
  have few := pt.few
  refine for_tup (K := K) (xs := xp) (fun i σ H1 => ∃ (R : List (List Int)) (zs : List V) (y8 y9 y10 : Option V), σ = [some (.ref r), some (.ref fm), some (.ref d), some (.int dg), some (.ref D), some (.ref c5), some (.ref p2), some (.ref p4), y8, y9, y10, none, none, none, none, none, none] ∧ Same H H1 ∧ But p4 H5 H1 ∧ H1 p4 = some (.lst zs) ∧ TpAll H1 zs (([2 * (L.length : Int), 1] :: R).map rD) ∧ PRows L (ps.take i) R)
    ⟨[], [.ref p3], none, none, none, rfl, sm05, fun b o _ h => h, e45, .one (.tup e35 (by rw [← lr]; exact .cons (.int _) (.cons (.int _) .nil))), .nil⟩ (fun i σ H1 _ hp => ?_) (fun i x σ H1 hx hp => ?_) (fun σ H1 hp => ?_)
  · obtain ⟨_, _, _, _, _, _, _, b1, _⟩ := hp
    exact .of (b1 _ _ (fun e => by rw [e, e45] at ec5'; cases ec5') ec5')
  · obtain ⟨R1, zs, y8, y9, y10, rfl, smH, b1, ez, tz, pr⟩ := hp
    obtain ⟨dd, hdd, td⟩ := tp5.get hx
    obtain ⟨p, hp, rfl⟩ := linD_get hdd
    obtain ⟨t, rfl, et⟩ := pair_inv (td.keep (b1.tups e45))
    obtain ⟨pm, pb1, pb2, pne⟩ := pt.each p (List.mem_of_getElem? hp)
    obtain ⟨j, e, hj, ee, hys, hno⟩ := ix_of (names_nd eo) pm
    refine ⟨t, _, rfl, .of et, rfl, _, _, rfl, _, _, rfl, rfl, ?_⟩
    -- the place
    refine ⟨_, rfl, r, rfl, ⟨xr, .of (smH _ _ er)⟩, fun D2 nD2 => ?_⟩
    refine lc_list (K := K) (a := r) (xs := xr) (fun i H2 => H2 D2 = some (.lst (((L.take i).map (·.1)).map V.str)) ∧ Same H1 H2) ⟨upd_same, same_new nD2 _⟩ (fun i H2 _ hp => .of (hp.2 _ _ (smH _ _ er))) (fun i x H2 hx hp => ?_) (fun H2 hp => ?_)
    · obtain ⟨eD2, sm⟩ := hp
      obtain ⟨e', c, he, rfl, ec⟩ := hrow (smH.trans sm) hx
      have hi : i < L.length := (List.getElem?_eq_some_iff.mp he).1
      refine ⟨rfl, _, rfl, c, _, 0, _, rfl, rfl, .of ec, atI_nat (j := 0) rfl, _, eD2, ?_, ?_, same_upd2 sm nD2⟩
      · rw [List.length_map, List.length_map, List.length_take, sizeLine_eq]
        omega
      · rw [upd_same, List.take_add_one, he, List.map_append, List.map_append]
        rfl
    · obtain ⟨eD2, sm⟩ := hp
      rw [lr, List.take_length] at eD2
      refine ⟨.inl ⟨rfl, _, .of eD2⟩, _, rfl, D2, _, .str p.1, j, .str p.1, rfl, rfl, .of eD2, rfl, flat_strs _, hys, beq_self_eq_true p.1, hno, ?_⟩
      -- the row
      have ez2 := sm _ _ ez
      refine ⟨_, rfl, .inl ⟨rfl, _, .of ez2⟩, _, rfl, 2, (j : Int), rfl, rfl, .inl ⟨by decide, by decide⟩, _, rfl, p.2, 0, rfl, rfl, .inr ⟨_, rfl, _, _, rfl, rfl, _, rfl, p.2, rfl, (by show 2 ≤ sizeLine; decide), fun u nu => ?_⟩⟩
      have ev0 : (if decide (p.2 < 0) = true then (1 : Int) else 0) = if p.2 < 0 then 1 else 0 := by
        by_cases neg : p.2 < 0 <;> simp [neg]
      have lz := tz.len
      rw [List.length_map, List.length_cons, pr.len, List.length_take] at lz
      have nu4 : u ≠ p4 := fun e => by rw [e, ez2] at nu; cases nu
      refine ⟨p4, zs, _, rfl, rfl, same_new nu _ _ _ ez2, by rw [sizeLine_eq]; omega, ?_⟩
      refine ⟨R1 ++ [[2 * (j : Int) + (if p.2 < 0 then 1 else 0), if p.2 < 0 then -p.2 else p.2]], zs ++ [.ref u], some (.str p.1), some (.int p.2), some (.int (j : Int)), rfl, same_upd2 ((smH.trans sm).trans (same_new nu _)) np4H, fun b o nb hb => ?_, upd_same, ?_, ?_⟩
      · rw [upd_ne nb]
        exact same_new nu _ _ _ (sm _ _ (b1 b o nb hb))
      · have tu : Tups H1 (upd (upd H2 u (.tup [.int (2 * (j : Int) + (if decide (p.2 < 0) = true then 1 else 0)), .int (if p.2 < 0 then -p.2 else p.2)])) p4 (.lst (zs ++ [.ref u]))) := fun b zs' hb => by
          have nb : b ≠ p4 := fun e => by rw [e, ez] at hb; cases hb
          rw [upd_ne nb]
          exact same_new nu _ _ _ (sm _ _ hb)
        rw [← List.cons_append, List.map_append]
        refine (tz.keep tu).append (.one (.tup (xs := [.int (2 * (j : Int) + (if p.2 < 0 then 1 else 0)), .int (if p.2 < 0 then -p.2 else p.2)]) ?_ (.cons (.int _) (.cons (.int _) .nil))))
        rw [upd_ne nu4, upd_same, ← ev0]
      · have ht : ps.take (i + 1) = ps.take i ++ [p] := by rw [List.take_add_one, hp]; rfl
        rw [ht]
        exact .snoc pr ⟨j, e, hj, ee, rfl⟩
  · obtain ⟨R1, zs, y8, y9, y10, rfl, smH, b1, ez, tz, pr⟩ := hp
    rw [lxp, List.take_length] at pr
    have hD6 : LstD H1 D ((heldOf L).map rowD) := by
      obtain ⟨qs, q1, q2⟩ := hD5
      exact ⟨qs, b1 _ _ nDp q1, q2.keep (b1.tups e45)⟩
    have tA6 := tA5.keep (b1.tups e45)
    -- paper_here
    refine ⟨_, rfl, p4, zs, rfl, .inl ⟨.of ez, fun l nl => ⟨(by show 2 ≤ sizeLine; decide), fun u nu => ?_⟩⟩⟩
    have j1 := same_new nl (.tup zs)
    have j2 := same_new nu (.tup [.str "sum", .ref l])
    have j12 := j1.trans j2
    have tP : Tp (upd (upd H1 l (.tup zs)) u (.tup [.str "sum", .ref l])) (.ref u) (Pp.sum ([2 * (L.length : Int), 1] :: R1)).d := psum_mk upd_same (.tup (j2 _ _ upd_same) (tz.keep (.of j12)))
    have smJ := smH.trans j12
    have hD7 := hD6.keep j12
    have tA7 := tA6.keep (.of j12)
    have lF7 := lf.keep smJ
    generalize hH7 : upd (upd H1 l (.tup zs)) u (.tup [.str "sum", .ref l]) = H7 at tP smJ hD7 tA7 lF7 ⊢
    have bnd := pr.bnd hL4 fun q hq => ⟨(pt.each q hq).2.1, (pt.each q hq).2.2.1⟩
    have okP : (Pp.sum ([2 * (L.length : Int), 1] :: R1)).ok := by
      refine ⟨?_, fun r0 hr0 => ?_⟩
      · rw [List.length_cons, pr.len]
        omega
      · rcases List.mem_cons.mp hr0 with e | hr0
        · rw [e]
          refine ⟨.inl rfl, fun z hz => ?_⟩
          simp only [List.mem_cons, List.not_mem_nil, or_false] at hz
          rcases hz with rfl | rfl <;> omega
        · exact bnd r0 hr0
    obtain ⟨xf, ef, tf⟩ := id lF7
    have lxf := tf.len
    rw [List.length_map] at lxf
    have lFs := szs_len Fs
    have lh10 : (heldOf L).length ≤ 10 := by omega
    have okS0 : (Fm.most (1 + (dg.fdiv 625).fmod 9 - lin (bk L) ps, ps)).ok := show ps.length ≤ 100 by omega
    -- the first answer
    refine ⟨_, rfl, _, rfl, (by show 1 ≤ sizeLine; decide), fun l1 nl1 => ?_⟩
    have i1 := same_new nl1 (.lst [.ref p2])
    refine ⟨_, rfl, l1, fm, [.ref p2], xf, rfl, rfl, upd_same, i1 _ _ ef, by rw [sizeLine_eq]; simp only [List.length_singleton]; omega, fun l2 nl2 => ?_⟩
    have i2 := same_new nl2 (.lst ([.ref p2] ++ xf))
    have i12 := i1.trans i2
    refine ⟨_, rfl, D, l2, .ref u, heldOf L, .most (1 + (dg.fdiv 625).fmod 9 - lin (bk L) ps, ps) :: Fs, .sum ([2 * (L.length : Int), 1] :: R1), rfl, hD7.keep i12, ⟨_, upd_same, ?_⟩, tP.keep (.of i12), okP, (by show 0 < 10; decide), lh10, ⟨okS0, okF⟩, (by simp only [Fm.szs, Fm.sz]; omega), fun H8 b A sm8 ra _ hs => ?_⟩
    · exact .cons (tA7.keep (.of i12)) (tf.keep (.of i12))
    have hb : b = true := (hs _ rfl).mpr (sum_right ra pr (fun q hq => (pt.each q hq).2.2.2) (by show 0 < 1 + (dg.fdiv 625).fmod 9 - lin (bk L) ps + lin (bk L) ps; omega))
    subst hb
    refine ⟨true, true, rfl, rfl, _, rfl, iteF ?_⟩
    -- the second answer
    have w8 := i12.trans sm8
    refine ⟨_, rfl, _, rfl, _, rfl, D, fm, .ref u, heldOf L, Fs, .sum ([2 * (L.length : Int), 1] :: R1), rfl, hD7.keep w8, lF7.keep w8, tP.keep (.of w8), okP, (by show 0 < 10; decide), lh10, okF, by omega, fun H9 b A sm9 ra hd _ => ?_⟩
    have hb : b = false := never ra held_tru tru hd
    subst hb
    refine ⟨false, false, rfl, rfl, _, rfl, iteF ?_⟩
    have w9 := w8.trans sm9
    -- both
    refine ⟨_, rfl, Nat.zero_le _, fun a1 n1 => ⟨(by show 2 ≤ sizeLine; decide), fun a2 n2 => ⟨(by show 2 ≤ sizeLine; decide), fun a3 n3 => ⟨(by show 3 ≤ sizeLine; decide), fun a4 n4 => ?_⟩⟩⟩⟩
    have g1 := same_new n1 (.tup [])
    have g2 := same_new n2 (.tup [.str "sum", .ref a1])
    have g3 := same_new n3 (.tup [.ref u, .ref a2])
    have g4 := same_new n4 (.tup [.str "or", .int 0, .ref a3])
    have g34 := g3.trans g4
    have g24 := g2.trans g34
    have gA := w9.trans (g1.trans g24)
    have tBoth : Tp (upd (upd (upd (upd H9 a1 (.tup [])) a2 (.tup [.str "sum", .ref a1])) a3 (.tup [.ref u, .ref a2])) a4 (.tup [.str "or", .int 0, .ref a3])) (.ref a4) (Pp.or 0 [.sum ([2 * (L.length : Int), 1] :: R1), .sum []]).d :=
      por_mk (q := a3) (xs := [.ref u, .ref a2]) upd_same (g4 _ _ upd_same) (.cons (tP.keep (.of gA)) (.cons (psum_mk (g34 _ _ upd_same) (.tup (g24 _ _ upd_same) .nil)) .nil))
    have sm10 := smJ.trans gA
    have hD10 := hD7.keep gA
    have tA10 := tA7.keep (.of gA)
    generalize hH10 : upd (upd (upd (upd H9 a1 (.tup [])) a2 (.tup [.str "sum", .ref a1])) a3 (.tup [.ref u, .ref a2])) a4 (.tup [.str "or", .int 0, .ref a3]) = H10 at tBoth sm10 hD10 tA10 ⊢
    -- the third answer
    refine ⟨_, rfl, _, rfl, Nat.zero_le _, fun b1' m1 => ⟨(by show 2 ≤ sizeLine; decide), fun b2 m2 => ⟨(by show 2 ≤ sizeLine; decide), fun b3 m3 => ⟨(by show 2 ≤ sizeLine; decide), fun b4 m4 => ⟨(by show 1 ≤ sizeLine; decide), fun b5 m5 => ?_⟩⟩⟩⟩⟩
    have f1 := same_new m1 (.tup [])
    have f2 := same_new m2 (.tup [.str "and", .ref b1'])
    have f3 := same_new m3 (.tup [.ref p2, .ref b2])
    have f4 := same_new m4 (.tup [.str "or", .ref b3])
    have f5 := same_new m5 (.lst [.ref b4])
    have f45 := f4.trans f5
    have f35 := f3.trans f45
    have f25 := f2.trans f35
    have fA := f1.trans f25
    refine ⟨_, rfl, D, b5, .ref a4, heldOf L, [.or [.most (1 + (dg.fdiv 625).fmod 9 - lin (bk L) ps, ps), .and []]], .or 0 [.sum ([2 * (L.length : Int), 1] :: R1), .sum []], rfl, hD10.keep fA, ⟨_, upd_same, ?_⟩, tBoth.keep (.of fA), ⟨okP, ⟨Nat.zero_le _, fun r0 hr0 => absurd hr0 (by simp)⟩, trivial⟩, (by show 1 < 10; decide), lh10, ⟨⟨okS0, trivial, trivial⟩, trivial⟩, (by simp [Fm.szs, Fm.sz]), fun H11 b A sm11 ra hd _ => ?_⟩
    · exact .one (.tup (f5 _ _ upd_same) (.cons (.str _) (.cons (.tup (f45 _ _ upd_same) (.cons (tA10.keep (.of fA)) (.cons (.tup (f35 _ _ upd_same) (.cons (.str _) (.cons (.tup (f25 _ _ upd_same) .nil) .nil))) .nil))) .nil)))
    have hb : b = false := never (Fs := [.or [.most (1 + (dg.fdiv 625).fmod 9 - lin (bk L) ps, ps), .and []]]) ra held_tru ⟨.inr (.inl trivial), trivial⟩ hd
    subst hb
    refine ⟨false, false, rfl, rfl, _, rfl, iteF ?_⟩
    have sm12 := (sm10.trans fA).trans sm11
    have hD12 := hD10.keep (fA.trans sm11)
    -- the place
    have hlen : ((xr.length : Nat) : Int) ≠ 0 := by omega
    have hjj := fmod_lt (x := dg) (m := ((xr.length : Nat) : Int)) (by omega)
    refine ⟨_, rfl, _, rfl, r, xr, rfl, .inl (.of (sm12 _ _ er)), dg, _, rfl, rfl, hlen, ?_⟩
    obtain ⟨jj, ejj⟩ : ∃ jj : Int, dg.fmod ((xr.length : Nat) : Int) = jj := ⟨_, rfl⟩
    rw [ejj] at hjj
    have hjl : jj.toNat < xr.length := by omega
    obtain ⟨e, c9, he, hx9, ec9⟩ := hrow sm12 (List.getElem?_eq_getElem hjl)
    have hat : atI xr (dg.fmod ((xr.length : Nat) : Int)) = some (.ref c9) := at_of (j := jj.toNat) (by rw [ejj]; omega) (by rw [List.getElem?_eq_getElem hjl, hx9])
    refine ⟨_, rfl, _, rfl, r, _, _, _, rfl, rfl, .of (sm12 _ _ er), hat, c9, _, 0, _, rfl, rfl, .of ec9, atI_nat (j := 0) rfl, ?_⟩
    have hg := hget sm12 he
    refine ⟨_, rfl, _, rfl, d, _, rfl, hg, bk L e.1, 1, rfl, rfl, _, rfl, _, rfl, d, _, rfl, hg, _, rfl, _, rfl, d, _, rfl, hg, bk L e.1, 1, rfl, rfl, (by show 3 ≤ sizeLine; decide), fun l9 n9 => ?_⟩
    have h9s := same_new n9 (.lst [.int (bk L e.1 - 1), .int (bk L e.1), .int (bk L e.1 + 1)])
    have sm13 := sm12.trans h9s
    have hD13 := hD12.keep h9s
    have e13 : (upd H11 l9 (.lst [.int (bk L e.1 - 1), .int (bk L e.1), .int (bk L e.1 + 1)])) l9 = some (.lst [.int (bk L e.1 - 1), .int (bk L e.1), .int (bk L e.1 + 1)]) := upd_same
    generalize hH13 : upd H11 l9 (.lst [.int (bk L e.1 - 1), .int (bk L e.1), .int (bk L e.1 + 1)]) = H13 at sm13 hD13 e13 ⊢
    refine ⟨l9, rfl, ⟨_, .of e13⟩, ?_⟩
    refine for_list (K := K) (xs := [.int (bk L e.1 - 1), .int (bk L e.1), .int (bk L e.1 + 1)]) (fun i σ H1 => ∃ (y13 y14 y15 : Option V), σ = [some (.ref r), some (.ref fm), some (.ref d), some (.int dg), some (.ref D), some (.ref c5), some (.ref p2), some (.ref p4), some (.str e.1), y9, some (.int (dg.fmod ((xr.length : Nat) : Int))), some (.ref u), some (.ref a4), y13, y14, y15, none] ∧ Same H13 H1)
      ⟨none, none, none, rfl, .refl _⟩ (fun i σ H1 _ hp => ?_) (fun i x σ H1 hx hp => ?_) (fun σ H1 hp => ?_)
    · obtain ⟨_, _, _, _, sm⟩ := hp
      exact .of (sm _ _ e13)
    · obtain ⟨y13, y14, y15, rfl, sm⟩ := hp
      obtain ⟨kk, rfl⟩ : ∃ kk : Int, x = .int kk := by
        have hm := List.mem_of_getElem? hx
        simp only [List.mem_cons, List.not_mem_nil, or_false] at hm
        rcases hm with h | h | h
        · exact ⟨_, h⟩
        · exact ⟨_, h⟩
        · exact ⟨_, h⟩
      have smT := sm13.trans sm
      rw [← ejj] at hjj
      -- low
      refine ⟨_, rfl, 2, dg.fmod ((xr.length : Nat) : Int), rfl, rfl, .inl ⟨by decide, by decide⟩, (by show 2 ≤ sizeLine; decide), fun q1 o1 => ?_⟩
      have v1 := same_new o1 (.tup [.int (2 * dg.fmod ((xr.length : Nat) : Int)), .int 1])
      refine ⟨_, rfl, r, xr, rfl, .inl (.of ((smT.trans v1) _ _ er)), 2, _, rfl, rfl, .inl ⟨by decide, by decide⟩, (by show 2 ≤ sizeLine; decide), fun q2 o2 => ⟨(by show 2 ≤ sizeLine; decide), fun q3 o3 => ⟨(by show 2 ≤ sizeLine; decide), fun q4 o4 => ?_⟩⟩⟩
      have v2 := same_new o2 (.tup [.int (2 * ((xr.length : Nat) : Int)), .int 1])
      have v3 := same_new o3 (.tup [.ref q1, .ref q2])
      have v4 := same_new o4 (.tup [.str "sum", .ref q3])
      have v34 := v3.trans v4
      have v24 := v2.trans v34
      have tLo := psum_mk (R := [[2 * dg.fmod ((xr.length : Nat) : Int), 1], [2 * ((xr.length : Nat) : Int), 1]]) (upd_same (H := upd (upd (upd H1 q1 (.tup [.int (2 * dg.fmod ((xr.length : Nat) : Int)), .int 1])) q2 (.tup [.int (2 * ((xr.length : Nat) : Int)), .int 1])) q3 (.tup [.ref q1, .ref q2])) (a := q4) (o := .tup [.str "sum", .ref q3]))
        (.tup (v4 _ _ upd_same) (.cons (.tup (v24 _ _ upd_same) (.cons (.int _) (.cons (.int _) .nil))) (.cons (.tup (v34 _ _ upd_same) (.cons (.int _) (.cons (.int _) .nil))) .nil)))
      have vA := v1.trans v24
      have smU := smT.trans vA
      generalize hHa : upd (upd (upd (upd H1 q1 (.tup [.int (2 * dg.fmod ((xr.length : Nat) : Int)), .int 1])) q2 (.tup [.int (2 * ((xr.length : Nat) : Int)), .int 1])) q3 (.tup [.ref q1, .ref q2])) q4 (.tup [.str "sum", .ref q3]) = Ha at tLo vA smU ⊢
      -- high
      refine ⟨_, rfl, 2, dg.fmod ((xr.length : Nat) : Int), rfl, rfl, .inl ⟨by decide, by decide⟩, 2 * dg.fmod ((xr.length : Nat) : Int), 1, rfl, rfl, (by show 2 ≤ sizeLine; decide), fun q5 o5 => ?_⟩
      have v5 := same_new o5 (.tup [.int (2 * dg.fmod ((xr.length : Nat) : Int) + 1), .int 1])
      refine ⟨_, rfl, r, xr, rfl, .inl (.of ((smU.trans v5) _ _ er)), 2, _, rfl, rfl, .inl ⟨by decide, by decide⟩, (by show 2 ≤ sizeLine; decide), fun q6 o6 => ⟨(by show 2 ≤ sizeLine; decide), fun q7 o7 => ⟨(by show 2 ≤ sizeLine; decide), fun q8 o8 => ?_⟩⟩⟩
      have v6 := same_new o6 (.tup [.int (2 * ((xr.length : Nat) : Int)), .int 1])
      have v7 := same_new o7 (.tup [.ref q5, .ref q6])
      have v8 := same_new o8 (.tup [.str "sum", .ref q7])
      have v78 := v7.trans v8
      have v68 := v6.trans v78
      have tHi := psum_mk (R := [[2 * dg.fmod ((xr.length : Nat) : Int) + 1, 1], [2 * ((xr.length : Nat) : Int), 1]]) (upd_same (H := upd (upd (upd Ha q5 (.tup [.int (2 * dg.fmod ((xr.length : Nat) : Int) + 1), .int 1])) q6 (.tup [.int (2 * ((xr.length : Nat) : Int)), .int 1])) q7 (.tup [.ref q5, .ref q6])) (a := q8) (o := .tup [.str "sum", .ref q7]))
        (.tup (v8 _ _ upd_same) (.cons (.tup (v68 _ _ upd_same) (.cons (.int _) (.cons (.int _) .nil))) (.cons (.tup (v78 _ _ upd_same) (.cons (.int _) (.cons (.int _) .nil))) .nil)))
      have vB := v5.trans v68
      -- the answer
      refine ⟨_, rfl, Nat.zero_le _, fun l0 o9 => ⟨_, rfl, _, rfl, _, rfl, _, rfl, (by show 5 ≤ sizeLine; decide), fun u0 o10 => ?_⟩⟩
      have v9 := same_new o9 (.lst [])
      have v10 := same_new o10 (.tup [.str "cut", .str e.1, .int kk, .ref q4, .ref q8])
      have v910 := v9.trans v10
      have rk : ∀ z : Int, z = 2 * dg.fmod ((xr.length : Nat) : Int) ∨ z = 2 * dg.fmod ((xr.length : Nat) : Int) + 1 → rowsOk [[z, 1], [2 * ((xr.length : Nat) : Int), 1]] := fun z hz => ⟨(by show 2 ≤ 100; decide), fun r0 hr0 => by
        simp only [List.mem_cons, List.not_mem_nil, or_false] at hr0
        rcases hr0 with rfl | rfl
        · refine ⟨.inl rfl, fun y hy => ?_⟩
          simp only [List.mem_cons, List.not_mem_nil, or_false] at hy
          rcases hy with rfl | rfl <;> omega
        · refine ⟨.inl rfl, fun y hy => ?_⟩
          simp only [List.mem_cons, List.not_mem_nil, or_false] at hy
          rcases hy with rfl | rfl <;> omega⟩
      refine ⟨D, l0, .ref u0, heldOf L, [], .cut e.1 kk (.sum [[2 * dg.fmod ((xr.length : Nat) : Int), 1], [2 * ((xr.length : Nat) : Int), 1]]) (.sum [[2 * dg.fmod ((xr.length : Nat) : Int) + 1, 1], [2 * ((xr.length : Nat) : Int), 1]]), rfl, hD13.keep (((sm.trans vA).trans vB).trans v910), ⟨[], v10 _ _ upd_same, .nil⟩,
        pcut_mk upd_same ((tLo.keep (.of vB)).keep (.of v910)) (tHi.keep (.of v910)), ⟨rk _ (.inl rfl), rk _ (.inr rfl)⟩, (by show 1 < 10; decide), lh10, trivial, Nat.zero_le _, fun Hz b A smz ra hd _ => ?_⟩
      have hb : b = false := never (Fs := []) ra held_tru trivial hd
      subst hb
      refine ⟨false, false, rfl, rfl, _, rfl, iteF ?_⟩
      exact ⟨_, _, _, rfl, (((sm.trans vA).trans vB).trans v910).trans smz⟩
    · obtain ⟨y13, y14, y15, rfl, sm⟩ := hp
      exact q H1 (sm13.trans sm)
end
end Calm

namespace Calm
open PySem PySem.Spec PyProof.Rows L2
theorem cut_ints (ns : List Int) (lo hi : Option Int) : ∃ cs : List Int, (cutV (ns.map V.int) lo hi).reverse = cs.map V.int := by
  refine ⟨((ns.drop (HT.sIx (ns.map V.int).length 0 lo)).take (HT.sIx (ns.map V.int).length (ns.map V.int).length hi - HT.sIx (ns.map V.int).length 0 lo)).reverse, ?_⟩
  unfold cutV
  rw [List.map_reverse, List.map_take, List.map_drop]
theorem all_app {f : Str → Int} {a b : List Fm} (h : Fm.all f a) (h2 : Fm.all f b) : Fm.all f (a ++ b) := all_iff.mpr fun F hF => (List.mem_append.mp hF).elim (all_iff.mp h F) (all_iff.mp h2 F)
theorem oks_app {a b : List Fm} (h : Fm.oks a) (h2 : Fm.oks b) : Fm.oks (a ++ b) := oks_iff.mpr fun F hF => (List.mem_append.mp hF).elim (oks_iff.mp h F) (oks_iff.mp h2 F)
section
variable {P : Program} {w : World} {K : PySem.W.Frag} {mg : Str → Option Value} {base : Heap}
/-! ### law -/
abbrev sLaw : Stmt := topS 29
theorem scLaw : FnScope ["_law_script", "_law_rows_here", "_law_book", "_law_forms", "_law_k", "_law_cells", "_law_turn", "_law_paper_here"] ["_law_script"] (defScope sLaw) := ⟨rfl, rfl, rfl, by decide +kernel, rfl, by decide +kernel, by decide +kernel⟩
def spLaw (K : PySem.W.Frag) : Sp := fun vs H Q _ => ∃ (a : Addr) (ns : List Int), vs = [.ref a] ∧ SqL K H a (ns.map V.int) ∧ ns.length ≤ 63 ∧ ∀ H', Q (.bl true) H'
theorem ok_law {f fC fR fF fP fL fE : Addr} {fd fdC fdR fdF fdP fdL fdE : FuncData} {k : Nat} (R : Rf K mg "law" sLaw ["_law_script"] f fd) (B : Bt mg)
    (RC : Rf K mg "_law_cell_at" sCell ["_law_script", "_law_k"] fC fdC) (GC : FnOk P w K mg base CX0 k fC fdC ["_law_script", "_law_k"] (spCell K))
    (RR : Rf K mg "_law_rows" sRowsL ["_law_script"] fR fdR) (GR : FnOk P w K mg base CX0 k fR fdR ["_law_script"] (spRowsL K))
    (RF : Rf K mg "_law_form" sFormL pDRB fF fdF) (GF : FnOk P w K mg base CX0 k fF fdF pDRB spFormL)
    (RP : Rf K mg "_law_paper" sPaper pPaper fP fdP) (GP : FnOk P w K mg base CX0 k fP fdP pPaper (spPaper 9))
    (RL : Rf K mg "let_by" sLet ["rows", "forms", "paper"] fL fdL) (GL : FnOk P w K mg base CX0 k fL fdL ["rows", "forms", "paper"] spLet)
    (RE : Rf K mg "_law_false" sFalse pFalse fE fdE) (GE : FnOk P w K mg base CX0 k fE fdE pFalse spFalse) :
    FnOk P w K mg base CX0 (k + 1) f fd ["_law_script"] (spLaw K) := by
  refine R.F.ok scLaw (fun vs H Q E h => ?_) (fun cdv A' outer s H vs Q E hr h => ?_)
  · obtain ⟨a, ns, rfl, _⟩ := h
    rfl
  obtain ⟨a, ns, rfl, hS, h63, q⟩ := h
  refine ⟨_, pss_cons (ps_asg (pe_call GR hr rfl RR.m RR.F.kp RR.b .nil pass0 (pa_cons (pv 0) pa_nil)) (pg_tup (n := 2) rfl (pgs_cons (pg_name (i := 1) scLaw.nd rfl (.inl rfl)) (pgs_cons (pg_name (i := 2) scLaw.nd rfl (.inl rfl)) pgs_nil))))
    (pss_cons (ps_set (i := 3) scLaw.nd rfl (.inl rfl) (pe_lst pa_nil))
    (pss_cons (ps_for PassesOwn.never rfl (pi_range1 rfl B.range (pa_cons (pe_op op_add pe_int (pe_op op_modN (pe_op op_fdivN (pe_call GC hr rfl RC.m RC.F.kp RC.b .nil pass0 (pa_cons (pv 0) (pa_cons pe_int pa_nil))) pe_int) pe_int)) pa_nil)) (pg_name (i := 4) scLaw.nd rfl (.inl rfl))
      (pss_one (ps_expr (pe_bm PySem.F.plainAttrs_list PySem.F.slot_list_append PySem.F.type_list_append mt_append (pv 3) (pa_cons (pe_call GF hr rfl RF.m RF.F.kp RF.b .nil pass0 (pa_cons (pe_call GC hr rfl RC.m RC.F.kp RC.b .nil pass0 (pa_cons (pv 0) (pa_cons (pe_op op_add pe_int (pv 4)) pa_nil))) (pa_cons (pv 1) (pa_cons (pv 2) pa_nil)))) pa_nil)))))
    (pss_cons (ps_set (i := 5) scLaw.nd rfl (.inl rfl) (pe_lstRev rfl (by rfl) B.list (by rfl) B.reversed (pe_slice sl_list (pv 0) (po_some pe_int) (po_some pe_int))))
    (pss_cons (ps_for PassesOwn.never rfl (pi_range1 rfl B.range (pa_cons pe_int pa_nil)) (pg_name (i := 6) scLaw.nd rfl (.inl rfl))
      (pss_cons (ps_set (i := 7) scLaw.nd rfl (.inl rfl) (pe_call GP hr rfl RP.m RP.F.kp RP.b .nil pass0 (pa_cons (pv 5) (pa_cons (pv 1) (pa_cons (pv 2) (pa_cons (pe_op op_add (pe_op op_mul pe_int (pe_callB call_len_seq (by rfl) B.len PySem.boot_len (pa_cons (pv 1) pa_nil))) pe_int) (pa_cons pe_int pa_nil)))))))
      (pss_one (ps_if (pt_cmpR op_notBl (pe_call GL hr rfl RL.m RL.F.kp RL.b .nil pass0 (pa_cons (pv 1) (pa_cons (pv 3) (pa_cons (pv 7) pa_nil)))) pe_bl (nomark _)) (pss_one (ps_ret pe_bl)) pss_nil))))
    (pss_cons (ps_for PassesOwn.never rfl (pi_range1 rfl B.range (pa_cons pe_int pa_nil)) (pg_name (i := 4) scLaw.nd rfl (.inl rfl))
      (pss_one (ps_if (pt_not (pt_val (pe_call GE hr rfl RE.m RE.F.kp RE.b .nil pass0 (pa_cons (pv 1) (pa_cons (pv 3) (pa_cons (pv 2) (pa_cons (pe_call GC hr rfl RC.m RC.F.kp RC.b .nil pass0 (pa_cons (pv 0) (pa_cons (pe_op op_add pe_int (pv 4)) pa_nil))) pa_nil)))))))
        (pss_one (ps_ret pe_bl)) pss_nil)))
    (pss_one (ps_ret pe_bl))))))), ?_⟩
  refine ⟨_, rfl, a, ns, rfl, hS, fun H1 t r d L sm1 nr et ev eo => ?_⟩
  have hL1 := eo.one
  have hL4 := eo.four
  refine ⟨t, _, rfl, .of et, rfl, _, _, rfl, _, _, rfl, rfl, ?_⟩
  -- forms
  refine ⟨Nat.zero_le _, fun fm nf => ?_⟩
  have s1 := same_new nf (.lst [])
  have sm2 := sm1.trans s1
  have nfH : H fm = none := sm1.free nf
  have hrf : r ≠ fm := by
    obtain ⟨⟨_, er, _⟩, _⟩ := ev
    exact ne_of_none er nf
  refine ⟨_, rfl, a, 0, ns, rfl, sm2.seq hS, Int.le_refl 0, fun z0 => ?_⟩
  have h6 := fmod_lt (x := z0.fdiv 16) (m := 6) (by decide)
  refine ⟨z0, 16, rfl, rfl, ⟨by decide, by decide⟩, z0.fdiv 16, 6, rfl, rfl, (by show _ ≠ (0 : Int); decide), 1, (z0.fdiv 16).fmod 6, rfl, rfl, 1 + (z0.fdiv 16).fmod 6, rfl, by omega, by omega, ?_⟩
  refine for_range (lo := 0) (n := (1 + (z0.fdiv 16).fmod 6).toNat) (fun i σ H2 => ∃ (Fs : List Fm) (y4 : Option V), σ = [some (.ref a), some (.ref r), some (.ref d), some (.ref fm), y4, none, none, none] ∧ Same H H2 ∧ EvAt H2 r d L ∧ LstD H2 fm (Fs.map Fm.d) ∧ Fs.length = i ∧ Fm.all (bk L) Fs ∧ Fm.oks Fs ∧ Fm.szs Fs ≤ 5 * i)
    ⟨[], none, rfl, sm2, ev.keep s1, ⟨[], upd_same, .nil⟩, rfl, trivial, trivial, Nat.le_refl _⟩ (fun i σ H2 hi hp => ?_) (fun σ H2 hp => ?_)
  · obtain ⟨Fs, y4, rfl, sm, ev2, ⟨xf, ef, tf⟩, lF, tru, oks, szs⟩ := hp
    have lxf := tf.len
    rw [List.length_map] at lxf
    refine ⟨_, rfl, .inl ⟨rfl, _, .of ef⟩, _, rfl, _, rfl, 5, 0 + (i : Int), rfl, rfl, a, 5 + (0 + (i : Int)), ns, rfl, sm.seq hS, by omega, fun z1 => ⟨_, rfl, _, rfl, z1, r, d, L, rfl, ev2, hL4, fun H3 v F sm3 tF trF okF szF => ?_⟩⟩
    have ef3 := sm3 _ _ ef
    refine ⟨fm, xf, _, rfl, rfl, ef3, by rw [sizeLine_eq]; omega, ?_⟩
    have tu : Tups H3 (upd H3 fm (.lst (xf ++ [v]))) := fun b zs hb => by
      have nb : b ≠ fm := fun e => by rw [e, ef3] at hb; cases hb
      rw [upd_ne nb]
      exact hb
    obtain ⟨⟨ys, er, tr⟩, ed⟩ := ev2.keep sm3
    refine ⟨Fs ++ [F], some (.int (0 + (i : Int))), rfl, same_upd2 (sm.trans sm3) nfH, ⟨⟨ys, by rw [upd_ne hrf]; exact er, tr.keep tu⟩, ?_⟩, ⟨_, upd_same, ?_⟩, ?_, all_app tru ⟨trF, trivial⟩, oks_app oks ⟨okF, trivial⟩, ?_⟩
    · rw [upd_ne (fun e => by rw [e, ef3] at ed; cases ed)]
      exact ed
    · rw [List.map_append]
      exact ((tf.keep (.of sm3)).keep tu).append (.one (tF.keep tu))
    · rw [List.length_append, lF]
      rfl
    · rw [szs_app]
      simp only [Fm.szs]
      omega
  obtain ⟨Fs, y4, rfl, sm, ev2, lf2, lF, tru, oks, szs⟩ := hp
  have szs' : Fm.szs Fs ≤ 40 := by omega
  -- the cells
  refine ⟨_, rfl, 11, rfl, 63, rfl, a, _, rfl, sm.seq hS, fun cut nc => ?_⟩
  have s3 := same_new nc (.lst (cutV (ns.map V.int) (some 11) (some 63)))
  refine ⟨cut, _, rfl, .of upd_same, fun c nc2 => ?_⟩
  obtain ⟨cs, hcs⟩ := cut_ints ns (some 11) (some 63)
  rw [hcs]
  have s4 := same_new nc2 (.lst (cs.map V.int))
  have s34 := s3.trans s4
  have sm5 := sm.trans s34
  have ncH : H c = none := (sm.trans s3).free nc2
  have hrc : r ≠ c := by
    obtain ⟨⟨_, er, _⟩, _⟩ := ev2.keep s3
    exact ne_of_none er nc2
  have hfc : fm ≠ c := by
    obtain ⟨_, e, _⟩ := lf2.keep s3
    exact ne_of_none e nc2
  -- twelve papers
  refine ⟨12, rfl, by decide, by decide, ?_⟩
  refine for_range (lo := 0) (n := (12 : Int).toNat) (fun i σ H3 => ∃ (cs : List Int) (y6 y7 : Option V), σ = [some (.ref a), some (.ref r), some (.ref d), some (.ref fm), y4, some (.ref c), y6, y7] ∧ Same H H3 ∧ H3 c = some (.lst (cs.map V.int)) ∧ EvAt H3 r d L ∧ LstD H3 fm (Fs.map Fm.d))
    ⟨cs, none, none, rfl, sm5, upd_same, ev2.keep s34, lf2.keep s34⟩ (fun i σ H3 hi hp => ?_) (fun σ H3 hp => ?_)
  · obtain ⟨cs, y6, y7, rfl, sm, ec, ev3, lf3⟩ := hp
    obtain ⟨⟨xr, er, tr⟩, ed⟩ := id ev3
    have lr := tr.len
    rw [List.length_map, rowsOf, List.length_map] at lr
    refine ⟨_, rfl, _, rfl, _, rfl, _, rfl, r, xr, rfl, .inl (.of er), 2, _, rfl, rfl, .inl ⟨by decide, by decide⟩, 2 * ((xr.length : Nat) : Int), 4, rfl, rfl, c, r, d, 2 * ((xr.length : Nat) : Int) + 4, 8, cs, L, rfl, ec, hrc, ev3, eo, by omega, by decide, by decide, by omega, fun H4 v p cs' b4 ec4 tp okp dpp => ?_⟩
    have ev4 := ev3.but b4 ec hrc
    have lf4 : LstD H4 fm (Fs.map Fm.d) := by
      obtain ⟨xf, ef, tf⟩ := lf3
      exact ⟨xf, b4 _ _ hfc ef, tf.keep (b4.tups ec)⟩
    have sm4 : Same H H4 := fun b o hb => b4 b o (ne_of_none hb ncH) (sm b o hb)
    have lrow : (rowsOf L).length ≤ 10 := by
      rw [rowsOf, List.length_map]
      omega
    refine ⟨_, rfl, _, rfl, _, rfl, r, fm, v, rowsOf L, Fs, p, rfl, ev4.rows, lf4, tp, okp, by omega, lrow, oks, by omega, fun H5 b A sm5 ra hd _ => ?_⟩
    have hb : b = false := never ra (rows_tru eo) tru hd
    subst hb
    refine ⟨false, false, rfl, rfl, _, rfl, iteF ?_⟩
    exact ⟨cs', _, _, rfl, sm4.trans sm5, sm5 _ _ ec4, ev4.keep sm5, lf4.keep sm5⟩
  obtain ⟨cs, y6, y7, rfl, sm, ec, ev3, lf3⟩ := hp
  -- four false ones
  refine ⟨4, rfl, by decide, by decide, ?_⟩
  refine for_range (lo := 0) (n := (4 : Int).toNat) (fun i σ H4 => ∃ (y4 : Option V), σ = [some (.ref a), some (.ref r), some (.ref d), some (.ref fm), y4, some (.ref c), y6, y7] ∧ Same H H4 ∧ EvAt H4 r d L ∧ LstD H4 fm (Fs.map Fm.d))
    ⟨_, rfl, sm, ev3, lf3⟩ (fun i σ H4 hi hp => ?_) (fun σ H4 hp => ?_)
  · obtain ⟨y4', rfl, sm4, ev4, lf4⟩ := hp
    refine ⟨_, rfl, _, rfl, _, rfl, _, rfl, _, rfl, 11, 0 + (i : Int), rfl, rfl, a, 11 + (0 + (i : Int)), ns, rfl, sm4.seq hS, by omega, fun z => ⟨r, fm, d, z, L, Fs, rfl, ev4, eo, lf4, tru, oks, szs', fun H5 sm5 => ?_⟩⟩
    refine ⟨true, rfl, iteF ?_⟩
    exact ⟨_, rfl, sm4.trans sm5, ev4.keep sm5, lf4.keep sm5⟩
  · exact q H4
end
end Calm

namespace Calm
open PySem PySem.Spec PyProof.Rows L2
/-! ### the program's top: the defs stand there as the text says -/
/-- one def as the top left it -/
structure Df (K : PySem.W.Frag) (x : String) (st : Stmt) (f : Addr) (fd : FuncData) : Prop where
  a : PySem.W.nsIn K mainGlobals x = some (some (.ref f))
  F : Fun K x x st f fd
theorem df_mk {K : PySem.W.Frag} {x : String} {st : Stmt} {f : Addr} {oc : Value} {od an : Option Addr} {osl : Array (Option Value)} {kV doc pm cdv ct : Value} (a : PySem.W.nsIn K mainGlobals x = some (some (.ref f)))
    (l : K.lookup f = some ⟨oc, od, .func (PySem.W.fnOf x x (defArgs st) (defBody st) (defScope st) .none kV doc pm an cdv ct), osl⟩) (c : PySem.W.codeIn K cdv x = true) (k : PySem.W.keepIn K (.ref f) = true) :
    Df K x st f (PySem.W.fnOf x x (defArgs st) (defBody st) (defScope st) .none kV doc pm an cdv ct) := ⟨a, fun_mk l c k⟩
theorem Df.rf {K : PySem.W.Frag} {x : String} {st : Stmt} {f : Addr} {fd : FuncData} {ps : List Str} {h : Heap} {mg : Str → Option Value} (d : Df K x st f fd) (X : K.In h) (G : h.Ns mainGlobals mg)
    (hb : ∀ (kV doc pm : Value) (an : Option Addr) (cdv ct : Value) (us : List Value), us.length = ps.length → bindArgs (PySem.W.fnOf x x (defArgs st) (defBody st) (defScope st) .none kV doc pm an cdv ct) ⟨us, []⟩ = pure (ps.zip us)) : Rf K mg x st ps f fd :=
  ⟨d.F, d.F.binds hb, PySem.W.mg_of X G d.a⟩
theorem all_mk {l : PySem.W.OpenLaw} {w : World} {K : PySem.W.Frag} {h : Heap} {mg : Str → Option Value} {fa f1 f2 f3 f6 f7 f8 f9 f10 f11 f12 f13 f14 f15 f16 f17 f19 f20 f21 f22 f23 f24 f25 f26 f27 f28 f29 : Addr} {g1 g2 g3 g6 g7 g8 g9 g10 g11 g12 g13 g14 g15 g16 g17 g19 g20 g21 g22 g23 g24 g25 g26 g27 g28 g29 : FuncData} {tk : Tok} (X : K.In h) (G : h.Ns mainGlobals mg) (hfa : mg "law" = some (.ref fa))
    (d1 : Df K "sum_of" sSumOf f1 g1)
    (d2 : Df K "plus" sPlus f2 g2)
    (d3 : Df K "by" sBy f3 g3)
    (d6 : Df K "is_number" sNum f6 g6)
    (d7 : Df K "is_row" sRow f7 g7)
    (d8 : Df K "lay_in" sLay f8 g8)
    (d9 : Df K "atom_at" sAtom f9 g9)
    (d10 : Df K "shows_sum" sSum f10 g10)
    (d11 : Df K "rest_part" sRPart f11 g11)
    (d12 : Df K "shows_rest" sRest f12 g12)
    (d13 : Df K "shows_or" sOr f13 g13)
    (d14 : Df K "shows_cut" sCut f14 g14)
    (d15 : Df K "shows" sShows f15 g15)
    (d16 : Df K "row_atoms" sRA f16 g16)
    (d17 : Df K "let_by" sLet f17 g17)
    (d19 : Df K "_law_cell_at" sCell f19 g19)
    (d20 : Df K "_law_signed" sSigned f20 g20)
    (d21 : Df K "_law_rows" sRowsL f21 g21)
    (d22 : Df K "_law_sum" sSumL f22 g22)
    (d23 : Df K "_law_at" sAtL f23 g23)
    (d24 : Df K "_law_atom" sAtomL f24 g24)
    (d25 : Df K "_law_form" sFormL f25 g25)
    (d26 : Df K "_law_rows_of" sRO f26 g26)
    (d27 : Df K "_law_paper" sPaper f27 g27)
    (d28 : Df K "_law_false" sFalse f28 g28)
    (d29 : Df K "law" sLaw f29 g29)
    (dd : PySem.W.nsIn K mainGlobals "DEEPEST" = some (some (.int 90 tk)))
    (z_len : PySem.W.nsIn K mainGlobals "len" = some none)
    (z_tuple : PySem.W.nsIn K mainGlobals "tuple" = some none)
    (z_sorted : PySem.W.nsIn K mainGlobals "sorted" = some none)
    (z_isinstance : PySem.W.nsIn K mainGlobals "isinstance" = some none)
    (z_int : PySem.W.nsIn K mainGlobals "int" = some none)
    (z_bool : PySem.W.nsIn K mainGlobals "bool" = some none)
    (z_str : PySem.W.nsIn K mainGlobals "str" = some none)
    (z_all : PySem.W.nsIn K mainGlobals "all" = some none)
    (z_range : PySem.W.nsIn K mainGlobals "range" = some none)
    (z_list : PySem.W.nsIn K mainGlobals "list" = some none)
    (z_reversed : PySem.W.nsIn K mainGlobals "reversed" = some none)
    (z_abs : PySem.W.nsIn K mainGlobals "abs" = some none)
    (z_sum : PySem.W.nsIn K mainGlobals "sum" = some none)
    (z_zip : PySem.W.nsIn K mainGlobals "zip" = some none)
    : ∃ fd : FuncData, (∀ (s : Shared) (v : Value), BindsTo s fd ⟨[v], []⟩ [("_law_script", v)]) ∧ ∀ base : Heap, K.In base → base.Ns mainGlobals mg → FnOk l.prog w K mg base CX0 85 fa fd ["_law_script"] (spLaw K) := by
  have r1 : Rf K mg "sum_of" sSumOf ["number", "pairs"] f1 g1 := d1.rf X G fun _ _ _ _ _ _ us hl => match us, hl with | [_, _], _ => rfl
  have r2 : Rf K mg "plus" sPlus ["one", "other"] f2 g2 := d2.rf X G fun _ _ _ _ _ _ us hl => match us, hl with | [_, _], _ => rfl
  have r3 : Rf K mg "by" sBy ["one", "times"] f3 g3 := d3.rf X G fun _ _ _ _ _ _ us hl => match us, hl with | [_, _], _ => rfl
  have r6 : Rf K mg "is_number" sNum ["thing"] f6 g6 := d6.rf X G fun _ _ _ _ _ _ us hl => match us, hl with | [_], _ => rfl
  have r7 : Rf K mg "is_row" sRow ["thing", "many"] f7 g7 := d7.rf X G fun _ _ _ _ _ _ us hl => match us, hl with | [_, _], _ => rfl
  have r8 : Rf K mg "lay_in" sLay ["form", "atoms", "ors"] f8 g8 := d8.rf X G fun _ _ _ _ _ _ us hl => match us, hl with | [_, _, _], _ => rfl
  have r9 : Rf K mg "atom_at" sAtom ["atoms", "place", "word"] f9 g9 := d9.rf X G fun _ _ _ _ _ _ us hl => match us, hl with | [_, _, _], _ => rfl
  have r10 : Rf K mg "shows_sum" sSum ["atoms", "rows"] f10 g10 := d10.rf X G fun _ _ _ _ _ _ us hl => match us, hl with | [_, _], _ => rfl
  have r11 : Rf K mg "rest_part" sRPart ["atoms", "divisor", "row"] f11 g11 := d11.rf X G fun _ _ _ _ _ _ us hl => match us, hl with | [_, _, _], _ => rfl
  have r12 : Rf K mg "shows_rest" sRest ["atoms", "divisor", "rows"] f12 g12 := d12.rf X G fun _ _ _ _ _ _ us hl => match us, hl with | [_, _, _], _ => rfl
  have r13 : Rf K mg "shows_or" sOr ["names", "atoms", "ors", "paper", "deep"] f13 g13 := d13.rf X G fun _ _ _ _ _ _ us hl => match us, hl with | [_, _, _, _, _], _ => rfl
  have r14 : Rf K mg "shows_cut" sCut ["names", "atoms", "ors", "paper", "deep"] f14 g14 := d14.rf X G fun _ _ _ _ _ _ us hl => match us, hl with | [_, _, _, _, _], _ => rfl
  have r15 : Rf K mg "shows" sShows ["names", "atoms", "ors", "paper", "deep"] f15 g15 := d15.rf X G fun _ _ _ _ _ _ us hl => match us, hl with | [_, _, _, _, _], _ => rfl
  have r16 : Rf K mg "row_atoms" sRA ["rows"] f16 g16 := d16.rf X G fun _ _ _ _ _ _ us hl => match us, hl with | [_], _ => rfl
  have r17 : Rf K mg "let_by" sLet ["rows", "forms", "paper"] f17 g17 := d17.rf X G fun _ _ _ _ _ _ us hl => match us, hl with | [_, _, _], _ => rfl
  have r19 : Rf K mg "_law_cell_at" sCell ["_law_script", "_law_k"] f19 g19 := d19.rf X G fun _ _ _ _ _ _ us hl => match us, hl with | [_, _], _ => rfl
  have r20 : Rf K mg "_law_signed" sSigned ["_law_cell", "_law_most"] f20 g20 := d20.rf X G fun _ _ _ _ _ _ us hl => match us, hl with | [_, _], _ => rfl
  have r21 : Rf K mg "_law_rows" sRowsL ["_law_script"] f21 g21 := d21.rf X G fun _ _ _ _ _ _ us hl => match us, hl with | [_], _ => rfl
  have r22 : Rf K mg "_law_sum" sSumL ["_law_digits", "_law_rows_here"] f22 g22 := d22.rf X G fun _ _ _ _ _ _ us hl => match us, hl with | [_, _], _ => rfl
  have r23 : Rf K mg "_law_at" sAtL ["_law_parts", "_law_book"] f23 g23 := d23.rf X G fun _ _ _ _ _ _ us hl => match us, hl with | [_, _], _ => rfl
  have r24 : Rf K mg "_law_atom" sAtomL ["_law_digits", "_law_rows_here", "_law_book"] f24 g24 := d24.rf X G fun _ _ _ _ _ _ us hl => match us, hl with | [_, _, _], _ => rfl
  have r25 : Rf K mg "_law_form" sFormL ["_law_digits", "_law_rows_here", "_law_book"] f25 g25 := d25.rf X G fun _ _ _ _ _ _ us hl => match us, hl with | [_, _, _], _ => rfl
  have r26 : Rf K mg "_law_rows_of" sRO ["_law_digits", "_law_many", "_law_triples"] f26 g26 := d26.rf X G fun _ _ _ _ _ _ us hl => match us, hl with | [_, _, _], _ => rfl
  have r27 : Rf K mg "_law_paper" sPaper ["_law_cells", "_law_rows_here", "_law_book", "_law_many", "_law_deep"] f27 g27 := d27.rf X G fun _ _ _ _ _ _ us hl => match us, hl with | [_, _, _, _, _], _ => rfl
  have r28 : Rf K mg "_law_false" sFalse ["_law_rows_here", "_law_forms", "_law_book", "_law_digits"] f28 g28 := d28.rf X G fun _ _ _ _ _ _ us hl => match us, hl with | [_, _, _, _], _ => rfl
  have r29 : Rf K mg "law" sLaw ["_law_script"] f29 g29 := d29.rf X G fun _ _ _ _ _ _ us hl => match us, hl with | [_], _ => rfl
  have B : Bt mg := ⟨PySem.W.mg_none_of X G z_len, PySem.W.mg_none_of X G z_tuple, PySem.W.mg_none_of X G z_sorted, PySem.W.mg_none_of X G z_isinstance, PySem.W.mg_none_of X G z_int, PySem.W.mg_none_of X G z_bool, PySem.W.mg_none_of X G z_str, PySem.W.mg_none_of X G z_all, PySem.W.mg_none_of X G z_range, PySem.W.mg_none_of X G z_list, PySem.W.mg_none_of X G z_reversed, PySem.W.mg_none_of X G z_abs, PySem.W.mg_none_of X G z_sum, PySem.W.mg_none_of X G z_zip⟩
  have e := hfa.symm.trans r29.m
  cases e
  let PG : Pg K mg := ⟨f1, g1, r1, f2, g2, r2, f3, g3, r3, f6, g6, r6, f7, g7, r7, f8, g8, r8, f9, g9, r9, f10, g10, r10, f11, g11, r11, f12, g12, r12, f13, g13, r13, f14, g14, r14, f15, g15, r15, f16, g16, r16, f17, g17, r17, tk, PySem.W.mg_of X G dd⟩
  have bL := r29.b
  obtain ⟨oc, od, kV, doc, pm, an, cdv, ct, osl, e29, _, _⟩ := d29.F.ex
  refine ⟨g29, fun s v => ?_, fun base _ _ => ?_⟩
  · rw [e29]
    exact .of_eq rfl
  · have GL : FnOk l.prog w K mg base CX0 83 f17 g17 ["rows", "forms", "paper"] spLet := PG.letBy B
    have G19 : FnOk l.prog w K mg base CX0 1 f19 g19 ["_law_script", "_law_k"] (spCell K) := ok_cell r19 B
    have G20 : FnOk l.prog w K mg base CX0 1 f20 g20 ["_law_cell", "_law_most"] spSigned := ok_signed r20
    have G21 : FnOk l.prog w K mg base CX0 2 f21 g21 ["_law_script"] (spRowsL K) := ok_rowsL r21 B r19 G19 r20 G20
    have G22 : FnOk l.prog w K mg base CX0 1 f22 g22 ["_law_digits", "_law_rows_here"] spSumL := ok_sumL r22 B
    have G23 : FnOk l.prog w K mg base CX0 1 f23 g23 ["_law_parts", "_law_book"] spAtL := ok_atL r23 B
    have G24 : FnOk l.prog w K mg base CX0 2 f24 g24 pDRB spAtomL := ok_atomL r24 r22 G22 r23 G23
    have G25 : FnOk l.prog w K mg base CX0 3 f25 g25 pDRB spFormL := ok_formL r25 r22 (G22.mono (by decide)) r24 G24
    have G26 : FnOk l.prog w K mg base CX0 1 f26 g26 ["_law_digits", "_law_many", "_law_triples"] spRO := ok_ro r26 B
    have G27 : FnOk l.prog w K mg base CX0 10 f27 g27 pPaper (spPaper 9) := ok_paper r27 B r26 G26 9
    have G28 : FnOk l.prog w K mg base CX0 84 f28 g28 pFalse spFalse := ok_false r28 B r22 (G22.mono (by decide)) r23 (G23.mono (by decide)) r17 GL
    exact ok_law r29 B r19 (G19.mono (by decide)) r21 (G21.mono (by decide)) r25 (G25.mono (by decide)) r27 (G27.mono (by decide)) r17 (GL.mono (by decide)) r28 G28
end Calm
open PySem PySem.W PyProof.Rows
set_option maxRecDepth 100000 in
set_option maxHeartbeats 0 in
theorem PySem.Challenge.cw_calm_k48_whole_any_paper_is_sound_holds : PySem.Challenge.rw_calm_k48_whole_any_paper_is_sound.Holds := by
  w_on; o_law; k_head; (case hw => w_witness2)
  k_fill
  refine L2.walk_of (l := PySem.Challenge.rw_calm_k48_whole_any_paper_is_sound) (n := 63) (k := 85) (x := "_law_script") (CX := fun _ => L2.CX0) (sp := fun w => Calm.spLaw _) rfl (by decide) rfl ⟨rfl, by decide, by decide⟩ (fun w h Y => PySem.W.kIn_of Y) ?F (fun _ _ a ns hl _ hS => ⟨a, ns, rfl, hS, hl, fun _ => rfl⟩) (fun _ _ _ _ _ h => h)
  case F =>
    intro w mg fa h KX G hmg
    refine' Calm.all_mk KX G hmg (Calm.df_mk ?a1 ?l1 ?c1 ?k1) (Calm.df_mk ?a2 ?l2 ?c2 ?k2) (Calm.df_mk ?a3 ?l3 ?c3 ?k3) (Calm.df_mk ?a6 ?l6 ?c6 ?k6) (Calm.df_mk ?a7 ?l7 ?c7 ?k7) (Calm.df_mk ?a8 ?l8 ?c8 ?k8) (Calm.df_mk ?a9 ?l9 ?c9 ?k9) (Calm.df_mk ?a10 ?l10 ?c10 ?k10) (Calm.df_mk ?a11 ?l11 ?c11 ?k11) (Calm.df_mk ?a12 ?l12 ?c12 ?k12) (Calm.df_mk ?a13 ?l13 ?c13 ?k13) (Calm.df_mk ?a14 ?l14 ?c14 ?k14) (Calm.df_mk ?a15 ?l15 ?c15 ?k15) (Calm.df_mk ?a16 ?l16 ?c16 ?k16) (Calm.df_mk ?a17 ?l17 ?c17 ?k17) (Calm.df_mk ?a19 ?l19 ?c19 ?k19) (Calm.df_mk ?a20 ?l20 ?c20 ?k20) (Calm.df_mk ?a21 ?l21 ?c21 ?k21) (Calm.df_mk ?a22 ?l22 ?c22 ?k22) (Calm.df_mk ?a23 ?l23 ?c23 ?k23) (Calm.df_mk ?a24 ?l24 ?c24 ?k24) (Calm.df_mk ?a25 ?l25 ?c25 ?k25) (Calm.df_mk ?a26 ?l26 ?c26 ?k26) (Calm.df_mk ?a27 ?l27 ?c27 ?k27) (Calm.df_mk ?a28 ?l28 ?c28 ?k28) (Calm.df_mk ?a29 ?l29 ?c29 ?k29) ?dd ?z0 ?z1 ?z2 ?z3 ?z4 ?z5 ?z6 ?z7 ?z8 ?z9 ?z10 ?z11 ?z12 ?z13
    (case a1 => k_is); (case l1 => k_is); (case c1 => k_is); (case k1 => k_is)
    (case a2 => k_is); (case l2 => k_is); (case c2 => k_is); (case k2 => k_is)
    (case a3 => k_is); (case l3 => k_is); (case c3 => k_is); (case k3 => k_is)
    (case a6 => k_is); (case l6 => k_is); (case c6 => k_is); (case k6 => k_is)
    (case a7 => k_is); (case l7 => k_is); (case c7 => k_is); (case k7 => k_is)
    (case a8 => k_is); (case l8 => k_is); (case c8 => k_is); (case k8 => k_is)
    (case a9 => k_is); (case l9 => k_is); (case c9 => k_is); (case k9 => k_is)
    (case a10 => k_is); (case l10 => k_is); (case c10 => k_is); (case k10 => k_is)
    (case a11 => k_is); (case l11 => k_is); (case c11 => k_is); (case k11 => k_is)
    (case a12 => k_is); (case l12 => k_is); (case c12 => k_is); (case k12 => k_is)
    (case a13 => k_is); (case l13 => k_is); (case c13 => k_is); (case k13 => k_is)
    (case a14 => k_is); (case l14 => k_is); (case c14 => k_is); (case k14 => k_is)
    (case a15 => k_is); (case l15 => k_is); (case c15 => k_is); (case k15 => k_is)
    (case a16 => k_is); (case l16 => k_is); (case c16 => k_is); (case k16 => k_is)
    (case a17 => k_is); (case l17 => k_is); (case c17 => k_is); (case k17 => k_is)
    (case a19 => k_is); (case l19 => k_is); (case c19 => k_is); (case k19 => k_is)
    (case a20 => k_is); (case l20 => k_is); (case c20 => k_is); (case k20 => k_is)
    (case a21 => k_is); (case l21 => k_is); (case c21 => k_is); (case k21 => k_is)
    (case a22 => k_is); (case l22 => k_is); (case c22 => k_is); (case k22 => k_is)
    (case a23 => k_is); (case l23 => k_is); (case c23 => k_is); (case k23 => k_is)
    (case a24 => k_is); (case l24 => k_is); (case c24 => k_is); (case k24 => k_is)
    (case a25 => k_is); (case l25 => k_is); (case c25 => k_is); (case k25 => k_is)
    (case a26 => k_is); (case l26 => k_is); (case c26 => k_is); (case k26 => k_is)
    (case a27 => k_is); (case l27 => k_is); (case c27 => k_is); (case k27 => k_is)
    (case a28 => k_is); (case l28 => k_is); (case c28 => k_is); (case k28 => k_is)
    (case a29 => k_is); (case l29 => k_is); (case c29 => k_is); (case k29 => k_is)
    (case dd => k_is)
    (case z0 => k_is)
    (case z1 => k_is)
    (case z2 => k_is)
    (case z3 => k_is)
    (case z4 => k_is)
    (case z5 => k_is)
    (case z6 => k_is)
    (case z7 => k_is)
    (case z8 => k_is)
    (case z9 => k_is)
    (case z10 => k_is)
    (case z11 => k_is)
    (case z12 => k_is)
    (case z13 => k_is)
