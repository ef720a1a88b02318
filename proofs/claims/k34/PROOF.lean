import PyProof.Rows.All
import Wide.All
import OpenK.AllK
import Wide.FinOn
import HandS.ForMost
import HandS.Walk
import HandS.ListEq
import HandS.Flow
import HandS.Wide
import HandS.IsInst
import HandS.Style
import HandS.Iter
import HandS.SortInts
import HandS.Rev
import HandS.SortRule
import HandS.SetBool
import KE.KItemsList
import HandS.More
import HandS.Codes
import HandS.StrSplit
import HandS.Text
import HandS.TryOnly
import KE.IntTextLaws
import HandS.ExcInit
import HandS.ExcField
import HandS.ExcIs
import HandS.ExcOwn
import HandS.Nested
import KE.KExcSuper
import HandS.WordsExc
import KE.KExcIs
import PyProof.StrOps2
import HandS.Deep
import HandS.CallLocal
import PySem.Challenge.RW_fewestlines_k34_plans_written_and_read
set_option Elab.async false
set_option linter.all false
set_option maxRecDepth 100000
set_option maxHeartbeats 4000000
set_option exponentiation.threshold 2000
namespace C
open PySem PySem.Spec PyProof.Rows L2

/-! pure values -/
inductive MV where
  | non | bl (b : Bool) | int (i : Int) | str (x : Str)
  | tup (xs : List MV) | lst (xs : List MV) | obj (c : Nat) (xs : List MV)
  /-- a def -/
  | fn (k : Nat)
  /-- a dict -/
  | dct (ks : List Key) (ms : List MV)
/-! what stands at a place: a frozen value, an owned list, an owned object, an owned dict -/
inductive OV where
  | fro (m : MV) | lst (ms : List MV) | obj (c : Nat) (os : List OV) | dct (kvs : List (Key × MV))
  /-- the script -/
  | scr (ms : List MV)
  /-- a list of owned things -/
  | nst (os : List OV)
  /-- what stood here has been moved -/
  | hol

/-! the classes' fields -/
def fnT : List Str := ((["error", "count", "_points", "_tops", "_bottoms", "_flat", "_steep", "pieces", "reasons", "marks", "stored", "_levels", "entries", "index", "moves", "edits", "capacity", "_buffer", "_runs", "length", "_closed", "_start", "_fitter", "reaches", "prices", "corrections", "bits", "_index", "_lists", "lines", "at", "store", "base", "journal", "synced", "_serial", "_values", "line"] : List String).map Str.ofString)
def fn (i : Nat) : Str := fnT.getD i Str.empty
theorem fnT_nd : fnT.Nodup := by decide +kernel
/-- 0 Fitter, 1 Cutting, 2 FlatCutting, 3 SpanCutting, 4 Level, 5 Index, 6 Run, 7 Store, 8 Coded, 9 Plan, 10 Outline, 11 Stream, 12 Boxes, 13 View, 14 Cursor, 15 StoreReader, 16 Durable, 17 PlainStore -/
def fsT : List (List Nat) := [[0, 1, 2, 3, 4, 5, 6], [7, 8], [7, 8], [7, 8], [9, 0, 7], [10, 11], [12, 13], [14, 15, 16, 0, 17, 18], [7, 25], [7, 23, 24], [0, 19, 7], [0, 19, 20, 21, 22], [26, 27], [15, 17, 18], [28], [29, 30], [31, 32, 33, 34, 35], [36]]
def fsOf (c : Nat) : List Nat := fsT.getD c []
def ixOf : List Nat → Nat → Option Nat
  | [], _ => none
  | g :: r, f => if g = f then some 0 else (ixOf r f).map (· + 1)
def nf (c : Nat) (vs : List V) : List (Str × V) := ((fsOf c).map fn).zip vs

theorem fn_inj {i j : Nat} (hi : i < 38) (hj : j < 38) (h : fn i = fn j) : i = j := by
  have hl : fnT.length = 38 := by decide +kernel
  unfold fn at h
  rw [List.getD_eq_getElem?_getD, List.getD_eq_getElem?_getD, List.getElem?_eq_getElem (by omega), List.getElem?_eq_getElem (by omega)] at h
  simp only [Option.getD_some] at h
  exact (List.getElem_inj fnT_nd).mp h
theorem fs_lt (c : Nat) : ∀ f ∈ fsOf c, f < 38 := by
  have : ∀ l ∈ fsT, ∀ f ∈ l, f < 38 := by decide
  intro f hf
  unfold fsOf at hf
  by_cases h : c < fsT.length
  · rw [List.getD_eq_getElem?_getD, List.getElem?_eq_getElem h] at hf
    exact this _ (List.getElem_mem h) f hf
  · rw [List.getD_eq_getElem?_getD, List.getElem?_eq_none (by omega)] at hf
    simp at hf
theorem ixOf_lt : ∀ {l : List Nat} {f k : Nat}, ixOf l f = some k → k < l.length
  | [], _, _, h => by simp [ixOf] at h
  | g :: r, f, k, h => by
    unfold ixOf at h
    split at h
    · cases h; simp
    · cases e : ixOf r f with
      | none => rw [e] at h; cases h
      | some j => rw [e] at h; cases h; have := ixOf_lt e; simp; omega
theorem look_zip {f : Nat} (hf : f < 38) : ∀ (l : List Nat) (vs : List V), (∀ g ∈ l, g < 38) → ((l.map fn).zip vs).lookup (fn f) = (ixOf l f).bind (vs[·]?)
  | [], vs, _ => by simp [ixOf]
  | g :: r, [], _ => by
    simp only [List.map_cons, List.zip_nil_right, List.lookup_nil]
    cases ixOf (g :: r) f <;> simp
  | g :: r, v :: vs, hl => by
    have ih := look_zip hf r vs fun x hx => hl x (List.mem_cons_of_mem _ hx)
    simp only [List.map_cons, List.zip_cons_cons, List.lookup_cons]
    unfold ixOf
    by_cases e : g = f
    · subst e; simp
    · have : (fn f == fn g) = false := beq_eq_false_iff_ne.mpr fun q => e (fn_inj (hl g List.mem_cons_self) hf q.symm)
      rw [this, if_neg e, ih]
      cases ixOf r f <;> simp
theorem put_zip {f : Nat} (hf : f < 38) {v : V} : ∀ (l : List Nat) (vs : List V) (k : Nat), (∀ g ∈ l, g < 38) → ixOf l f = some k → k < vs.length → putF (fn f) v ((l.map fn).zip vs) = (l.map fn).zip (vs.set k v)
  | [], _, _, _, h, _ => by simp [ixOf] at h
  | g :: r, [], _, _, _, h => by simp at h
  | g :: r, x :: vs, k, hl, h, hk => by
    unfold ixOf at h
    by_cases e : g = f
    · subst e
      rw [if_pos rfl] at h; cases h
      simp [putF]
    · rw [if_neg e] at h
      cases q : ixOf r f with
      | none => rw [q] at h; cases h
      | some j =>
        rw [q] at h; cases h
        have ih := put_zip hf (v := v) r vs j (fun x hx => hl x (List.mem_cons_of_mem _ hx)) q (by simpa using hk)
        have ne : ¬ fn g = fn f := fun z => e (fn_inj (hl g List.mem_cons_self) hf z)
        simp only [List.map_cons, List.zip_cons_cons, putF, if_neg ne, List.set_cons_succ, ih]
theorem put_new {f : Nat} (hf : f < 38) {v : V} : ∀ (l : List Nat) (vs : List V), (∀ g ∈ l, g < 38) → ixOf l f = some vs.length → putF (fn f) v ((l.map fn).zip vs) = (l.map fn).zip (vs ++ [v])
  | [], _, _, h => by simp [ixOf] at h
  | g :: r, [], hl, h => by
    unfold ixOf at h
    by_cases e : g = f
    · subst e; simp [putF]
    · rw [if_neg e] at h
      cases q : ixOf r f with
      | none => rw [q] at h; cases h
      | some j => rw [q] at h; simp at h
  | g :: r, x :: vs, hl, h => by
    unfold ixOf at h
    by_cases e : g = f
    · rw [if_pos e] at h; simp at h
    · rw [if_neg e] at h
      cases q : ixOf r f with
      | none => rw [q] at h; cases h
      | some j =>
        rw [q] at h
        have hj : j = vs.length := by simpa using h
        have ih := put_new hf (v := v) r vs (fun x hx => hl x (List.mem_cons_of_mem _ hx)) (by rw [q, hj])
        have ne : ¬ fn g = fn f := fun z => e (fn_inj (hl g List.mem_cons_self) hf z)
        simp only [List.map_cons, List.zip_cons_cons, putF, if_neg ne, List.cons_append, ih]

def COk (K : PySem.W.Frag) (cl : Nat → Addr) (c n : Nat) : Prop := n ≤ (fsOf c).length ∧ Cls K (cl c) ∧ ∀ f ∈ fsOf c, NoAttr K (cl c) (fn f)
section
variable (K : PySem.W.Frag) (cl : Nat → Addr)
/-! a frozen value in a heap -/
mutual
def Rep (G : Hp) : MV → V → Prop
  | .non, v => v = .non
  | .bl b, v => v = .bl b
  | .int i, v => v = .int i
  | .str x, v => v = .str x
  | .fn k, v => v = .ref (cl k)
  | .dct ks ms, v => ∃ a vs, v = .ref a ∧ G a = some (.dK vs) ∧ vs.map (·.1) = ks ∧ Reps G ms (vs.map (·.2))
  | .tup ms, v => ∃ a vs, v = .ref a ∧ SqT K G a vs ∧ Reps G ms vs
  | .lst ms, v => ∃ a vs, v = .ref a ∧ G a = some (.lst vs) ∧ Reps G ms vs
  | .obj c ms, v => ∃ a dx vs, v = .ref a ∧ G a = some (.ins (cl c) dx (nf c vs)) ∧ COk K cl c vs.length ∧ Reps G ms vs
def Reps (G : Hp) : List MV → List V → Prop
  | [], vs => vs = []
  | m :: ms, vs => ∃ v ws, vs = v :: ws ∧ Rep G m v ∧ Reps G ms ws
end
/-! a place that is read -/
mutual
def RepB (H G : Hp) : OV → V → Prop
  | .fro m, v => Rep K cl G m v
  | .lst ms, v => ∃ a vs, v = .ref a ∧ H a = some (.lst vs) ∧ Reps K cl G ms vs
  | .scr ms, v => ∃ a vs, v = .ref a ∧ SqL K H a vs ∧ Reps K cl G ms vs
  | .nst os, v => ∃ a vs, v = .ref a ∧ H a = some (.lst vs) ∧ RepBs H G os vs
  | .hol, v => ∃ a, v = .ref a
  | .dct kvs, v => ∃ a vs, v = .ref a ∧ H a = some (.dK vs) ∧ vs.map (·.1) = kvs.map (·.1) ∧ Reps K cl G (kvs.map (·.2)) (vs.map (·.2))
  | .obj c os, v => ∃ a dx vs, v = .ref a ∧ H a = some (.ins (cl c) dx (nf c vs)) ∧ COk K cl c vs.length ∧ RepBs H G os vs
def RepBs (H G : Hp) : List OV → List V → Prop
  | [], vs => vs = []
  | o :: os, vs => ∃ v ws, vs = v :: ws ∧ RepB H G o v ∧ RepBs H G os ws
end
/-! a place that is owned: its footprint fp -/
mutual
def RepO (H G : Hp) : OV → V → List Addr → Prop
  | .fro m, v, fp => fp = [] ∧ Rep K cl G m v
  | .scr ms, v, fp => False
  | .nst os, v, fp => ∃ a vs fq, v = .ref a ∧ fp = a :: fq ∧ H a = some (.lst vs) ∧ RepOs H G os vs fq ∧ a ∉ fq
  | .hol, v, fp => fp = [] ∧ ∃ a, v = .ref a
  | .lst ms, v, fp => ∃ a vs, v = .ref a ∧ fp = [a] ∧ H a = some (.lst vs) ∧ Reps K cl G ms vs
  | .dct kvs, v, fp => ∃ a vs, v = .ref a ∧ fp = [a] ∧ H a = some (.dK vs) ∧ vs.map (·.1) = kvs.map (·.1) ∧ Reps K cl G (kvs.map (·.2)) (vs.map (·.2))
  | .obj c os, v, fp => ∃ a dx vs fq, v = .ref a ∧ fp = a :: fq ∧ H a = some (.ins (cl c) dx (nf c vs)) ∧ COk K cl c vs.length ∧ RepOs H G os vs fq ∧ a ∉ fq
def RepOs (H G : Hp) : List OV → List V → List Addr → Prop
  | [], vs, fp => vs = [] ∧ fp = []
  | o :: os, vs, fp => ∃ v ws f1 f2, vs = v :: ws ∧ fp = f1 ++ f2 ∧ RepO H G o v f1 ∧ RepOs H G os ws f2 ∧ ∀ b ∈ f1, b ∉ f2
end
end

section
variable {K : PySem.W.Frag} {cl : Nat → Addr} {H H' G G' : Hp}
theorem sqT_same {a : Addr} {xs : List V} (e : Same G G') (h : SqT K G a xs) : SqT K G' a xs := by
  rcases h with (h | ⟨o, h⟩) | h
  · exact .inl (.inl (e _ _ h))
  · exact .inl (.inr ⟨o, e _ _ h⟩)
  · exact .inr h
mutual
theorem Rep.same (e : Same G G') : ∀ (m : MV) (v : V), Rep K cl G m v → Rep K cl G' m v
  | .non, _, h => h
  | .bl _, _, h => h
  | .int _, _, h => h
  | .str _, _, h => h
  | .fn _, _, h => h
  | .dct ks ms, v, h => by
    unfold Rep at h ⊢
    obtain ⟨a, vs, h1, h2, h4, h3⟩ := h
    exact ⟨a, vs, h1, e _ _ h2, h4, Reps.same e ms _ h3⟩
  | .tup ms, v, h => by
    unfold Rep at h ⊢
    obtain ⟨a, vs, h1, h2, h3⟩ := h
    exact ⟨a, vs, h1, sqT_same e h2, Reps.same e ms vs h3⟩
  | .lst ms, v, h => by
    unfold Rep at h ⊢
    obtain ⟨a, vs, h1, h2, h3⟩ := h
    exact ⟨a, vs, h1, e _ _ h2, Reps.same e ms vs h3⟩
  | .obj c ms, v, h => by
    unfold Rep at h ⊢
    obtain ⟨a, dx, vs, h1, h2, h4, h3⟩ := h
    exact ⟨a, dx, vs, h1, e _ _ h2, h4, Reps.same e ms vs h3⟩
theorem Reps.same (e : Same G G') : ∀ (ms : List MV) (vs : List V), Reps K cl G ms vs → Reps K cl G' ms vs
  | [], _, h => h
  | m :: ms, vs, h => by
    unfold Reps at h ⊢
    obtain ⟨v, ws, h1, h2, h3⟩ := h
    exact ⟨v, ws, h1, Rep.same e m v h2, Reps.same e ms ws h3⟩
end
mutual
theorem RepB.same (e : Same H H') (g : Same G G') : ∀ (o : OV) (v : V), RepB K cl H G o v → RepB K cl H' G' o v
  | .fro m, v, h => by
    unfold RepB at h ⊢
    exact Rep.same g m v h
  | .lst ms, v, h => by
    unfold RepB at h ⊢
    obtain ⟨a, vs, h1, h2, h3⟩ := h
    exact ⟨a, vs, h1, e _ _ h2, Reps.same g ms vs h3⟩
  | .scr ms, v, h => by
    unfold RepB at h ⊢
    obtain ⟨a, vs, h1, h2, h3⟩ := h
    exact ⟨a, vs, h1, e.seq h2, Reps.same g ms vs h3⟩
  | .nst os, v, h => by
    unfold RepB at h ⊢
    obtain ⟨a, vs, h1, h2, h3⟩ := h
    exact ⟨a, vs, h1, e _ _ h2, RepBs.same e g os vs h3⟩
  | .hol, v, h => by
    unfold RepB at h ⊢
    exact h
  | .dct kvs, v, h => by
    unfold RepB at h ⊢
    obtain ⟨a, vs, h1, h2, h4, h3⟩ := h
    exact ⟨a, vs, h1, e _ _ h2, h4, Reps.same g _ _ h3⟩
  | .obj c os, v, h => by
    unfold RepB at h ⊢
    obtain ⟨a, dx, vs, h1, h2, h4, h3⟩ := h
    exact ⟨a, dx, vs, h1, e _ _ h2, h4, RepBs.same e g os vs h3⟩
theorem RepBs.same (e : Same H H') (g : Same G G') : ∀ (os : List OV) (vs : List V), RepBs K cl H G os vs → RepBs K cl H' G' os vs
  | [], _, h => by
    unfold RepBs at h ⊢
    exact h
  | o :: os, vs, h => by
    unfold RepBs at h ⊢
    obtain ⟨v, ws, h1, h2, h3⟩ := h
    exact ⟨v, ws, h1, RepB.same e g o v h2, RepBs.same e g os ws h3⟩
end
mutual
theorem RepO.b : ∀ (o : OV) (v : V) (fp : List Addr), RepO K cl H G o v fp → RepB K cl H G o v
  | .fro m, v, fp, h => by
    unfold RepO at h; unfold RepB
    exact h.2
  | .lst ms, v, fp, h => by
    unfold RepO at h; unfold RepB
    obtain ⟨a, vs, h1, _, h2, h3⟩ := h
    exact ⟨a, vs, h1, h2, h3⟩
  | .scr ms, v, fp, h => by
    unfold RepO at h
    exact h.elim
  | .nst os, v, fp, h => by
    unfold RepO at h; unfold RepB
    obtain ⟨a, vs, fq, h1, _, h2, h3, _⟩ := h
    exact ⟨a, vs, h1, h2, RepOs.b os vs fq h3⟩
  | .hol, v, fp, h => by
    unfold RepO at h; unfold RepB
    exact h.2
  | .dct kvs, v, fp, h => by
    unfold RepO at h; unfold RepB
    obtain ⟨a, vs, h1, _, h2, h4, h3⟩ := h
    exact ⟨a, vs, h1, h2, h4, h3⟩
  | .obj c os, v, fp, h => by
    unfold RepO at h; unfold RepB
    obtain ⟨a, dx, vs, fq, h1, _, h2, h4, h3, _⟩ := h
    exact ⟨a, dx, vs, h1, h2, h4, RepOs.b os vs fq h3⟩
theorem RepOs.b : ∀ (os : List OV) (vs : List V) (fp : List Addr), RepOs K cl H G os vs fp → RepBs K cl H G os vs
  | [], vs, fp, h => by
    unfold RepOs at h; unfold RepBs
    exact h.1
  | o :: os, vs, fp, h => by
    unfold RepOs at h; unfold RepBs
    obtain ⟨v, ws, f1, f2, h1, _, h2, h3, _⟩ := h
    exact ⟨v, ws, h1, RepO.b o v f1 h2, RepOs.b os ws f2 h3⟩
end
/-! the heap matters at the footprint alone -/
mutual
theorem RepO.frame (g : Same G G') : ∀ (o : OV) (v : V) (fp : List Addr), (∀ b ∈ fp, ∀ u, H b = some u → H' b = some u) → RepO K cl H G o v fp → RepO K cl H' G' o v fp
  | .scr ms, v, fp, e, h => by
    unfold RepO at h
    exact h.elim
  | .fro m, v, fp, e, h => by
    unfold RepO at h ⊢
    exact ⟨h.1, Rep.same g m v h.2⟩
  | .lst ms, v, fp, e, h => by
    unfold RepO at h ⊢
    obtain ⟨a, vs, h1, h5, h2, h3⟩ := h
    subst h5
    exact ⟨a, vs, h1, rfl, e a (by simp) _ h2, Reps.same g ms vs h3⟩
  | .nst os, v, fp, e, h => by
    unfold RepO at h ⊢
    obtain ⟨a, vs, fq, h1, h5, h2, h3, h6⟩ := h
    subst h5
    exact ⟨a, vs, fq, h1, rfl, e a (by simp) _ h2, RepOs.frame g os vs fq (fun b hb => e b (List.mem_cons_of_mem _ hb)) h3, h6⟩
  | .hol, v, fp, e, h => by
    unfold RepO at h ⊢
    exact h
  | .dct kvs, v, fp, e, h => by
    unfold RepO at h ⊢
    obtain ⟨a, vs, h1, h5, h2, h4, h3⟩ := h
    subst h5
    exact ⟨a, vs, h1, rfl, e a (by simp) _ h2, h4, Reps.same g _ _ h3⟩
  | .obj c os, v, fp, e, h => by
    unfold RepO at h ⊢
    obtain ⟨a, dx, vs, fq, h1, h5, h2, h4, h3, h6⟩ := h
    subst h5
    exact ⟨a, dx, vs, fq, h1, rfl, e a (by simp) _ h2, h4, RepOs.frame g os vs fq (fun b hb => e b (List.mem_cons_of_mem _ hb)) h3, h6⟩
theorem RepOs.frame (g : Same G G') : ∀ (os : List OV) (vs : List V) (fp : List Addr), (∀ b ∈ fp, ∀ u, H b = some u → H' b = some u) → RepOs K cl H G os vs fp → RepOs K cl H' G' os vs fp
  | [], vs, fp, e, h => by
    unfold RepOs at h ⊢
    exact h
  | o :: os, vs, fp, e, h => by
    unfold RepOs at h ⊢
    obtain ⟨v, ws, f1, f2, h1, h5, h2, h3, h4⟩ := h
    subst h5
    exact ⟨v, ws, f1, f2, h1, rfl, RepO.frame g o v f1 (fun b hb => e b (List.mem_append_left _ hb)) h2, RepOs.frame g os ws f2 (fun b hb => e b (List.mem_append_right _ hb)) h3, h4⟩
end
/-! what is owned is tracked -/
mutual
theorem RepO.there : ∀ (o : OV) (v : V) (fp : List Addr), RepO K cl H G o v fp → ∀ b ∈ fp, H b ≠ none
  | .scr ms, v, fp, h => by
    unfold RepO at h
    exact h.elim
  | .fro m, v, fp, h => by
    unfold RepO at h
    rw [h.1]; simp
  | .lst ms, v, fp, h => by
    unfold RepO at h
    obtain ⟨a, vs, h1, h5, h2, h3⟩ := h
    subst h5
    simp [h2]
  | .nst os, v, fp, h => by
    unfold RepO at h
    obtain ⟨a, vs, fq, h1, h5, h2, h3, h6⟩ := h
    subst h5
    intro b hb
    rcases List.mem_cons.mp hb with rfl | hb
    · rw [h2]; simp
    · exact RepOs.there os vs fq h3 b hb
  | .hol, v, fp, h => by
    unfold RepO at h
    rw [h.1]; simp
  | .dct kvs, v, fp, h => by
    unfold RepO at h
    obtain ⟨a, vs, h1, h5, h2, h4, h3⟩ := h
    subst h5
    simp [h2]
  | .obj c os, v, fp, h => by
    unfold RepO at h
    obtain ⟨a, dx, vs, fq, h1, h5, h2, h4, h3, h6⟩ := h
    subst h5
    intro b hb
    rcases List.mem_cons.mp hb with rfl | hb
    · rw [h2]; simp
    · exact RepOs.there os vs fq h3 b hb
theorem RepOs.there : ∀ (os : List OV) (vs : List V) (fp : List Addr), RepOs K cl H G os vs fp → ∀ b ∈ fp, H b ≠ none
  | [], vs, fp, h => by
    unfold RepOs at h
    rw [h.2]; simp
  | o :: os, vs, fp, h => by
    unfold RepOs at h
    obtain ⟨v, ws, f1, f2, h1, h5, h2, h3, h4⟩ := h
    subst h5
    intro b hb
    rcases List.mem_append.mp hb with hb | hb
    · exact RepO.there o v f1 h2 b hb
    · exact RepOs.there os ws f2 h3 b hb
end
theorem Reps.len : ∀ (ms : List MV) (vs : List V), Reps K cl G ms vs → vs.length = ms.length
  | [], vs, h => by unfold Reps at h; rw [h]; rfl
  | m :: ms, vs, h => by
    unfold Reps at h
    obtain ⟨v, ws, h1, _, h3⟩ := h
    rw [h1, List.length_cons, List.length_cons, Reps.len ms ws h3]
theorem Reps.get : ∀ (ms : List MV) (vs : List V) (i : Nat) (m : MV), Reps K cl G ms vs → ms[i]? = some m → ∃ v, vs[i]? = some v ∧ Rep K cl G m v
  | [], _, _, _, _, e => by simp at e
  | m :: ms, vs, 0, x, h, e => by
    unfold Reps at h
    obtain ⟨v, ws, h1, h2, _⟩ := h
    simp at e; subst e
    exact ⟨v, by simp [h1], h2⟩
  | m :: ms, vs, i + 1, x, h, e => by
    unfold Reps at h
    obtain ⟨v, ws, h1, _, h3⟩ := h
    obtain ⟨w, q1, q2⟩ := Reps.get ms ws i x h3 (by simpa using e)
    exact ⟨w, by simpa [h1] using q1, q2⟩
theorem Reps.app : ∀ (ms ns : List MV) (vs ws : List V), Reps K cl G ms vs → Reps K cl G ns ws → Reps K cl G (ms ++ ns) (vs ++ ws)
  | [], ns, vs, ws, h, h' => by unfold Reps at h; rw [h]; exact h'
  | m :: ms, ns, vs, ws, h, h' => by
    unfold Reps at h
    obtain ⟨v, us, h1, h2, h3⟩ := h
    subst h1
    show Reps K cl G (m :: (ms ++ ns)) (v :: (us ++ ws))
    unfold Reps
    exact ⟨v, us ++ ws, rfl, h2, Reps.app ms ns us ws h3 h'⟩
theorem Reps.one {m : MV} {v : V} (h : Rep K cl G m v) : Reps K cl G [m] [v] := by
  unfold Reps
  exact ⟨v, [], rfl, h, by unfold Reps; rfl⟩
theorem Reps.nil : Reps K cl G [] [] := by unfold Reps; rfl
theorem Reps.cons {m : MV} {v : V} {ms : List MV} {vs : List V} (h : Rep K cl G m v) (h' : Reps K cl G ms vs) : Reps K cl G (m :: ms) (v :: vs) := by
  unfold Reps
  exact ⟨v, vs, rfl, h, h'⟩
theorem Reps.drop : ∀ (n : Nat) (ms : List MV) (vs : List V), Reps K cl G ms vs → Reps K cl G (ms.drop n) (vs.drop n)
  | 0, ms, vs, h => h
  | n + 1, [], vs, h => by unfold Reps at h; rw [h]; exact Reps.nil
  | n + 1, m :: ms, vs, h => by
    unfold Reps at h
    obtain ⟨v, us, h1, h2, h3⟩ := h
    subst h1
    exact Reps.drop n ms us h3
theorem Reps.take : ∀ (n : Nat) (ms : List MV) (vs : List V), Reps K cl G ms vs → Reps K cl G (ms.take n) (vs.take n)
  | 0, ms, vs, h => Reps.nil
  | n + 1, [], vs, h => by unfold Reps at h; rw [h]; exact Reps.nil
  | n + 1, m :: ms, vs, h => by
    unfold Reps at h
    obtain ⟨v, us, h1, h2, h3⟩ := h
    subst h1
    exact Reps.cons h2 (Reps.take n ms us h3)
theorem Reps.set : ∀ (i : Nat) (ms : List MV) (vs : List V) (m : MV) (v : V), Reps K cl G ms vs → Rep K cl G m v → Reps K cl G (ms.set i m) (vs.set i v)
  | _, [], vs, _, _, h, _ => by unfold Reps at h; rw [h]; exact Reps.nil
  | 0, x :: ms, vs, m, v, h, h' => by
    unfold Reps at h
    obtain ⟨u, us, h1, h2, h3⟩ := h
    subst h1
    exact Reps.cons h' h3
  | i + 1, x :: ms, vs, m, v, h, h' => by
    unfold Reps at h
    obtain ⟨u, us, h1, h2, h3⟩ := h
    subst h1
    exact Reps.cons h2 (Reps.set i ms us m v h3 h')
theorem Reps.rev : ∀ (ms : List MV) (vs : List V), Reps K cl G ms vs → Reps K cl G ms.reverse vs.reverse
  | [], vs, h => by unfold Reps at h; rw [h]; exact Reps.nil
  | m :: ms, vs, h => by
    unfold Reps at h
    obtain ⟨v, us, h1, h2, h3⟩ := h
    subst h1
    rw [List.reverse_cons, List.reverse_cons]
    exact Reps.app _ _ _ _ (Reps.rev ms us h3) (Reps.one h2)
end
end C
namespace C
open PySem PySem.Spec PyProof.Rows L2

/-- where the def (or the block) began: heap, frozen part, what may be written, the slots -/
structure Bs where
  H : Hp
  G : Hp
  F : Addr → Prop
  σ : L2.St
inductive Slot where
  | un | ow (o : OV) | rf (o : OV) | bo (o : OV)
abbrev Env := List Slot

section
variable (K : PySem.W.Frag) (cl : Nat → Addr)
def SRep (β : Bs) (H G : Hp) (i : Nat) (sv : Option V) : Slot → List Addr → Prop
  | .un, fp => fp = []
  | .ow o, fp => ∃ v, sv = some v ∧ RepO K cl H G o v fp
  | .rf o, fp => ∃ v, sv = some v ∧ β.σ[i]? = some (some v) ∧ RepO K cl H G o v fp
  | .bo o, fp => fp = [] ∧ ∃ v, sv = some v ∧ β.σ[i]? = some (some v) ∧ ∃ Hb : Hp, (∀ b u, Hb b = some u → β.H b = some u ∧ ¬ β.F b) ∧ RepB K cl Hb β.G o v
/-- the state: X is what is owned besides -/
structure R (β : Bs) (σ : L2.St) (H G : Hp) (env : Env) (X : List Addr) : Prop where
  len : env.length = σ.length
  g0 : Same β.G G
  gh : Same G H
  hk : ∀ b u, β.H b = some u → ¬ β.F b → H b = some u
  gk : ∀ b, β.H b ≠ none → ¬ β.F b → β.G b = none → G b = none
  sl : ∃ fp : Nat → List Addr, (∀ i s, env[i]? = some s → SRep K cl β H G i (σ.getD i none) s (fp i)) ∧ (∀ i b, i < env.length → b ∈ fp i → G b = none ∧ (β.H b = none ∨ β.F b)) ∧
    (∀ i j b, i < env.length → j < env.length → b ∈ fp i → b ∈ fp j → i = j) ∧ (∀ b ∈ X, H b ≠ none ∧ G b = none ∧ (β.H b = none ∨ β.F b) ∧ ∀ i, i < env.length → b ∉ fp i)
end
/-- only new things -/
structure Ext (H G H' G' : Hp) : Prop where
  hh : Same H H'
  gg : Same G G'
  gh : Same G' H'
  gn : ∀ b, H b ≠ none → G b = none → G' b = none
theorem Ext.refl {H G : Hp} (h : Same G H) : Ext H G H G := ⟨Same.refl _, Same.refl _, h, fun _ _ q => q⟩
theorem Ext.trans {H G H1 G1 H2 G2 : Hp} (a : Ext H G H1 G1) (b : Ext H1 G1 H2 G2) : Ext H G H2 G2 :=
  ⟨a.hh.trans b.hh, a.gg.trans b.gg, b.gh, fun c h q => b.gn c (by
    cases e : H c with
    | none => exact absurd e h
    | some u => rw [a.hh c u e]; simp) (a.gn c h q)⟩
theorem same_upd {H : Hp} {p : Addr} {o : HO} (h : H p = none) : Same H (upd H p o) := fun b u e => by rw [upd_ne (ne_of_none e h)]; exact e
/-- a new frozen object -/
theorem Ext.new {H G : Hp} {p : Addr} {o : HO} (g : Same G H) (h : H p = none) : Ext H G (upd H p o) (upd G p o) := by
  refine ⟨same_upd h, same_upd (g.free h), fun b u e => ?_, fun b hb q => ?_⟩
  · by_cases z : b = p
    · subst z; rw [upd_same] at e ⊢; exact e
    · rw [upd_ne z] at e ⊢; exact g b u e
  · have z : b ≠ p := fun z => hb (z ▸ h)
    rw [upd_ne z]; exact q
/-- a new object that is not frozen -/
theorem Ext.new0 {H G : Hp} {p : Addr} {o : HO} (g : Same G H) (h : H p = none) : Ext H G (upd H p o) G :=
  ⟨same_upd h, Same.refl _, fun b u e => same_upd h b u (g b u e), fun _ _ q => q⟩

def slotO : Slot → Option OV
  | .un => none
  | .ow o => some o
  | .rf o => some o
  | .bo o => some o
def ownS : Slot → Option OV
  | .ow o => some o
  | .rf o => some o
  | _ => none
def putS : Slot → OV → Slot
  | .ow _, o => .ow o
  | .rf _, o => .rf o
  | s, _ => s
/-- what an item of a list of owned things is called in a path -/
def itO {α : Type} (os : List α) (f : Nat) : Option α := match Nat.blt f 38 with
  | true => none
  | false => os[f - 38]?
theorem itO_out {α : Type} {os : List α} {f : Nat} {o : α} (h : itO os f = some o) : 38 ≤ f ∧ os[f - 38]? = some o := by
  unfold itO at h
  cases e : Nat.blt f 38 with
  | true => rw [e] at h; cases h
  | false =>
    rw [e] at h
    refine ⟨?_, h⟩
    by_cases q : 38 ≤ f
    · exact q
    · have : Nat.blt f 38 = true := Nat.ble_eq_true_of_le (by omega)
      rw [this] at e; cases e
def getO : OV → List Nat → Option OV
  | o, [] => some o
  | .obj c os, f :: p => match ixOf (fsOf c) f with
    | some k => match os[k]? with
      | some o => getO o p
      | none => none
    | none => none
  | .fro (.obj c ms), f :: p => match ixOf (fsOf c) f with
    | some k => match ms[k]? with
      | some m => getO (.fro m) p
      | none => none
    | none => none
  | .nst os, f :: p => match itO os f with
    | some o => getO o p
    | none => none
  | _, _ :: _ => none
/-- through owned objects alone -/
def ownO : OV → List Nat → Option OV
  | o, [] => some o
  | .obj c os, f :: p => match ixOf (fsOf c) f with
    | some k => match os[k]? with
      | some o => ownO o p
      | none => none
    | none => none
  | .nst os, f :: p => match itO os f with
    | some o => ownO o p
    | none => none
  | _, _ :: _ => none
def setO : OV → List Nat → OV → OV
  | _, [], x => x
  | .obj c os, f :: p, x => match ixOf (fsOf c) f with
    | some k => match os[k]? with
      | some o => .obj c (os.set k (setO o p x))
      | none => .obj c os
    | none => .obj c os
  | .nst os, f :: p, x => match itO os f with
    | some o => .nst (os.set (f - 38) (setO o p x))
    | none => .nst os
  | o, _ :: _, _ => o
def PAt (K : PySem.W.Frag) (H : Hp) : V → List Nat → V → Prop
  | v, [], w => v = w
  | v, f :: p, w => (f < 38 ∧ ∃ a C dx fs u, v = .ref a ∧ H a = some (.ins C dx fs) ∧ (Cls K C ∧ NoAttr K C (fn f)) ∧ fs.lookup (fn f) = some u ∧ PAt K H u p w) ∨
    (38 ≤ f ∧ ∃ a xs u, v = .ref a ∧ H a = some (.lst xs) ∧ xs[f - 38]? = some u ∧ PAt K H u p w)
theorem ixOf_mem : ∀ {l : List Nat} {f k : Nat}, ixOf l f = some k → f ∈ l
  | [], _, _, h => by simp [ixOf] at h
  | g :: r, f, k, h => by
    unfold ixOf at h
    split at h
    · rename_i e; subst e; exact List.mem_cons_self
    · cases e : ixOf r f with
      | none => rw [e] at h; cases h
      | some j => exact List.mem_cons_of_mem _ (ixOf_mem e)
theorem COk.at {K : PySem.W.Frag} {cl : Nat → Addr} {c n f k : Nat} (h : COk K cl c n) (e : ixOf (fsOf c) f = some k) : Cls K (cl c) ∧ NoAttr K (cl c) (fn f) := ⟨h.2.1, h.2.2 f (ixOf_mem e)⟩

section
variable {K : PySem.W.Frag} {cl : Nat → Addr} {H H' G G' : Hp} {β : Bs} {σ : L2.St} {env : Env} {X : List Addr}
theorem PAt.uniq : ∀ {p : List Nat} {v w w' : V}, PAt K H v p w → PAt K H v p w' → w = w'
  | [], _, _, _, h, h' => h.symm.trans h'
  | f :: p, v, w, w', .inl ⟨_, a, C, dx, fs, u, h1, h2, _, h3, h4⟩, .inl ⟨_, a', C', dx', fs', u', g1, g2, _, g3, g4⟩ => by
    rw [h1] at g1; cases g1
    rw [h2] at g2; cases g2
    rw [h3] at g3; cases g3
    exact PAt.uniq h4 g4
  | f :: p, v, w, w', .inr ⟨_, a, xs, u, h1, h2, h3, h4⟩, .inr ⟨_, a', xs', u', g1, g2, g3, g4⟩ => by
    rw [h1] at g1; cases g1
    rw [h2] at g2; cases g2
    rw [h3] at g3; cases g3
    exact PAt.uniq h4 g4
  | f :: p, v, w, w', .inl ⟨y, _⟩, .inr ⟨y', _⟩ => absurd y (by omega)
  | f :: p, v, w, w', .inr ⟨y', _⟩, .inl ⟨y, _⟩ => absurd y (by omega)
theorem RepBs.get : ∀ {os : List OV} {vs : List V} {i : Nat} {o : OV}, RepBs K cl H G os vs → os[i]? = some o → ∃ v, vs[i]? = some v ∧ RepB K cl H G o v
  | [], _, _, _, _, e => by simp at e
  | o :: os, vs, 0, x, h, e => by
    unfold RepBs at h
    obtain ⟨v, ws, h1, h2, _⟩ := h
    simp at e; subst e
    exact ⟨v, by simp [h1], h2⟩
  | o :: os, vs, i + 1, x, h, e => by
    unfold RepBs at h
    obtain ⟨v, ws, h1, _, h3⟩ := h
    obtain ⟨w, q1, q2⟩ := RepBs.get (i := i) h3 (by simpa using e)
    exact ⟨w, by simpa [h1] using q1, q2⟩
theorem ix_lt {c f k : Nat} (h : ixOf (fsOf c) f = some k) : f < 38 := fs_lt c f (ixOf_mem h)
theorem nf_look {c f k : Nat} {vs : List V} {u : V} (h : ixOf (fsOf c) f = some k) (e : vs[k]? = some u) : (nf c vs).lookup (fn f) = some u := by
  unfold nf
  rw [look_zip (ix_lt h) _ _ (fs_lt c), h]
  exact e
theorem RepB.place (g : Same G H) : ∀ {p : List Nat} {o o' : OV} {v : V}, (∀ f ∈ p, f < 60) → RepB K cl H G o v → getO o p = some o' → ∃ w, PAt K H v p w ∧ RepB K cl H G o' w
  | [], o, o', v, _, h, e => by
    cases o <;> (simp [getO] at e; subst e; exact ⟨v, rfl, h⟩)
  | f :: p, .obj c os, o', v, hp, h, e => by
    unfold getO at e
    cases q : ixOf (fsOf c) f with
    | none => rw [q] at e; cases e
    | some k =>
      rw [q] at e
      cases r : os[k]? with
      | none => simp only [r] at e; cases e
      | some o1 =>
        simp only [r] at e
        unfold RepB at h
        obtain ⟨a, dx, vs, h1, h2, h3, h4⟩ := h
        obtain ⟨u, hu, hr⟩ := RepBs.get h4 r
        obtain ⟨w, hw, hb⟩ := RepB.place g (fun x hx => hp x (List.mem_cons_of_mem _ hx)) hr e
        exact ⟨w, .inl ⟨ix_lt q, a, _, dx, _, u, h1, h2, h3.at q, nf_look q hu, hw⟩, hb⟩
  | f :: p, .fro (.obj c ms), o', v, hp, h, e => by
    unfold getO at e
    cases q : ixOf (fsOf c) f with
    | none => rw [q] at e; cases e
    | some k =>
      rw [q] at e
      cases r : ms[k]? with
      | none => simp only [r] at e; cases e
      | some m =>
        simp only [r] at e
        unfold RepB at h
        unfold Rep at h
        obtain ⟨a, dx, vs, h1, h2, h3, h4⟩ := h
        obtain ⟨u, hu, hr⟩ := Reps.get _ _ k m h4 r
        obtain ⟨w, hw, hb⟩ := RepB.place g (o := .fro m) (fun x hx => hp x (List.mem_cons_of_mem _ hx)) (by unfold RepB; exact hr) e
        exact ⟨w, .inl ⟨ix_lt q, a, _, dx, _, u, h1, g _ _ h2, h3.at q, nf_look q hu, hw⟩, hb⟩
  | f :: p, .nst os, o', v, hp, h, e => by
    unfold getO at e
    cases q : itO os f with
    | none => rw [q] at e; cases e
    | some o1 =>
      rw [q] at e
      obtain ⟨q1, q2⟩ := itO_out q
      unfold RepB at h
      obtain ⟨a, vs, h1, h2, h4⟩ := h
      obtain ⟨u, hu, hr⟩ := RepBs.get h4 q2
      obtain ⟨w, hw, hb⟩ := RepB.place g (fun x hx => hp x (List.mem_cons_of_mem _ hx)) hr e
      exact ⟨w, .inr ⟨q1, a, vs, u, h1, h2, hu, hw⟩, hb⟩
  | f :: p, .hol, _, _, _, _, e => by simp [getO] at e
  | f :: p, .lst _, _, _, _, _, e => by simp [getO] at e
  | f :: p, .fro (.fn _), _, _, _, _, e => by simp [getO] at e
  | f :: p, .fro (.dct _ _), _, _, _, _, e => by simp [getO] at e
  | f :: p, .dct _, _, _, _, _, e => by simp [getO] at e
  | f :: p, .scr _, _, _, _, _, e => by simp [getO] at e
  | f :: p, .fro .non, _, _, _, _, e => by simp [getO] at e
  | f :: p, .fro (.bl _), _, _, _, _, e => by simp [getO] at e
  | f :: p, .fro (.int _), _, _, _, _, e => by simp [getO] at e
  | f :: p, .fro (.str _), _, _, _, _, e => by simp [getO] at e
  | f :: p, .fro (.tup _), _, _, _, _, e => by simp [getO] at e
  | f :: p, .fro (.lst _), _, _, _, _, e => by simp [getO] at e

theorem RepOs.get : ∀ {os : List OV} {vs : List V} {fp : List Addr} {k : Nat} {o : OV}, RepOs K cl H G os vs fp → os[k]? = some o →
    ∃ v fk, vs[k]? = some v ∧ RepO K cl H G o v fk ∧ (∀ b ∈ fk, b ∈ fp) ∧
      ∀ (H' G' : Hp) (o' : OV) (fk' : List Addr) (v' : V), Same G G' → (∀ b ∈ fp, b ∉ fk → ∀ u, H b = some u → H' b = some u) → RepO K cl H' G' o' v' fk' → (∀ b ∈ fk', b ∈ fp → b ∈ fk) →
        ∃ fp', RepOs K cl H' G' (os.set k o') (vs.set k v') fp' ∧ ∀ b ∈ fp', b ∈ fk' ∨ (b ∈ fp ∧ b ∉ fk)
  | [], _, _, _, _, _, e => by simp at e
  | o :: os, vs, fp, 0, x, h, e => by
    unfold RepOs at h
    obtain ⟨v, ws, f1, f2, h1, h5, h2, h3, h4⟩ := h
    simp at e; subst e; subst h1; subst h5
    refine ⟨v, f1, by simp, h2, fun b hb => List.mem_append_left _ hb, fun H' G' o' fk' v' g k r d => ?_⟩
    refine ⟨fk' ++ f2, ?_, fun b hb => ?_⟩
    · show RepOs K cl H' G' (o' :: os) (v' :: ws) _
      unfold RepOs
      refine ⟨v', ws, fk', f2, rfl, rfl, r, RepOs.frame g os ws f2 (fun b hb u q => k b (List.mem_append_right _ hb) (fun z => h4 b z hb) u q) h3, fun b hb z => ?_⟩
      exact h4 b (d b hb (List.mem_append_right _ z)) z
    · rcases List.mem_append.mp hb with hb | hb
      · exact .inl hb
      · exact .inr ⟨List.mem_append_right _ hb, fun z => h4 b z hb⟩
  | o :: os, vs, fp, k + 1, x, h, e => by
    unfold RepOs at h
    obtain ⟨v, ws, f1, f2, h1, h5, h2, h3, h4⟩ := h
    subst h1; subst h5
    obtain ⟨u, fk, q1, q2, q3, q4⟩ := RepOs.get (k := k) h3 (by simpa using e)
    refine ⟨u, fk, by simpa using q1, q2, fun b hb => List.mem_append_right _ (q3 b hb), fun H' G' o' fk' v' g kk r d => ?_⟩
    obtain ⟨fp', r1, r2⟩ := q4 H' G' o' fk' v' g (fun b hb hn => kk b (List.mem_append_right _ hb) hn) r fun b hb z => d b hb (List.mem_append_right _ z)
    refine ⟨f1 ++ fp', ?_, fun b hb => ?_⟩
    · show RepOs K cl H' G' (o :: os.set k o') (v :: ws.set k v') _
      unfold RepOs
      refine ⟨v, _, f1, fp', rfl, rfl, RepO.frame g o v f1 (fun b hb u' q => kk b (List.mem_append_left _ hb) (fun z => h4 b hb (q3 b z)) u' q) h2, r1, fun b hb z => ?_⟩
      rcases r2 b z with z | z
      · have := d b z (List.mem_append_left _ hb)
        exact h4 b hb (q3 b this)
      · exact h4 b hb z.1
    · rcases List.mem_append.mp hb with hb | hb
      · exact .inr ⟨List.mem_append_left _ hb, fun z => h4 b hb (q3 b z)⟩
      · rcases r2 b hb with z | z
        · exact .inl z
        · exact .inr ⟨List.mem_append_right _ z.1, z.2⟩
theorem set_self {α : Type} : ∀ {l : List α} {k : Nat} {v : α}, l[k]? = some v → l.set k v = l
  | [], _, _, h => by simp at h
  | x :: l, 0, v, h => by simp at h; subst h; rfl
  | x :: l, k + 1, v, h => by
    show x :: l.set k v = x :: l
    rw [set_self (l := l) (k := k) (by simpa using h)]
/-- what stands at a path of an owned thing, and what it may be replaced by -/
theorem RepO.sub : ∀ {p : List Nat} {o o1 : OV} {v : V} {fp : List Addr}, (∀ f ∈ p, f < 60) → RepO K cl H G o v fp → ownO o p = some o1 →
    ∃ w f1, PAt K H v p w ∧ RepO K cl H G o1 w f1 ∧ (∀ b ∈ f1, b ∈ fp) ∧
      ∀ (H' G' : Hp) (o' : OV) (f1' : List Addr), Same G G' → (∀ b ∈ fp, b ∉ f1 → ∀ u, H b = some u → H' b = some u) → RepO K cl H' G' o' w f1' → (∀ b ∈ f1', b ∈ fp → b ∈ f1) →
        ∃ fp', RepO K cl H' G' (setO o p o') v fp' ∧ ∀ b ∈ fp', b ∈ f1' ∨ (b ∈ fp ∧ b ∉ f1)
  | [], o, o1, v, fp, _, h, e => by
    have e' : o = o1 := by cases o <;> (simp [ownO] at e; exact e)
    subst e'
    refine ⟨v, fp, rfl, h, fun _ z => z, fun H' G' o' f1' _ _ r _ => ⟨f1', ?_, fun b hb => .inl hb⟩⟩
    have : setO o [] o' = o' := by cases o <;> rfl
    rw [this]; exact r
  | f :: p, .obj c os, o1, v, fp, hp, h, e => by
    unfold ownO at e
    cases q : ixOf (fsOf c) f with
    | none => rw [q] at e; cases e
    | some k =>
      rw [q] at e
      cases r : os[k]? with
      | none => simp only [r] at e; cases e
      | some o2 =>
        simp only [r] at e
        unfold RepO at h
        obtain ⟨a, dx, vs, fq, h1, h5, h2, h3, h4, h6⟩ := h
        subst h1; subst h5
        obtain ⟨u, fk, u1, u2, u3, u4⟩ := RepOs.get h4 r
        obtain ⟨w, f1, w1, w2, w3, w4⟩ := RepO.sub (fun x hx => hp x (List.mem_cons_of_mem _ hx)) u2 e
        have afk : a ∉ f1 := fun z => h6 (u3 a (w3 a z))
        refine ⟨w, f1, .inl ⟨ix_lt q, a, _, dx, _, u, rfl, h2, h3.at q, nf_look q u1, w1⟩, w2, fun b hb => List.mem_cons_of_mem _ (u3 b (w3 b hb)), fun H' G' o' f1' g kk rr d => ?_⟩
        obtain ⟨fk', s1, s2⟩ := w4 H' G' o' f1' g (fun b hb hn => kk b (List.mem_cons_of_mem _ (u3 b hb)) hn) rr fun b hb z => d b hb (List.mem_cons_of_mem _ (u3 b z))
        have key : ∀ b ∈ fk', b ∈ fq → b ∈ fk := fun b hb z => by
          rcases s2 b hb with y | y
          · exact w3 b (d b y (List.mem_cons_of_mem _ z))
          · exact y.1
        obtain ⟨fq', t1, t2⟩ := u4 H' G' _ fk' u g (fun b hb hn => kk b (List.mem_cons_of_mem _ hb) (fun z => hn (w3 b z))) s1 key
        have hs : setO (.obj c os) (f :: p) o' = .obj c (os.set k (setO o2 p o')) := by
          simp only [setO, q, r]
        refine ⟨a :: fq', ?_, fun b hb => ?_⟩
        · rw [hs]
          unfold RepO
          rw [set_self u1] at t1
          refine ⟨a, dx, vs, fq', rfl, rfl, kk a List.mem_cons_self afk _ h2, h3, t1, fun z => ?_⟩
          rcases t2 a z with y | y
          · rcases s2 a y with y | y
            · exact afk (d a y List.mem_cons_self)
            · exact h6 (u3 a y.1)
          · exact h6 y.1
        · rcases List.mem_cons.mp hb with rfl | hb
          · exact .inr ⟨List.mem_cons_self, afk⟩
          · rcases t2 b hb with y | y
            · rcases s2 b y with y | y
              · exact .inl y
              · exact .inr ⟨List.mem_cons_of_mem _ (u3 b y.1), y.2⟩
            · exact .inr ⟨List.mem_cons_of_mem _ y.1, fun z => y.2 (w3 b z)⟩
  | f :: p, .nst os, o1, v, fp, hp, h, e => by
    unfold ownO at e
    cases q0 : itO os f with
    | none => rw [q0] at e; cases e
    | some o2 =>
      rw [q0] at e
      obtain ⟨q, r⟩ := itO_out q0
      unfold RepO at h
      obtain ⟨a, vs, fq, h1, h5, h2, h4, h6⟩ := h
      subst h1; subst h5
      obtain ⟨u, fk, u1, u2, u3, u4⟩ := RepOs.get h4 r
      obtain ⟨w, f1, w1, w2, w3, w4⟩ := RepO.sub (fun x hx => hp x (List.mem_cons_of_mem _ hx)) u2 e
      have afk : a ∉ f1 := fun z => h6 (u3 a (w3 a z))
      refine ⟨w, f1, .inr ⟨q, a, vs, u, rfl, h2, u1, w1⟩, w2, fun b hb => List.mem_cons_of_mem _ (u3 b (w3 b hb)), fun H' G' o' f1' g kk rr d => ?_⟩
      obtain ⟨fk', s1, s2⟩ := w4 H' G' o' f1' g (fun b hb hn => kk b (List.mem_cons_of_mem _ (u3 b hb)) hn) rr fun b hb z => d b hb (List.mem_cons_of_mem _ (u3 b z))
      have key : ∀ b ∈ fk', b ∈ fq → b ∈ fk := fun b hb z => by
        rcases s2 b hb with y | y
        · exact w3 b (d b y (List.mem_cons_of_mem _ z))
        · exact y.1
      obtain ⟨fq', t1, t2⟩ := u4 H' G' _ fk' u g (fun b hb hn => kk b (List.mem_cons_of_mem _ hb) (fun z => hn (w3 b z))) s1 key
      have hs : setO (.nst os) (f :: p) o' = .nst (os.set (f - 38) (setO o2 p o')) := by
        simp only [setO, q0]
      refine ⟨a :: fq', ?_, fun b hb => ?_⟩
      · rw [hs]
        unfold RepO
        rw [set_self u1] at t1
        refine ⟨a, vs, fq', rfl, rfl, kk a List.mem_cons_self afk _ h2, t1, fun z => ?_⟩
        rcases t2 a z with y | y
        · rcases s2 a y with y | y
          · exact afk (d a y List.mem_cons_self)
          · exact h6 (u3 a y.1)
        · exact h6 y.1
      · rcases List.mem_cons.mp hb with rfl | hb
        · exact .inr ⟨List.mem_cons_self, afk⟩
        · rcases t2 b hb with y | y
          · rcases s2 b y with y | y
            · exact .inl y
            · exact .inr ⟨List.mem_cons_of_mem _ (u3 b y.1), y.2⟩
          · exact .inr ⟨List.mem_cons_of_mem _ y.1, fun z => y.2 (w3 b z)⟩
  | f :: p, .hol, _, _, _, _, _, e => by simp [ownO] at e
  | f :: p, .fro m, _, _, _, _, _, e => by simp [ownO] at e
  | f :: p, .lst _, _, _, _, _, _, e => by simp [ownO] at e
  | f :: p, .dct _, _, _, _, _, _, e => by simp [ownO] at e
  | f :: p, .scr _, _, _, _, _, _, e => by simp [ownO] at e
theorem ownO_get : ∀ {p : List Nat} {o o1 : OV}, ownO o p = some o1 → getO o p = some o1
  | [], o, _, e => by cases o <;> simpa [ownO, getO] using e
  | f :: p, .obj c os, o1, e => by
    unfold ownO at e; unfold getO
    cases q : ixOf (fsOf c) f with
    | none => rw [q] at e; cases e
    | some k =>
      rw [q] at e
      cases r : os[k]? with
      | none => simp only [r] at e; cases e
      | some o2 => simp only [r] at e ⊢; exact ownO_get e
  | f :: p, .nst os, o1, e => by
    unfold ownO at e; unfold getO
    cases q : itO os f with
    | none => rw [q] at e; cases e
    | some o2 => rw [q] at e; simp only at e ⊢; exact ownO_get e
  | f :: p, .hol, _, e => by simp [ownO] at e
  | f :: p, .fro m, _, e => by simp [ownO] at e
  | f :: p, .lst _, _, e => by simp [ownO] at e
  | f :: p, .dct _, _, e => by simp [ownO] at e
  | f :: p, .scr _, _, e => by simp [ownO] at e
end
end C
namespace C
open PySem PySem.Spec PyProof.Rows L2

def getP (env : Env) (i : Nat) (p : List Nat) : Option OV := match env[i]? with
  | some s => match slotO s with
    | some o => getO o p
    | none => none
  | none => none
def ownP (env : Env) (i : Nat) (p : List Nat) : Option OV := match env[i]? with
  | some s => match ownS s with
    | some o => ownO o p
    | none => none
  | none => none
def setP (env : Env) (i : Nat) (p : List Nat) (x : OV) : Env := match env[i]? with
  | some s => match slotO s with
    | some o => env.set i (putS s (setO o p x))
    | none => env
  | none => env

section
variable {K : PySem.W.Frag} {cl : Nat → Addr} {H H' G G' : Hp} {β : Bs} {σ : L2.St} {env : Env} {X : List Addr}
theorem SRep.there {i : Nat} {sv : Option V} : ∀ {s : Slot} {fp : List Addr}, SRep K cl β H G i sv s fp → ∀ b ∈ fp, H b ≠ none
  | .un, fp, q, b, hb => by unfold SRep at q; rw [q] at hb; cases hb
  | .ow o, fp, q, b, hb => by unfold SRep at q; obtain ⟨v, _, q⟩ := q; exact RepO.there _ _ _ q b hb
  | .rf o, fp, q, b, hb => by unfold SRep at q; obtain ⟨v, _, _, q⟩ := q; exact RepO.there _ _ _ q b hb
  | .bo o, fp, q, b, hb => by unfold SRep at q; rw [q.1] at hb; cases hb
theorem SRep.frame {i : Nat} {sv : Option V} (g : Same G G') : ∀ {s : Slot} {fp : List Addr}, (∀ b ∈ fp, ∀ u, H b = some u → H' b = some u) → SRep K cl β H G i sv s fp → SRep K cl β H' G' i sv s fp
  | .un, fp, e, q => by unfold SRep at q ⊢; exact q
  | .ow o, fp, e, q => by unfold SRep at q ⊢; obtain ⟨v, h1, q⟩ := q; exact ⟨v, h1, RepO.frame g _ _ _ e q⟩
  | .rf o, fp, e, q => by unfold SRep at q ⊢; obtain ⟨v, h1, h2, q⟩ := q; exact ⟨v, h1, h2, RepO.frame g _ _ _ e q⟩
  | .bo o, fp, e, q => by unfold SRep at q ⊢; exact q
theorem R.ext (r : R K cl β σ H G env X) (e : Ext H G H' G') : R K cl β σ H' G' env X := by
  obtain ⟨fp, s1, s2, s3, s4⟩ := r.sl
  refine ⟨r.len, r.g0.trans e.gg, e.gh, fun b u q n => e.hh b u (r.hk b u q n), fun b hb n q => ?_, fp, fun i s hs => (s1 i s hs).frame e.gg fun b _ u h => e.hh b u h, fun i b hi hb => ?_, s3, fun b hb => ?_⟩
  · obtain ⟨u, hu⟩ := Option.ne_none_iff_exists'.mp hb
    exact e.gn b (by rw [r.hk b u hu n]; simp) (r.gk b hb n q)
  · have hs : env[i]? = some env[i] := by simp [hi]
    exact ⟨e.gn b ((s1 i _ hs).there b hb) (s2 i b hi hb).1, (s2 i b hi hb).2⟩
  · obtain ⟨h1, h2, h3, h4⟩ := s4 b hb
    obtain ⟨u, hu⟩ := Option.ne_none_iff_exists'.mp h1
    exact ⟨by rw [e.hh b u hu]; simp, e.gn b h1 h2, h3, h4⟩
theorem R.drop (r : R K cl β σ H G env X) : R K cl β σ H G env [] := by
  obtain ⟨fp, s1, s2, s3, s4⟩ := r.sl
  exact ⟨r.len, r.g0, r.gh, r.hk, r.gk, fp, s1, s2, s3, fun b hb => by cases hb⟩
theorem getD_some {i : Nat} {v : V} (h : σ.getD i none = some v) : σ[i]? = some (some v) := by
  rw [List.getD_eq_getElem?_getD] at h
  cases e : σ[i]? with
  | none => rw [e] at h; cases h
  | some x => rw [e] at h; simp at h; rw [h]
theorem R.rd (r : R K cl β σ H G env X) {i : Nat} {p : List Nat} {o : OV} (hp : ∀ f ∈ p, f < 60) (h : getP env i p = some o) : ∃ v0 w, σ[i]? = some (some v0) ∧ PAt K H v0 p w ∧ RepB K cl H G o w := by
  obtain ⟨fp, s1, s2, s3, s4⟩ := r.sl
  unfold getP at h
  cases e : env[i]? with
  | none => rw [e] at h; cases h
  | some s =>
    rw [e] at h
    have q := s1 i s e
    cases s with
    | un => simp [slotO] at h
    | ow o0 =>
      simp only [slotO] at h
      unfold SRep at q
      obtain ⟨v, h1, q⟩ := q
      obtain ⟨w, q1, q2⟩ := RepB.place r.gh hp (RepO.b _ _ _ q) h
      exact ⟨v, w, getD_some h1, q1, q2⟩
    | rf o0 =>
      simp only [slotO] at h
      unfold SRep at q
      obtain ⟨v, h1, _, q⟩ := q
      obtain ⟨w, q1, q2⟩ := RepB.place r.gh hp (RepO.b _ _ _ q) h
      exact ⟨v, w, getD_some h1, q1, q2⟩
    | bo o0 =>
      simp only [slotO] at h
      unfold SRep at q
      obtain ⟨_, v, h1, _, Hb, hb, q⟩ := q
      obtain ⟨w, q1, q2⟩ := RepB.place r.gh hp (RepB.same (fun b u z => r.hk b u (hb b u z).1 (hb b u z).2) r.g0 _ _ q) h
      exact ⟨v, w, getD_some h1, q1, q2⟩
theorem R.slot (r : R K cl β σ H G env X) {i : Nat} (hi : i < env.length) : ∃ v, σ[i]? = some v := ⟨σ[i]'(by rw [← r.len]; exact hi), by simp⟩
/-- a local is set -/
theorem R.setv (r : R K cl β σ H G env X) {i : Nat} {o : OV} {v : V} (hi : i < env.length) (hr : RepO K cl H G o v X) : R K cl β (σ.set i (some v)) H G (env.set i (.ow o)) [] := by
  obtain ⟨fp, s1, s2, s3, s4⟩ := r.sl
  refine ⟨by rw [List.length_set, List.length_set, r.len], r.g0, r.gh, r.hk, r.gk, fun j => if j = i then X else fp j, fun j s hs => ?_, fun j b hj hb => ?_, fun j k b hj hk h1 h2 => ?_, fun b hb => by cases hb⟩
  all_goals (try dsimp only at *)
  · by_cases e : j = i
    · subst e
      rw [if_pos rfl]
      rw [List.getElem?_set_self hi] at hs
      cases hs
      unfold SRep
      refine ⟨v, ?_, hr⟩
      rw [List.getD_eq_getElem?_getD, List.getElem?_set_self (by rw [← r.len]; exact hi)]
      rfl
    · rw [if_neg e]
      rw [List.getElem?_set_ne (Ne.symm e)] at hs
      have : (σ.set i (some v)).getD j none = σ.getD j none := by rw [List.getD_eq_getElem?_getD, List.getD_eq_getElem?_getD, List.getElem?_set_ne (Ne.symm e)]
      rw [this]
      exact s1 j s hs
  · rw [List.length_set] at hj
    by_cases e : j = i
    · rw [if_pos e] at hb
      exact ⟨(s4 b hb).2.1, (s4 b hb).2.2.1⟩
    · rw [if_neg e] at hb
      exact s2 j b hj hb
  · rw [List.length_set] at hj hk
    by_cases e : j = i
    · by_cases e' : k = i
      · exact e.trans e'.symm
      · rw [if_pos e] at h1; rw [if_neg e'] at h2
        exact absurd h2 ((s4 b h1).2.2.2 k hk)
    · by_cases e' : k = i
      · rw [if_neg e] at h1; rw [if_pos e'] at h2
        exact absurd h1 ((s4 b h2).2.2.2 j hj)
      · rw [if_neg e] at h1; rw [if_neg e'] at h2
        exact s3 j k b hj hk h1 h2
/-- slots forgotten -/
theorem R.unset (r : R K cl β σ H G env X) (i : Nat) : R K cl β (σ.set i none) H G (env.set i .un) X := by
  obtain ⟨fp, s1, s2, s3, s4⟩ := r.sl
  refine ⟨by rw [List.length_set, List.length_set, r.len], r.g0, r.gh, r.hk, r.gk, fun j => if j = i then [] else fp j, fun j s hs => ?_, fun j b hj hb => ?_, fun j k b hj hk h1 h2 => ?_, fun b hb => ?_⟩
  all_goals (try dsimp only at *)
  · by_cases e : j = i
    · subst e
      rw [if_pos rfl]
      have hl : j < env.length := by have := (List.getElem?_eq_some_iff.mp hs).1; rwa [List.length_set] at this
      rw [List.getElem?_set_self hl] at hs
      cases hs
      unfold SRep
      rfl
    · rw [if_neg e]
      rw [List.getElem?_set_ne (Ne.symm e)] at hs
      have : (σ.set i none).getD j none = σ.getD j none := by rw [List.getD_eq_getElem?_getD, List.getD_eq_getElem?_getD, List.getElem?_set_ne (Ne.symm e)]
      rw [this]
      exact s1 j s hs
  · rw [List.length_set] at hj
    by_cases e : j = i
    · rw [if_pos e] at hb; cases hb
    · rw [if_neg e] at hb
      exact s2 j b hj hb
  · rw [List.length_set] at hj hk
    by_cases e : j = i
    · rw [if_pos e] at h1; cases h1
    · by_cases e' : k = i
      · rw [if_pos e'] at h2; cases h2
      · rw [if_neg e] at h1; rw [if_neg e'] at h2
        exact s3 j k b hj hk h1 h2
  · obtain ⟨h1, h2, h3, h4⟩ := s4 b hb
    refine ⟨h1, h2, h3, fun j hj => ?_⟩
    rw [List.length_set] at hj
    by_cases e : j = i
    · rw [if_pos e]; simp
    · rw [if_neg e]; exact h4 j hj
/-- the own places, all told: what each may be replaced by -/
theorem SRep.sub {i : Nat} {sv : Option V} {s : Slot} {fp : List Addr} {o o1 : OV} {p : List Nat} (hp : ∀ f ∈ p, f < 60) (q : SRep K cl β H G i sv s fp) (h : ownS s = some o) (h' : ownO o p = some o1) :
    ∃ v0 w f1, sv = some v0 ∧ PAt K H v0 p w ∧ RepO K cl H G o1 w f1 ∧ (∀ b ∈ f1, b ∈ fp) ∧
      ∀ (H' G' : Hp) (o' : OV) (f1' : List Addr), Same G G' → (∀ b ∈ fp, b ∉ f1 → ∀ u, H b = some u → H' b = some u) → RepO K cl H' G' o' w f1' → (∀ b ∈ f1', b ∈ fp → b ∈ f1) →
        ∃ fp', SRep K cl β H' G' i sv (putS s (setO o p o')) fp' ∧ ∀ b ∈ fp', b ∈ f1' ∨ (b ∈ fp ∧ b ∉ f1) := by
  cases s with
  | un => cases h
  | bo o => cases h
  | ow o0 =>
    cases h
    unfold SRep at q
    obtain ⟨v, h1, q⟩ := q
    obtain ⟨w, f1, w1, w2, w3, w4⟩ := RepO.sub hp q h'
    refine ⟨v, w, f1, h1, w1, w2, w3, fun H' G' o' f1' g k r d => ?_⟩
    obtain ⟨fp', t1, t2⟩ := w4 H' G' o' f1' g k r d
    exact ⟨fp', ⟨v, h1, t1⟩, t2⟩
  | rf o0 =>
    cases h
    unfold SRep at q
    obtain ⟨v, h1, h2, q⟩ := q
    obtain ⟨w, f1, w1, w2, w3, w4⟩ := RepO.sub hp q h'
    refine ⟨v, w, f1, h1, w1, w2, w3, fun H' G' o' f1' g k r d => ?_⟩
    obtain ⟨fp', t1, t2⟩ := w4 H' G' o' f1' g k r d
    exact ⟨fp', ⟨v, h1, h2, t1⟩, t2⟩
theorem ownP_out {i : Nat} {p : List Nat} {o1 : OV} (h : ownP env i p = some o1) : ∃ s o, env[i]? = some s ∧ ownS s = some o ∧ ownO o p = some o1 ∧ slotO s = some o := by
  unfold ownP at h
  cases e : env[i]? with
  | none => rw [e] at h; cases h
  | some s =>
    rw [e] at h
    cases q : ownS s with
    | none => simp only [q] at h; cases h
    | some o =>
      simp only [q] at h
      refine ⟨s, o, rfl, q, h, ?_⟩
      cases s with
      | un => cases q
      | bo o => cases q
      | ow o => exact q
      | rf o => exact q
theorem ownP_get {i : Nat} {p : List Nat} {o1 : OV} (h : ownP env i p = some o1) : getP env i p = some o1 := by
  obtain ⟨s, o, e, h1, h2, h3⟩ := ownP_out h
  unfold getP
  rw [e]
  simp only [h3]
  exact ownO_get h2
/-- an owned place is written -/
theorem R.write (r : R K cl β σ H G env X) {i : Nat} {p : List Nat} {o1 : OV} (hp : ∀ f ∈ p, f < 60) (h : ownP env i p = some o1) :
    ∃ v0 w f1, σ[i]? = some (some v0) ∧ PAt K H v0 p w ∧ RepO K cl H G o1 w f1 ∧ (∀ b ∈ f1, G b = none) ∧ (∀ b ∈ f1, b ∉ X) ∧
      ∀ (H' G' : Hp) (o' : OV) (f1' : List Addr), Same G G' → Same G' H' → (∀ b, b ∉ f1 → ∀ u, H b = some u → H' b = some u) → (∀ b, H b ≠ none → G b = none → G' b = none) → RepO K cl H' G' o' w f1' →
        (∀ b ∈ f1', b ∈ f1 ∨ b ∈ X ∨ H b = none) → (∀ b ∈ f1', G' b = none) → R K cl β σ H' G' (setP env i p o') [] := by
  obtain ⟨fp, s1, s2, s3, s4⟩ := r.sl
  obtain ⟨s, o, e, h1, h2, h3⟩ := ownP_out h
  have hi : i < env.length := (List.getElem?_eq_some_iff.mp e).1
  obtain ⟨v0, w, f1, q1, q2, q3, q4, q5⟩ := (s1 i s e).sub hp h1 h2
  refine ⟨v0, w, f1, getD_some q1, q2, q3, fun b hb => (s2 i b hi (q4 b hb)).1, fun b hb z => (s4 b z).2.2.2 i hi (q4 b hb), fun H' G' o' f1' g gh k gn rr fr ng => ?_⟩
  have sep : ∀ b ∈ f1', ∀ j, j < env.length → b ∈ fp j → b ∈ f1 ∨ False := fun b hb j hj z => by
    rcases fr b hb with y | y | y
    · exact .inl y
    · exact absurd z ((s4 b y).2.2.2 j hj)
    · exact absurd y ((s1 j env[j] (by simp [hj])).there b z)
  obtain ⟨fp', t1, t2⟩ := q5 H' G' o' f1' g (fun b _ hn u hu => k b hn u hu) rr fun b hb z => (sep b hb i hi z).elim id False.elim
  have hset : setP env i p o' = env.set i (putS s (setO o p o')) := by
    unfold setP
    rw [e]
    simp only [h3]
  rw [hset]
  have kk : ∀ b u, H b = some u → b ∉ f1 → H' b = some u := fun b u hu hn => k b hn u hu
  refine ⟨by rw [List.length_set, r.len], r.g0.trans g, gh, fun b u q n => kk b u (r.hk b u q n) fun z => ?_, fun b hb n q => ?_, fun j => if j = i then fp' else fp j, fun j s' hs => ?_, fun j b hj hb => ?_, fun j l b hj hl y1 y2 => ?_, fun b hb => by cases hb⟩
  all_goals (try dsimp only at *)
  · rcases (s2 i b hi (q4 b z)).2 with y | y
    · rw [q] at y; cases y
    · exact n y
  · obtain ⟨u, hu⟩ := Option.ne_none_iff_exists'.mp hb
    exact gn b (by rw [r.hk b u hu n]; simp) (r.gk b hb n q)
  · by_cases ej : j = i
    · subst ej
      rw [if_pos rfl]
      rw [List.getElem?_set_self hi] at hs
      cases hs
      exact t1
    · rw [if_neg ej]
      rw [List.getElem?_set_ne (Ne.symm ej)] at hs
      exact (s1 j s' hs).frame g fun b hb u hu => kk b u hu fun z => ej (s3 j i b (List.getElem?_eq_some_iff.mp hs).1 hi hb (q4 b z))
  · rw [List.length_set] at hj
    by_cases ej : j = i
    · rw [if_pos ej] at hb
      rcases t2 b hb with y | y
      · refine ⟨ng b y, ?_⟩
        rcases fr b y with z | z | z
        · exact (s2 i b hi (q4 b z)).2
        · exact (s4 b z).2.2.1
        · by_cases n : β.F b
          · exact .inr n
          · left
            cases q : β.H b with
            | none => rfl
            | some u => rw [r.hk b u q n] at z; cases z
      · have := s2 i b hi y.1
        exact ⟨gn b ((s1 i s e).there b y.1) this.1, this.2⟩
    · rw [if_neg ej] at hb
      have := s2 j b hj hb
      exact ⟨gn b ((s1 j env[j] (by simp [hj])).there b hb) this.1, this.2⟩
  · rw [List.length_set] at hj hl
    have half : ∀ b, b ∈ fp' → ∀ l, l < env.length → l ≠ i → b ∉ fp l := fun b hb l hl ne z => by
      rcases t2 b hb with y | y
      · rcases sep b y l hl z with x | x
        · exact ne (s3 l i b hl hi z (q4 b x))
        · exact x
      · exact ne (s3 l i b hl hi z y.1)
    by_cases ej : j = i
    · by_cases el : l = i
      · exact ej.trans el.symm
      · rw [if_pos ej] at y1; rw [if_neg el] at y2
        exact absurd y2 (half b y1 l hl el)
    · by_cases el : l = i
      · rw [if_neg ej] at y1; rw [if_pos el] at y2
        exact absurd y1 (half b y2 j hj ej)
      · rw [if_neg ej] at y1; rw [if_neg el] at y2
        exact s3 j l b hj hl y1 y2
end
end C
namespace C
open PySem PySem.Spec PyProof.Rows L2

/-! freezing -/
mutual
def frz : OV → Option MV
  | .fro m => some m
  | .lst ms => some (.lst ms)
  | .dct kvs => some (.dct (kvs.map (·.1)) (kvs.map (·.2)))
  | .scr _ => none
  | .nst _ => none
  | .hol => none
  | .obj c os => match frzs os with
    | some ms => some (.obj c ms)
    | none => none
def frzs : List OV → Option (List MV)
  | [] => some []
  | o :: os => match frz o with
    | some m => match frzs os with
      | some ms => some (m :: ms)
      | none => none
    | none => none
end
def frzG (H G : Hp) (X : List Addr) : Hp := fun b => if b ∈ X then H b else G b
section
variable {K : PySem.W.Frag} {cl : Nat → Addr} {H H' G G' : Hp} {β : Bs} {σ : L2.St} {env : Env} {X : List Addr}
mutual
theorem RepO.frz (g : Same G G') : ∀ (o : OV) (v : V) (fp : List Addr) (m : MV), (∀ b ∈ fp, ∀ u, H b = some u → G' b = some u) → RepO K cl H G o v fp → frz o = some m → Rep K cl G' m v
  | .fro m', v, fp, m, e, h, q => by
    unfold C.frz at q; cases q
    unfold RepO at h
    exact Rep.same g _ _ h.2
  | .lst ms, v, fp, m, e, h, q => by
    unfold C.frz at q; cases q
    unfold RepO at h; unfold Rep
    obtain ⟨a, vs, h1, h5, h2, h3⟩ := h
    subst h5
    exact ⟨a, vs, h1, e a (by simp) _ h2, Reps.same g _ _ h3⟩
  | .dct kvs, v, fp, m, e, h, q => by
    unfold C.frz at q; cases q
    unfold RepO at h; unfold Rep
    obtain ⟨a, vs, h1, h5, h2, h4, h3⟩ := h
    subst h5
    exact ⟨a, vs, h1, e a (by simp) _ h2, h4, Reps.same g _ _ h3⟩
  | .nst _, v, fp, m, e, h, q => by unfold C.frz at q; cases q
  | .hol, v, fp, m, e, h, q => by unfold C.frz at q; cases q
  | .scr ms, v, fp, m, e, h, q => by unfold C.frz at q; cases q
  | .obj c os, v, fp, m, e, h, q => by
    unfold C.frz at q
    cases z : frzs os with
    | none => rw [z] at q; cases q
    | some ms =>
      rw [z] at q; cases q
      unfold RepO at h; unfold Rep
      obtain ⟨a, dx, vs, fq, h1, h5, h2, h4, h3, h6⟩ := h
      subst h5
      exact ⟨a, dx, vs, h1, e a (by simp) _ h2, h4, RepOs.frz g os vs fq ms (fun b hb => e b (List.mem_cons_of_mem _ hb)) h3 z⟩
theorem RepOs.frz (g : Same G G') : ∀ (os : List OV) (vs : List V) (fp : List Addr) (ms : List MV), (∀ b ∈ fp, ∀ u, H b = some u → G' b = some u) → RepOs K cl H G os vs fp → frzs os = some ms → Reps K cl G' ms vs
  | [], vs, fp, ms, e, h, q => by
    unfold C.frzs at q; cases q
    unfold RepOs at h; unfold Reps
    exact h.1
  | o :: os, vs, fp, ms, e, h, q => by
    unfold C.frzs at q
    cases z : C.frz o with
    | none => rw [z] at q; cases q
    | some m =>
      rw [z] at q
      cases z' : frzs os with
      | none => simp only [z'] at q; cases q
      | some ms' =>
        simp only [z'] at q; cases q
        unfold RepOs at h
        obtain ⟨v, ws, f1, f2, h1, h5, h2, h3, h4⟩ := h
        subst h5
        rw [h1]
        exact Reps.cons (RepO.frz g o v f1 m (fun b hb => e b (List.mem_append_left _ hb)) h2 z) (RepOs.frz g os ws f2 ms' (fun b hb => e b (List.mem_append_right _ hb)) h3 z')
end
theorem frzG_same (n : ∀ b ∈ X, G b = none) : Same G (frzG H G X) := fun b u h => by
  unfold frzG
  split
  · rename_i hb; rw [n b hb] at h; cases h
  · exact h
theorem frzG_H (g : Same G H) : Same (frzG H G X) H := fun b u h => by
  unfold frzG at h
  split at h
  · exact h
  · exact g b u h
theorem R.frz (r : R K cl β σ H G env X) : R K cl β σ H (frzG H G X) env [] := by
  obtain ⟨fp, s1, s2, s3, s4⟩ := r.sl
  have n : ∀ b ∈ X, G b = none := fun b hb => (s4 b hb).2.1
  refine ⟨r.len, r.g0.trans (frzG_same n), frzG_H r.gh, r.hk, fun b hb nf q => ?_, fp, fun i s hs => (s1 i s hs).frame (frzG_same n) fun b _ u h => h, fun i b hi hb => ⟨?_, (s2 i b hi hb).2⟩, s3, fun b hb => by cases hb⟩
  · unfold frzG
    split
    · rename_i hx
      rcases (s4 b hx).2.2.1 with y | y
      · exact absurd y hb
      · exact absurd y nf
    · exact r.gk b hb nf q
  · unfold frzG
    split
    · rename_i hx
      exact absurd hb ((s4 b hx).2.2.2 i hi)
    · exact (s2 i b hi hb).1
theorem R.xn (r : R K cl β σ H G env X) : ∀ b ∈ X, G b = none := by
  obtain ⟨fp, s1, s2, s3, s4⟩ := r.sl
  exact fun b hb => (s4 b hb).2.1
theorem Ext.frz {H0 G0 : Hp} (e : Ext H0 G0 H G) (hX : ∀ b ∈ X, H0 b = none) (n : ∀ b ∈ X, G b = none) : Ext H0 G0 H (frzG H G X) := by
  refine ⟨e.hh, e.gg.trans (frzG_same n), frzG_H e.gh, fun b hb q => ?_⟩
  unfold frzG
  split
  · rename_i hx
    exact absurd (hX b hx) hb
  · exact e.gn b hb q
end

/-! arguments of a call -/
inductive Ar where
  | v (m : MV) | mu (i : Nat) (p : List Nat) | br (i : Nat) (p : List Nat)
def arSlots (env : Env) : List Ar → Option Env
  | [] => some []
  | .v m :: as => match arSlots env as with
    | some ss => some (.ow (.fro m) :: ss)
    | none => none
  | .mu i p :: as => match ownP env i p with
    | some o => match arSlots env as with
      | some ss => some (.rf o :: ss)
      | none => none
    | none => none
  | .br i p :: as => match getP env i p with
    | some o => match arSlots env as with
      | some ss => some (.bo o :: ss)
      | none => none
    | none => none
def muS : List Ar → List Nat
  | [] => []
  | .mu i _ :: as => i :: muS as
  | _ :: as => muS as
def noMem : List Nat → Nat → Bool
  | [], _ => true
  | j :: js, i => !(Nat.beq j i) && noMem js i
def arOk (ms : List Nat) : List Ar → Bool
  | [] => true
  | .v _ :: as => arOk ms as
  | .mu i p :: as => p.all (fun f => Nat.blt f 60) && (noMem (muS as) i && arOk ms as)
  | .br i p :: as => p.all (fun f => Nat.blt f 60) && (noMem ms i && arOk ms as)
def backE : Env → List Ar → Env → Option Env
  | env, [], _ => some env
  | env, .mu i p :: as, .rf o :: ss => backE (setP env i p o) as ss
  | env, .v _ :: as, _ :: ss => backE env as ss
  | env, .br _ _ :: as, _ :: ss => backE env as ss
  | _, _, _ => none
theorem noMem_iff {js : List Nat} {i : Nat} : noMem js i = true ↔ i ∉ js := by
  induction js with
  | nil => simp [noMem]
  | cons j js ih =>
    simp only [noMem, Bool.and_eq_true, ih, List.mem_cons, not_or]
    constructor
    · rintro ⟨h1, h2⟩
      refine ⟨fun e => ?_, h2⟩
      subst e
      simp at h1
    · rintro ⟨h1, h2⟩
      refine ⟨?_, h2⟩
      simp only [Bool.not_eq_true']
      cases e : Nat.beq j i with
      | false => rfl
      | true => exact absurd (Nat.eq_of_beq_eq_true e).symm h1
theorem mem_muS {as : List Ar} {i : Nat} : i ∈ muS as ↔ ∃ p, Ar.mu i p ∈ as := by
  induction as with
  | nil => simp [muS]
  | cons a as ih =>
    cases a with
    | v m => simp [muS, ih]
    | br j p => simp [muS, ih]
    | mu j p =>
      simp only [muS, List.mem_cons, ih]
      constructor
      · rintro (rfl | ⟨q, h⟩)
        · exact ⟨p, .inl rfl⟩
        · exact ⟨q, .inr h⟩
      · rintro ⟨q, h | h⟩
        · cases h; exact .inl rfl
        · exact .inr ⟨q, h⟩
/-- what arOk says -/
theorem arOk_out {ms : List Nat} : ∀ {as : List Ar}, arOk ms as = true →
    (∀ (k l i : Nat) p q, as[k]? = some (.mu i p) → as[l]? = some (.mu i q) → k = l) ∧ (∀ i p, Ar.br i p ∈ as → i ∉ ms ∧ ∀ f ∈ p, f < 60) ∧ (∀ i p, Ar.mu i p ∈ as → ∀ f ∈ p, f < 60)
  | [], _ => ⟨fun k l i p q h => by simp at h, fun i p h => (List.not_mem_nil h).elim, fun i p h => (List.not_mem_nil h).elim⟩
  | a :: as, h => by
    have lt : ∀ {p : List Nat}, p.all (fun f => Nat.blt f 60) = true → ∀ f ∈ p, f < 60 := fun {p} hp f hf => by
      have := List.all_eq_true.mp hp f hf
      exact Nat.le_of_ble_eq_true this
    cases a with
    | v m =>
      obtain ⟨h1, h2, h3⟩ := arOk_out (as := as) (by simpa [arOk] using h)
      refine ⟨fun k l i p q e e' => ?_, fun i p hm => h2 i p (by simpa using hm), fun i p hm => h3 i p (by simpa using hm)⟩
      cases k with
      | zero => simp at e
      | succ k => cases l with
        | zero => simp at e'
        | succ l => rw [h1 k l i p q (by simpa using e) (by simpa using e')]
    | br j pj =>
      simp only [arOk, Bool.and_eq_true] at h
      obtain ⟨h1, h2, h3⟩ := arOk_out (as := as) h.2.2
      refine ⟨fun k l i p q e e' => ?_, fun i p hm => ?_, fun i p hm => h3 i p (by simpa using hm)⟩
      · cases k with
        | zero => simp at e
        | succ k => cases l with
          | zero => simp at e'
          | succ l => rw [h1 k l i p q (by simpa using e) (by simpa using e')]
      · rcases List.mem_cons.mp hm with e | e
        · cases e; exact ⟨noMem_iff.mp h.2.1, lt h.1⟩
        · exact h2 i p e
    | mu j pj =>
      simp only [arOk, Bool.and_eq_true] at h
      obtain ⟨h1, h2, h3⟩ := arOk_out (as := as) h.2.2
      have nm := noMem_iff.mp h.2.1
      refine ⟨fun k l i p q e e' => ?_, fun i p hm => h2 i p (by simpa using hm), fun i p hm => ?_⟩
      · cases k with
        | zero => cases l with
          | zero => rfl
          | succ l =>
            simp at e e'
            exact absurd (mem_muS.mpr ⟨q, List.mem_of_getElem? e'⟩) (by rw [← e.1]; exact nm)
        | succ k => cases l with
          | zero =>
            simp at e e'
            exact absurd (mem_muS.mpr ⟨p, List.mem_of_getElem? e⟩) (by rw [← e'.1]; exact nm)
          | succ l => rw [h1 k l i p q (by simpa using e) (by simpa using e')]
      · rcases List.mem_cons.mp hm with e | e
        · cases e; exact lt h.1
        · exact h3 i p e
theorem setP_len {env : Env} {i : Nat} {p : List Nat} {o : OV} : (setP env i p o).length = env.length := by
  unfold setP
  split
  · split
    · rw [List.length_set]
    · rfl
  · rfl
theorem setP_ne {env : Env} {i j : Nat} {p : List Nat} {o : OV} (h : j ≠ i) : (setP env i p o)[j]? = env[j]? := by
  unfold setP
  split
  · split
    · rw [List.getElem?_set_ne (Ne.symm h)]
    · rfl
  · rfl
theorem setP_self {env : Env} {i : Nat} {p : List Nat} {x : OV} : (setP env i p x)[i]? = match env[i]? with
    | some s => match slotO s with
      | some o => some (putS s (setO o p x))
      | none => some s
    | none => none := by
  unfold setP
  cases e : env[i]? with
  | none => exact e
  | some s =>
    have hi : i < env.length := (List.getElem?_eq_some_iff.mp e).1
    cases q : slotO s with
    | none => simp only [q]; exact e
    | some o => simp only [q]; rw [List.getElem?_set_self hi]
theorem backE_len : ∀ {as : List Ar} {env env' env2 : Env}, backE env as env' = some env2 → env2.length = env.length
  | [], env, env', env2, h => by simp [backE] at h; rw [h]
  | .v m :: as, env, s :: ss, env2, h => by unfold backE at h; exact backE_len h
  | .br j p :: as, env, s :: ss, env2, h => by unfold backE at h; exact backE_len h
  | .mu j p :: as, env, .rf o :: ss, env2, h => by
    unfold backE at h
    rw [backE_len h, setP_len]
  | .v m :: as, env, [], env2, h => by simp [backE] at h
  | .br j p :: as, env, [], env2, h => by simp [backE] at h
  | .mu j p :: as, env, [], env2, h => by simp [backE] at h
  | .mu j p :: as, env, .un :: ss, env2, h => by simp [backE] at h
  | .mu j p :: as, env, .ow o :: ss, env2, h => by simp [backE] at h
  | .mu j p :: as, env, .bo o :: ss, env2, h => by simp [backE] at h
theorem backE_out : ∀ {as : List Ar} {env env' env2 : Env} {i : Nat}, backE env as env' = some env2 → i ∉ muS as → env2[i]? = env[i]?
  | [], env, env', env2, i, h, n => by simp [backE] at h; rw [h]
  | .v m :: as, env, s :: ss, env2, i, h, n => by unfold backE at h; exact backE_out h (by simpa [muS] using n)
  | .br j p :: as, env, s :: ss, env2, i, h, n => by unfold backE at h; exact backE_out h (by simpa [muS] using n)
  | .mu j p :: as, env, .rf o :: ss, env2, i, h, n => by
    unfold backE at h
    simp only [muS, List.mem_cons, not_or] at n
    rw [backE_out h n.2, setP_ne n.1]
  | .v m :: as, env, [], env2, i, h, n => by simp [backE] at h
  | .br j p :: as, env, [], env2, i, h, n => by simp [backE] at h
  | .mu j p :: as, env, [], env2, i, h, n => by simp [backE] at h
  | .mu j p :: as, env, .un :: ss, env2, i, h, n => by simp [backE] at h
  | .mu j p :: as, env, .ow o :: ss, env2, i, h, n => by simp [backE] at h
  | .mu j p :: as, env, .bo o :: ss, env2, i, h, n => by simp [backE] at h
theorem backE_mu {ms : List Nat} : ∀ {as : List Ar} {env env' env2 : Env} {k i : Nat} {p : List Nat}, arOk ms as = true → backE env as env' = some env2 → as[k]? = some (.mu i p) → ∃ o, env'[k]? = some (.rf o) ∧ env2[i]? = (setP env i p o)[i]?
  | [], env, env', env2, k, i, p, ok, h, e => by simp at e
  | .v m :: as, env, s :: ss, env2, k, i, p, ok, h, e => by
    unfold backE at h
    cases k with
    | zero => simp at e
    | succ k =>
      obtain ⟨o, h1, h2⟩ := backE_mu (k := k) (by simpa [arOk] using ok) h (by simpa using e)
      exact ⟨o, by simpa using h1, h2⟩
  | .br j q :: as, env, s :: ss, env2, k, i, p, ok, h, e => by
    unfold backE at h
    simp only [arOk, Bool.and_eq_true] at ok
    cases k with
    | zero => simp at e
    | succ k =>
      obtain ⟨o, h1, h2⟩ := backE_mu (k := k) ok.2.2 h (by simpa using e)
      exact ⟨o, by simpa using h1, h2⟩
  | .mu j q :: as, env, .rf o :: ss, env2, k, i, p, ok, h, e => by
    unfold backE at h
    simp only [arOk, Bool.and_eq_true] at ok
    have nm := noMem_iff.mp ok.2.1
    cases k with
    | zero =>
      simp at e
      obtain ⟨rfl, rfl⟩ := e
      exact ⟨o, rfl, backE_out h nm⟩
    | succ k =>
      have e' : as[k]? = some (.mu i p) := by simpa using e
      have ne : i ≠ j := fun z => nm (mem_muS.mpr ⟨p, z ▸ List.mem_of_getElem? e'⟩)
      obtain ⟨o', h1, h2⟩ := backE_mu (k := k) ok.2.2 h e'
      refine ⟨o', by simpa using h1, ?_⟩
      rw [h2]
      rw [setP_self, setP_self, setP_ne ne]
  | .v m :: as, env, [], env2, _, i, _, _, h, n => by simp [backE] at h
  | .br j p :: as, env, [], env2, _, i, _, _, h, n => by simp [backE] at h
  | .mu j p :: as, env, [], env2, _, i, _, _, h, n => by simp [backE] at h
  | .mu j p :: as, env, .un :: ss, env2, _, i, _, _, h, n => by simp [backE] at h
  | .mu j p :: as, env, .ow o :: ss, env2, _, i, _, _, h, n => by simp [backE] at h
  | .mu j p :: as, env, .bo o :: ss, env2, _, i, _, _, h, n => by simp [backE] at h
theorem arSlots_get : ∀ {as : List Ar} {env ss : Env} {k : Nat} {a : Ar}, arSlots env as = some ss → as[k]? = some a →
    match a with
    | .v m => ss[k]? = some (.ow (.fro m))
    | .mu i p => ∃ o, ownP env i p = some o ∧ ss[k]? = some (.rf o)
    | .br i p => ∃ o, getP env i p = some o ∧ ss[k]? = some (.bo o)
  | [], _, _, _, _, _, e => by simp at e
  | .v m :: as, env, ss, k, a, h, e => by
    unfold arSlots at h
    cases q : arSlots env as with
    | none => rw [q] at h; cases h
    | some ss' =>
      rw [q] at h; cases h
      cases k with
      | zero => simp at e; subst e; simp
      | succ k => have := arSlots_get (k := k) q (by simpa using e); simpa using this
  | .mu i p :: as, env, ss, k, a, h, e => by
    unfold arSlots at h
    cases q0 : ownP env i p with
    | none => rw [q0] at h; cases h
    | some o =>
      rw [q0] at h
      cases q : arSlots env as with
      | none => simp only [q] at h; cases h
      | some ss' =>
        simp only [q] at h; cases h
        cases k with
        | zero => simp at e; subst e; exact ⟨o, q0, by simp⟩
        | succ k => have := arSlots_get (k := k) q (by simpa using e); simpa using this
  | .br i p :: as, env, ss, k, a, h, e => by
    unfold arSlots at h
    cases q0 : getP env i p with
    | none => rw [q0] at h; cases h
    | some o =>
      rw [q0] at h
      cases q : arSlots env as with
      | none => simp only [q] at h; cases h
      | some ss' =>
        simp only [q] at h; cases h
        cases k with
        | zero => simp at e; subst e; exact ⟨o, q0, by simp⟩
        | succ k => have := arSlots_get (k := k) q (by simpa using e); simpa using this
theorem arSlots_len : ∀ {as : List Ar} {env ss : Env}, arSlots env as = some ss → ss.length = as.length
  | [], _, _, h => by simp [arSlots] at h; subst h; rfl
  | .v m :: as, env, ss, h => by
    unfold arSlots at h
    cases q : arSlots env as with
    | none => rw [q] at h; cases h
    | some ss' => rw [q] at h; cases h; simp [arSlots_len q]
  | .mu i p :: as, env, ss, h => by
    unfold arSlots at h
    cases q0 : ownP env i p with
    | none => rw [q0] at h; cases h
    | some o =>
      rw [q0] at h
      cases q : arSlots env as with
      | none => simp only [q] at h; cases h
      | some ss' => simp only [q] at h; cases h; simp [arSlots_len q]
  | .br i p :: as, env, ss, h => by
    unfold arSlots at h
    cases q0 : getP env i p with
    | none => rw [q0] at h; cases h
    | some o =>
      rw [q0] at h
      cases q : arSlots env as with
      | none => simp only [q] at h; cases h
      | some ss' => simp only [q] at h; cases h; simp [arSlots_len q]
section
variable (K : PySem.W.Frag) (cl : Nat → Addr)
def ArRep (σ : L2.St) (H G : Hp) : Ar → V → Prop
  | .v m, x => Rep K cl G m x
  | .mu i p, x => ∃ v0, σ[i]? = some (some v0) ∧ PAt K H v0 p x
  | .br i p, x => ∃ v0, σ[i]? = some (some v0) ∧ PAt K H v0 p x
def ArReps (σ : L2.St) (H G : Hp) : List Ar → List V → Prop
  | [], vs => vs = []
  | a :: as, vs => ∃ v ws, vs = v :: ws ∧ ArRep K cl σ H G a v ∧ ArReps σ H G as ws
end
end C
namespace C
open PySem PySem.Spec PyProof.Rows L2
section
variable {K : PySem.W.Frag} {cl : Nat → Addr} {H H' G G' : Hp} {β : Bs} {σ : L2.St} {env : Env} {X : List Addr}
theorem ArReps.get : ∀ {as : List Ar} {vs : List V} {k : Nat} {a : Ar}, ArReps K cl σ H G as vs → as[k]? = some a → ∃ v, vs[k]? = some v ∧ ArRep K cl σ H G a v
  | [], _, _, _, _, e => by simp at e
  | a :: as, vs, 0, x, h, e => by
    unfold ArReps at h
    obtain ⟨v, ws, h1, h2, _⟩ := h
    simp at e; subst e
    exact ⟨v, by simp [h1], h2⟩
  | a :: as, vs, k + 1, x, h, e => by
    unfold ArReps at h
    obtain ⟨v, ws, h1, _, h3⟩ := h
    obtain ⟨w, q1, q2⟩ := ArReps.get (k := k) h3 (by simpa using e)
    exact ⟨w, by simpa [h1] using q1, q2⟩
theorem ArReps.len : ∀ {as : List Ar} {vs : List V}, ArReps K cl σ H G as vs → vs.length = as.length
  | [], _, h => by unfold ArReps at h; rw [h]; rfl
  | a :: as, vs, h => by
    unfold ArReps at h
    obtain ⟨v, ws, h1, _, h3⟩ := h
    rw [h1, List.length_cons, List.length_cons, ArReps.len h3]
theorem PAt.same (e : Same H H') : ∀ {p : List Nat} {v w : V}, PAt K H v p w → PAt K H' v p w
  | [], _, _, h => h
  | f :: p, v, w, .inl ⟨y, a, C, dx, fs, u, h1, h2, h5, h3, h4⟩ => .inl ⟨y, a, C, dx, fs, u, h1, e _ _ h2, h5, h3, PAt.same e h4⟩
  | f :: p, v, w, .inr ⟨y, a, xs, u, h1, h2, h3, h4⟩ => .inr ⟨y, a, xs, u, h1, e _ _ h2, h3, PAt.same e h4⟩
theorem getD_of {i : Nat} {x : Option V} (h : σ[i]? = some x) : σ.getD i none = x := by
  rw [List.getD_eq_getElem?_getD, h]; rfl
/-- a call: the callee's start, and how it comes back -/
theorem R.callG (r : R K cl β σ H G env []) {as : List Ar} {vs : List V} {ss : Env} (ra : ArReps K cl σ H G as vs) (hs : arSlots env as = some ss) (ok : arOk (muS as) as = true) :
    ∃ F : Addr → Prop, R K cl ⟨H, G, F, vs.map some⟩ (vs.map some) H G ss [] ∧
      (∀ (σ' : L2.St) (H' G' : Hp) (env' : Env) (X' : List Addr) (env2 : Env), R K cl ⟨H, G, F, vs.map some⟩ σ' H' G' env' X' → backE env as env' = some env2 → R K cl β σ H' G' env2 X') ∧ (∀ b, F b → (∃ i p, Ar.mu i p ∈ as) ∧ G b = none ∧ (β.H b = none ∨ β.F b)) := by
  obtain ⟨fp, s1, s2, s3, s4⟩ := r.sl
  obtain ⟨ok1, ok2, ok3⟩ := arOk_out ok
  have hlen : vs.length = as.length := ra.len
  -- the footprint of the place that is lent in slot i
  have ex : ∀ i : Nat, ∃ f : List Addr, (∀ p, Ar.mu i p ∈ as → ∃ s o o1 v0 w, env[i]? = some s ∧ ownS s = some o ∧ slotO s = some o ∧ ownO o p = some o1 ∧ ownP env i p = some o1 ∧ σ.getD i none = some v0 ∧ PAt K H v0 p w ∧ RepO K cl H G o1 w f ∧ (∀ b ∈ f, b ∈ fp i) ∧
      ∀ (H' G' : Hp) (o' : OV) (f1' : List Addr), Same G G' → (∀ b ∈ fp i, b ∉ f → ∀ u, H b = some u → H' b = some u) → RepO K cl H' G' o' w f1' → (∀ b ∈ f1', b ∈ fp i → b ∈ f) →
        ∃ fp', SRep K cl β H' G' i (σ.getD i none) (putS s (setO o p o')) fp' ∧ ∀ b ∈ fp', b ∈ f1' ∨ (b ∈ fp i ∧ b ∉ f)) ∧ ((∀ p, Ar.mu i p ∉ as) → f = []) := by
    intro i
    by_cases h : ∃ p, Ar.mu i p ∈ as
    · obtain ⟨p, hp⟩ := h
      obtain ⟨k, hk⟩ := List.getElem?_of_mem hp
      have hget := arSlots_get hs hk
      obtain ⟨o1, ho1, _⟩ : ∃ o, ownP env i p = some o ∧ ss[k]? = some (.rf o) := hget
      obtain ⟨s, o, e1, e2, e3, e4⟩ := ownP_out ho1
      obtain ⟨v0, w, f1, q1, q2, q3, q4, q5⟩ := (s1 i s e1).sub (ok3 i p hp) e2 e3
      refine ⟨f1, fun p' hp' => ?_, fun n => absurd hp (n p)⟩
      obtain ⟨k', hk'⟩ := List.getElem?_of_mem hp'
      have ek := ok1 k k' i p p' hk hk'
      subst ek
      rw [hk] at hk'
      cases hk'
      exact ⟨s, o, o1, v0, w, e1, e2, e4, e3, ho1, q1, q2, q3, q4, q5⟩
    · exact ⟨[], fun p hp => absurd ⟨p, hp⟩ h, fun _ => rfl⟩
  let f : Nat → List Addr := fun i => (ex i).choose
  have hf := fun i => (ex i).choose_spec
  have hfsub : ∀ i b, b ∈ f i → b ∈ fp i ∧ i < env.length ∧ ∃ p, Ar.mu i p ∈ as := fun i b hb => by
    by_cases h : ∃ p, Ar.mu i p ∈ as
    · obtain ⟨p, hp⟩ := h
      obtain ⟨s, o, o1, v0, w, e1, _, _, _, _, _, _, _, e5, _⟩ := (hf i).1 p hp
      exact ⟨e5 b hb, (List.getElem?_eq_some_iff.mp e1).1, p, hp⟩
    · have z := (hf i).2 fun p hp => h ⟨p, hp⟩
      have hb' : b ∈ (ex i).choose := hb
      rw [z] at hb'; cases hb'
  let F : Addr → Prop := fun b => ∃ i, b ∈ f i
  have hFβ : ∀ b, F b → G b = none ∧ (β.H b = none ∨ β.F b) := fun b ⟨i, hb⟩ => by
    obtain ⟨h1, h2, _⟩ := hfsub i b hb
    exact s2 i b h2 h1
  have hFi : ∀ i b, i < env.length → b ∈ fp i → F b → b ∈ f i := fun i b hi hb ⟨j, hj⟩ => by
    obtain ⟨h1, h2, _⟩ := hfsub j b hj
    have := s3 j i b h2 hi h1 hb
    subst this
    exact hj
  have thr : ∀ i b, i < env.length → b ∈ fp i → H b ≠ none := fun i b hi hb => (s1 i env[i] (by simp [hi])).there b hb
  have hHm : ∃ Hm : Hp, (∀ b u, Hm b = some u ↔ H b = some u ∧ ¬ F b) := by
    classical
    refine ⟨fun b => if F b then none else H b, fun b u => ?_⟩
    by_cases h : F b
    · simp [h]
    · simp [h]
  obtain ⟨Hm, hHm⟩ := hHm
  have gHm : Same G Hm := fun b u h => (hHm b u).mpr ⟨r.gh b u h, fun z => by rw [(hFβ b z).1] at h; cases h⟩
  have HmH : Same Hm H := fun b u h => ((hHm b u).mp h).1
  refine ⟨F, ⟨?_, Same.refl _, r.gh, fun b u h _ => h, fun b _ _ h => h, fun k => match as[k]? with | some (.mu i p) => f i | _ => [], ?_, ?_, ?_, fun b hb => by cases hb⟩, ?_, fun b ⟨i, hb⟩ => ⟨⟨i, (hfsub i b hb).2.2⟩, hFβ b ⟨i, hb⟩⟩⟩
  · rw [List.length_map, hlen, arSlots_len hs]
  · intro k s hk
    have hkl : k < as.length := by rw [← arSlots_len hs]; exact (List.getElem?_eq_some_iff.mp hk).1
    obtain ⟨a, ha⟩ : ∃ a, as[k]? = some a := ⟨as[k], by simp [hkl]⟩
    obtain ⟨v, hv, hr⟩ := ra.get ha
    have hσ : (vs.map some)[k]? = some (some v) := by rw [List.getElem?_map, hv]; rfl
    have hσ' := getD_of hσ
    have hget := arSlots_get hs ha
    cases a with
    | v m =>
      have hget' : ss[k]? = some (.ow (.fro m)) := hget
      rw [hk] at hget'; cases hget'
      simp only [ha]
      unfold SRep
      refine ⟨v, hσ', ?_⟩
      unfold RepO
      exact ⟨rfl, hr⟩
    | mu i p =>
      obtain ⟨o1, g1, g2⟩ : ∃ o, ownP env i p = some o ∧ ss[k]? = some (.rf o) := hget
      rw [hk] at g2; cases g2
      simp only [ha]
      obtain ⟨s, o, o1', v0, w, e1, e2, e3, e4, e4', e5, e6, e7, _⟩ := (hf i).1 p (List.mem_of_getElem? ha)
      rw [g1] at e4'; cases e4'
      obtain ⟨v0', z1, z2⟩ : ∃ v0, σ[i]? = some (some v0) ∧ PAt K H v0 p v := hr
      rw [getD_of z1] at e5; cases e5
      have := PAt.uniq e6 z2
      subst this
      unfold SRep
      exact ⟨w, hσ', hσ, e7⟩
    | br i p =>
      obtain ⟨o1, g1, g2⟩ : ∃ o, getP env i p = some o ∧ ss[k]? = some (.bo o) := hget
      rw [hk] at g2; cases g2
      simp only [ha]
      obtain ⟨v0', z1, z2⟩ : ∃ v0, σ[i]? = some (some v0) ∧ PAt K H v0 p v := hr
      obtain ⟨nm, hp⟩ := ok2 i p (List.mem_of_getElem? ha)
      have nF : ∀ b, i < env.length → b ∈ fp i → ¬ F b := fun b hi hb z => nm (mem_muS.mpr (hfsub i b (hFi i b hi hb z)).2.2)
      unfold SRep
      refine ⟨rfl, v, hσ', hσ, Hm, fun b u h => (hHm b u).mp h, ?_⟩
      show RepB K cl Hm G o1 v
      unfold getP at g1
      cases e : env[i]? with
      | none => rw [e] at g1; cases g1
      | some s =>
        rw [e] at g1
        have hi := (List.getElem?_eq_some_iff.mp e).1
        have q := s1 i s e
        have fin : ∀ o0, slotO s = some o0 → σ.getD i none = some v0' → RepB K cl Hm G o0 v0' → RepB K cl Hm G o1 v := fun o0 h0 _ hb => by
          simp only [h0] at g1
          obtain ⟨w, q1, q2⟩ := RepB.place gHm hp hb g1
          have := PAt.uniq (PAt.same HmH q1) z2
          subst this
          exact q2
        cases s with
        | un => simp [slotO] at g1
        | ow o0 =>
          unfold SRep at q
          obtain ⟨v1, h1, q⟩ := q
          rw [getD_of z1] at h1; cases h1
          exact fin o0 rfl (getD_of z1) (RepO.b _ _ _ (RepO.frame (Same.refl _) _ _ _ (fun b hb u h => (hHm b u).mpr ⟨h, nF b hi hb⟩) q))
        | rf o0 =>
          unfold SRep at q
          obtain ⟨v1, h1, _, q⟩ := q
          rw [getD_of z1] at h1; cases h1
          exact fin o0 rfl (getD_of z1) (RepO.b _ _ _ (RepO.frame (Same.refl _) _ _ _ (fun b hb u h => (hHm b u).mpr ⟨h, nF b hi hb⟩) q))
        | bo o0 =>
          unfold SRep at q
          obtain ⟨_, v1, h1, _, Hb, hb, q⟩ := q
          rw [getD_of z1] at h1; cases h1
          refine fin o0 rfl (getD_of z1) (RepB.same (fun b u h => (hHm b u).mpr ⟨r.hk b u (hb b u h).1 (hb b u h).2, fun z => ?_⟩) r.g0 _ _ q)
          rcases (hFβ b z).2 with y | y
          · rw [(hb b u h).1] at y; cases y
          · exact (hb b u h).2 y
  · intro k b hk hb
    dsimp only at hb
    split at hb
    · rename_i i p e
      exact ⟨(hFβ b ⟨i, hb⟩).1, .inr ⟨i, hb⟩⟩
    · cases hb
  · intro k l b hk hl h1 h2
    dsimp only at h1 h2
    split at h1
    · rename_i i p e
      split at h2
      · rename_i j q e'
        obtain ⟨y1, y2, _⟩ := hfsub i b h1
        obtain ⟨y3, y4, _⟩ := hfsub j b h2
        have := s3 i j b y2 y4 y1 y3
        subst this
        exact ok1 k l i p q e e'
      · cases h2
    · cases h1
  · intro σ' H' G' env' X' env2 r' hb2
    obtain ⟨fc, c1, c2, c3, c4⟩ := r'.sl
    have hk' : ∀ b u, H b = some u → ¬ F b → H' b = some u := r'.hk
    have gk' : ∀ b, H b ≠ none → ¬ F b → G b = none → G' b = none := r'.gk
    have g0' : Same G G' := r'.g0
    -- the new content of each slot
    have new : ∀ i s2, env2[i]? = some s2 → ∃ fq, SRep K cl β H' G' i (σ.getD i none) s2 fq ∧ ∀ b ∈ fq, (∃ k, k < env'.length ∧ (∃ p, as[k]? = some (.mu i p)) ∧ b ∈ fc k) ∨ (b ∈ fp i ∧ b ∉ f i) := by
      intro i s2 e2
      by_cases h : ∃ p, Ar.mu i p ∈ as
      · obtain ⟨p, hp⟩ := h
        obtain ⟨k, hk⟩ := List.getElem?_of_mem hp
        obtain ⟨s, o, o1, v0, w, e1, e3, e4, e5, _, e6, e7, e8, e9, e10⟩ := (hf i).1 p hp
        obtain ⟨o', t1, t2⟩ := backE_mu ok hb2 hk
        have hi := (List.getElem?_eq_some_iff.mp e1).1
        have hkl := (List.getElem?_eq_some_iff.mp t1).1
        rw [setP_self, e1] at t2
        simp only [e4] at t2
        rw [e2] at t2; cases t2
        have q := c1 k _ t1
        unfold SRep at q
        obtain ⟨v, _, q2, q3⟩ := q
        obtain ⟨vv, hv, hr⟩ := ra.get hk
        have hσ : (vs.map some)[k]? = some (some vv) := by rw [List.getElem?_map, hv]; rfl
        have q2' : (vs.map some)[k]? = some (some v) := q2
        have evv : vv = v := by rw [hσ] at q2'; exact Option.some.inj (Option.some.inj q2')
        subst evv
        obtain ⟨v0', z1, z2⟩ : ∃ v0, σ[i]? = some (some v0) ∧ PAt K H v0 p vv := hr
        rw [getD_of z1] at e6; cases e6
        have := PAt.uniq e7 z2
        subst this
        obtain ⟨fq, u1, u2⟩ := e10 H' G' o' (fc k) g0' (fun b hb hn u hu => hk' b u hu fun z => hn (hFi i b hi hb z)) q3 fun b hb z => by
          rcases (c2 k b hkl hb).2 with y | y
          · exact absurd y (thr i b hi z)
          · exact hFi i b hi z y
        refine ⟨fq, u1, fun b hb => ?_⟩
        rcases u2 b hb with y | y
        · exact .inl ⟨k, hkl, ⟨p, hk⟩, y⟩
        · exact .inr y
      · have hn : i ∉ muS as := fun z => h (mem_muS.mp z)
        rw [backE_out hb2 hn] at e2
        have hi := (List.getElem?_eq_some_iff.mp e2).1
        have z := (hf i).2 fun p hp => h ⟨p, hp⟩
        have zf : ∀ b, b ∉ f i := fun b hb => by
          have hb' : b ∈ (ex i).choose := hb
          rw [z] at hb'; cases hb'
        exact ⟨fp i, (s1 i s2 e2).frame g0' fun b hb u hu => hk' b u hu fun y => zf b (hFi i b hi hb y), fun b hb => .inr ⟨hb, zf b⟩⟩
    have ch : ∃ fq : Nat → List Addr, ∀ i s2, env2[i]? = some s2 → SRep K cl β H' G' i (σ.getD i none) s2 (fq i) ∧ ∀ b ∈ fq i, (∃ k, k < env'.length ∧ (∃ p, as[k]? = some (.mu i p)) ∧ b ∈ fc k) ∨ (b ∈ fp i ∧ b ∉ f i) := by
      have z : ∀ i, ∃ fq : List Addr, ∀ s2, env2[i]? = some s2 → SRep K cl β H' G' i (σ.getD i none) s2 fq ∧ ∀ b ∈ fq, (∃ k, k < env'.length ∧ (∃ p, as[k]? = some (.mu i p)) ∧ b ∈ fc k) ∨ (b ∈ fp i ∧ b ∉ f i) := fun i => by
        cases e : env2[i]? with
        | none => exact ⟨[], fun s2 h => by cases h⟩
        | some s2 =>
          obtain ⟨fq, h1, h2⟩ := new i s2 e
          exact ⟨fq, fun s3 h => by cases h; exact ⟨h1, h2⟩⟩
      exact ⟨fun i => (z i).choose, fun i => (z i).choose_spec⟩
    obtain ⟨fq, hq⟩ := ch
    have ln : env2.length = env.length := backE_len hb2
    have at2 : ∀ i (hi : i < env2.length), env2[i]? = some env2[i] := fun i hi => by simp [hi]
    have βof : ∀ b, H b = none → β.H b = none ∨ β.F b := fun b z => by
      by_cases n : β.F b
      · exact .inr n
      · left
        cases q : β.H b with
        | none => rfl
        | some u => rw [r.hk b u q n] at z; cases z
    refine ⟨ln.trans r.len, r.g0.trans g0', r'.gh, fun b u q n => hk' b u (r.hk b u q n) fun z => ?_, fun b hb n q => ?_, fq, fun i s2 e2 => (hq i s2 e2).1, fun i b hi hb => ?_, fun i j b hi hj h1 h2 => ?_, fun b hb => ?_⟩
    · rcases (hFβ b z).2 with y | y
      · rw [q] at y; cases y
      · exact n y
    · obtain ⟨u, hu⟩ := Option.ne_none_iff_exists'.mp hb
      refine gk' b (by rw [r.hk b u hu n]; simp) (fun z => ?_) (r.gk b hb n q)
      rcases (hFβ b z).2 with y | y
      · exact hb y
      · exact n y
    · rcases (hq i _ (at2 i hi)).2 b hb with ⟨k, hk, _, y⟩ | y
      · refine ⟨(c2 k b hk y).1, ?_⟩
        rcases (c2 k b hk y).2 with z | z
        · exact βof b z
        · exact (hFβ b z).2
      · have hi' : i < env.length := by rw [← ln]; exact hi
        have z := s2 i b hi' y.1
        exact ⟨gk' b (thr i b hi' y.1) (fun x => y.2 (hFi i b hi' y.1 x)) z.1, z.2⟩
    · have hi' : i < env.length := by rw [← ln]; exact hi
      have hj' : j < env.length := by rw [← ln]; exact hj
      have cross : ∀ i j, i < env.length → j < env.length → (∃ k, k < env'.length ∧ (∃ p, as[k]? = some (.mu i p)) ∧ b ∈ fc k) → b ∈ fp j ∧ b ∉ f j → False := fun i j hi hj ⟨k, hk, _, y⟩ x => by
        rcases (c2 k b hk y).2 with z | z
        · exact thr j b hj x.1 z
        · exact x.2 (hFi j b hj x.1 z)
      rcases (hq i _ (at2 i hi)).2 b h1 with y | y
      · rcases (hq j _ (at2 j hj)).2 b h2 with x | x
        · obtain ⟨k, hk, ⟨p, hp⟩, yk⟩ := y
          obtain ⟨l, hl, ⟨q, hq'⟩, xl⟩ := x
          have := c3 k l b hk hl yk xl
          subst this
          rw [hp] at hq'; cases hq'
          rfl
        · exact (cross i j hi' hj' y x).elim
      · rcases (hq j _ (at2 j hj)).2 b h2 with x | x
        · exact (cross j i hj' hi' x y).elim
        · exact s3 i j b hi' hj' y.1 x.1
    · obtain ⟨d1, d2, d3, d4⟩ := c4 b hb
      refine ⟨d1, d2, ?_, fun i hi z => ?_⟩
      · rcases d3 with z | z
        · exact βof b z
        · exact (hFβ b z).2
      · have hi' : i < env.length := by rw [← ln]; exact hi
        rcases (hq i _ (at2 i hi)).2 b z with ⟨k, hk, _, y⟩ | y
        · exact d4 k hk y
        · rcases d3 with x | x
          · exact thr i b hi' y.1 x
          · exact y.2 (hFi i b hi' y.1 x)
theorem R.callF (r : R K cl β σ H G env []) {as : List Ar} {vs : List V} {ss : Env} (ra : ArReps K cl σ H G as vs) (hs : arSlots env as = some ss) (ok : arOk (muS as) as = true) :
    ∃ F : Addr → Prop, R K cl ⟨H, G, F, vs.map some⟩ (vs.map some) H G ss [] ∧
      (∀ (σ' : L2.St) (H' G' : Hp) (env' : Env) (X' : List Addr) (env2 : Env), R K cl ⟨H, G, F, vs.map some⟩ σ' H' G' env' X' → backE env as env' = some env2 → R K cl β σ H' G' env2 X') ∧ (∀ b, F b → ∃ i p, Ar.mu i p ∈ as) := by
  obtain ⟨F, a, b, c⟩ := r.callG ra hs ok
  exact ⟨F, a, b, fun x h => (c x h).1⟩
end
end C
namespace C
open PySem PySem.Spec PyProof.Rows L2
/-- the lent slots of the first are those of the second, borrowed ones with the same content -/
def boSub : Env → Env → Prop
  | .bo o :: e, s :: e' => s = .bo o ∧ boSub e e'
  | .rf _ :: e, s :: e' => (∃ o, s = .rf o) ∧ boSub e e'
  | .un :: e, _ :: e' => boSub e e'
  | .ow _ :: e, _ :: e' => boSub e e'
  | [], _ => True
  | _ :: _, [] => False
theorem boSub_get : ∀ {e e' : Env} {i : Nat} {s : Slot}, boSub e e' → e[i]? = some s → (∀ o, s = .bo o → e'[i]? = some (.bo o)) ∧ (∀ o, s = .rf o → ∃ o', e'[i]? = some (.rf o'))
  | [], _, _, _, _, h => by simp at h
  | .bo o :: e, [], _, _, h, _ => (show False from h).elim
  | .rf o :: e, [], _, _, h, _ => (show False from h).elim
  | .un :: e, [], _, _, h, _ => (show False from h).elim
  | .ow o :: e, [], _, _, h, _ => (show False from h).elim
  | .bo o :: e, s' :: e', i, s, h, q => by
    cases i with
    | zero =>
      simp at q; subst q
      exact ⟨fun o' z => by cases z; simp [h.1], fun o' z => by cases z⟩
    | succ i => simpa using boSub_get (i := i) h.2 (by simpa using q)
  | .rf o :: e, s' :: e', i, s, h, q => by
    cases i with
    | zero =>
      simp at q; subst q
      obtain ⟨⟨o1, h1⟩, _⟩ := h
      exact ⟨fun o' z => (by cases z), fun o' z => ⟨o1, by simp [h1]⟩⟩
    | succ i => simpa using boSub_get (i := i) h.2 (by simpa using q)
  | .un :: e, s' :: e', i, s, h, q => by
    cases i with
    | zero => simp at q; subst q; exact ⟨fun o' z => (by cases z), fun o' z => (by cases z)⟩
    | succ i => simpa using boSub_get (e := e) (i := i) h (by simpa using q)
  | .ow o :: e, s' :: e', i, s, h, q => by
    cases i with
    | zero => simp at q; subst q; exact ⟨fun o' z => (by cases z), fun o' z => (by cases z)⟩
    | succ i => simpa using boSub_get (e := e) (i := i) h (by simpa using q)
section
variable {K : PySem.W.Frag} {cl : Nat → Addr} {H H' G G' : Hp} {β : Bs} {σ : L2.St} {env : Env} {X : List Addr}
/-- a slot is lent while a loop runs -/
theorem R.pin (r : R K cl β σ H G env []) {i : Nat} {s : Slot} {o : OV} (e : env[i]? = some s) (ho : ownS s = some o) :
    ∃ F : Addr → Prop, R K cl ⟨H, G, F, σ⟩ σ H G (env.set i (.bo o)) [] ∧ (∃ Hm : Hp, (∀ b u, Hm b = some u → H b = some u ∧ ¬ F b) ∧ Same G Hm ∧ ∃ v, σ[i]? = some (some v) ∧ RepB K cl Hm G o v) ∧
      ∀ (σ' : L2.St) (H' G' : Hp) (env2 : Env) (X' : List Addr), R K cl ⟨H, G, F, σ⟩ σ' H' G' env2 X' → env2[i]? = some (.bo o) → boSub env2 (env.set i (.bo o)) → R K cl β σ' H' G' (env2.set i (putS s o)) X' := by
  obtain ⟨fp, s1, s2, s3, s4⟩ := r.sl
  have hi : i < env.length := (List.getElem?_eq_some_iff.mp e).1
  have thr : ∀ i b, i < env.length → b ∈ fp i → H b ≠ none := fun i b hi hb => (s1 i env[i] (by simp [hi])).there b hb
  let F : Addr → Prop := fun b => ∃ j, j < env.length ∧ j ≠ i ∧ b ∈ fp j
  have hF : ∀ b, F b → G b = none ∧ (β.H b = none ∨ β.F b) := fun b ⟨j, h1, _, h3⟩ => s2 j b h1 h3
  have hFi : ∀ b ∈ fp i, ¬ F b := fun b hb ⟨j, h1, h2, h3⟩ => h2 (s3 j i b h1 hi h3 hb)
  have hHm : ∃ Hm : Hp, (∀ b u, Hm b = some u ↔ H b = some u ∧ ¬ F b) := by
    classical
    refine ⟨fun b => if F b then none else H b, fun b u => ?_⟩
    by_cases h : F b
    · simp [h]
    · simp [h]
  obtain ⟨Hm, hHm⟩ := hHm
  have gHm : Same G Hm := fun b u h => (hHm b u).mpr ⟨r.gh b u h, fun z => by rw [(hF b z).1] at h; cases h⟩
  obtain ⟨v, hv, ho1⟩ : ∃ v, σ.getD i none = some v ∧ RepO K cl H G o v (fp i) := by
    have q := s1 i s e
    cases s with
    | un => cases ho
    | bo o => cases ho
    | ow o' => cases ho; unfold SRep at q; exact q
    | rf o' => cases ho; unfold SRep at q; obtain ⟨v, q1, _, q2⟩ := q; exact ⟨v, q1, q2⟩
  have hb0 : RepB K cl Hm G o v := RepO.b _ _ _ (RepO.frame (Same.refl _) _ _ _ (fun b hb u h => (hHm b u).mpr ⟨h, hFi b hb⟩) ho1)
  have hσ := getD_some hv
  refine ⟨F, ⟨by rw [List.length_set, r.len], Same.refl _, r.gh, fun b u h _ => h, fun b _ _ h => h, fun j => if j = i then [] else fp j, fun j s' hs => ?_, fun j b hj hb => ?_, fun j k b hj hk h1 h2 => ?_, fun b hb => by cases hb⟩, ⟨Hm, fun b u h => (hHm b u).mp h, gHm, v, hσ, hb0⟩, ?_⟩
  · dsimp only
    by_cases ej : j = i
    · subst ej
      rw [if_pos rfl]
      rw [List.getElem?_set_self hi] at hs
      cases hs
      unfold SRep
      exact ⟨rfl, v, hv, hσ, Hm, fun b u h => (hHm b u).mp h, hb0⟩
    · rw [if_neg ej]
      rw [List.getElem?_set_ne (Ne.symm ej)] at hs
      have q := s1 j s' hs
      cases s' with
      | un => unfold SRep at q ⊢; exact q
      | ow o' => unfold SRep at q ⊢; exact q
      | rf o' =>
        unfold SRep at q ⊢
        obtain ⟨v', q1, q2, q3⟩ := q
        exact ⟨v', q1, getD_some q1, q3⟩
      | bo o' =>
        unfold SRep at q ⊢
        obtain ⟨q0, v', q1, q2, Hb, hb, q3⟩ := q
        refine ⟨q0, v', q1, getD_some q1, Hb, fun b u h => ⟨r.hk b u (hb b u h).1 (hb b u h).2, fun z => ?_⟩, RepB.same (Same.refl _) r.g0 _ _ q3⟩
        rcases (hF b z).2 with y | y
        · rw [(hb b u h).1] at y; cases y
        · exact (hb b u h).2 y
  · dsimp only at hb
    rw [List.length_set] at hj
    by_cases ej : j = i
    · rw [if_pos ej] at hb; cases hb
    · rw [if_neg ej] at hb
      exact ⟨(s2 j b hj hb).1, .inr ⟨j, hj, ej, hb⟩⟩
  · dsimp only at h1 h2
    rw [List.length_set] at hj hk
    by_cases ej : j = i
    · rw [if_pos ej] at h1; cases h1
    · by_cases ek : k = i
      · rw [if_pos ek] at h2; cases h2
      · rw [if_neg ej] at h1; rw [if_neg ek] at h2
        exact s3 j k b hj hk h1 h2
  · intro σ' H' G' env2 X' r' e2 bs
    obtain ⟨fc, c1, c2, c3, c4⟩ := r'.sl
    have hk' : ∀ b u, H b = some u → ¬ F b → H' b = some u := r'.hk
    have gk' : ∀ b, H b ≠ none → ¬ F b → G b = none → G' b = none := r'.gk
    have g0' : Same G G' := r'.g0
    have hi2 : i < env2.length := (List.getElem?_eq_some_iff.mp e2).1
    have βof : ∀ b, H b = none → β.H b = none ∨ β.F b := fun b z => by
      by_cases n : β.F b
      · exact .inr n
      · left
        cases q : β.H b with
        | none => rfl
        | some u => rw [r.hk b u q n] at z; cases z
    have nFi : ∀ b u, β.H b = some u → ¬ β.F b → ¬ F b := fun b u q n z => by
      rcases (hF b z).2 with y | y
      · rw [q] at y; cases y
      · exact n y
    have vi : σ'.getD i none = some v := by
      have q := c1 i _ e2
      unfold SRep at q
      obtain ⟨_, v', q1, q2, _⟩ := q
      have q2' : σ[i]? = some (some v') := q2
      rw [hσ] at q2'
      cases q2'
      exact q1
    have at2 : ∀ j (hj : j < env2.length), env2[j]? = some env2[j] := fun j hj => by simp [hj]
    have old : ∀ j o', env2[j]? = some (.rf o') → j ≠ i → β.σ[j]? = σ[j]? := fun j o' h hj => by
      obtain ⟨_, h2⟩ := boSub_get bs h
      obtain ⟨o1, h3⟩ := h2 o' rfl
      rw [List.getElem?_set_ne (Ne.symm hj)] at h3
      have q := s1 j _ h3
      unfold SRep at q
      obtain ⟨v', q1, q2, _⟩ := q
      rw [q2, getD_some q1]
    have oldb : ∀ j o', env2[j]? = some (.bo o') → j ≠ i → SRep K cl β H G j (σ.getD j none) (.bo o') (fp j) := fun j o' h hj => by
      obtain ⟨h2, _⟩ := boSub_get bs h
      have h3 := h2 o' rfl
      rw [List.getElem?_set_ne (Ne.symm hj)] at h3
      exact s1 j _ h3
    refine ⟨by rw [List.length_set, r'.len], r.g0.trans g0', r'.gh, fun b u q n => hk' b u (r.hk b u q n) (nFi b u q n), fun b hb n q => ?_, fun j => if j = i then fp i else fc j, fun j s' hs => ?_, fun j b hj hb => ?_, fun j k b hj hk h1 h2 => ?_, fun b hb => ?_⟩
    · obtain ⟨u, hu⟩ := Option.ne_none_iff_exists'.mp hb
      exact gk' b (by rw [r.hk b u hu n]; simp) (nFi b u hu n) (r.gk b hb n q)
    · dsimp only
      by_cases ej : j = i
      · subst ej
        rw [if_pos rfl]
        rw [List.getElem?_set_self hi2] at hs
        cases hs
        have q := RepO.frame g0' o v (fp j) (fun b hb u h => hk' b u h (hFi b hb)) ho1
        cases s with
        | un => cases ho
        | bo o => cases ho
        | ow o' => unfold putS SRep; exact ⟨v, vi, q⟩
        | rf o' =>
          have q0 := s1 j _ e
          unfold SRep at q0
          obtain ⟨v', q1, q2, _⟩ := q0
          rw [hv] at q1; cases q1
          unfold putS SRep
          exact ⟨v, vi, q2, q⟩
      · rw [if_neg ej]
        rw [List.getElem?_set_ne (Ne.symm ej)] at hs
        have q := c1 j s' hs
        cases s' with
        | un => unfold SRep at q ⊢; exact q
        | ow o' => unfold SRep at q ⊢; exact q
        | rf o' =>
          unfold SRep at q ⊢
          obtain ⟨v', q1, q2, q3⟩ := q
          exact ⟨v', q1, (old j o' hs ej).trans q2, q3⟩
        | bo o' =>
          unfold SRep at q
          obtain ⟨q0, v', q1, q2, _⟩ := q
          have z := oldb j o' hs ej
          unfold SRep at z ⊢
          obtain ⟨_, v2, z1, z2, z3⟩ := z
          have q2' : σ[j]? = some (some v') := q2
          rw [getD_some z1] at q2'
          cases q2'
          exact ⟨q0, _, q1, z2, z3⟩
    · dsimp only at hb
      rw [List.length_set] at hj
      by_cases ej : j = i
      · rw [if_pos ej] at hb
        have z := s2 i b hi hb
        exact ⟨gk' b (thr i b hi hb) (hFi b hb) z.1, z.2⟩
      · rw [if_neg ej] at hb
        refine ⟨(c2 j b hj hb).1, ?_⟩
        rcases (c2 j b hj hb).2 with z | z
        · exact βof b z
        · exact (hF b z).2
    · dsimp only at h1 h2
      rw [List.length_set] at hj hk
      have cross : ∀ k, k < env2.length → b ∈ fp i → b ∈ fc k → False := fun k hk h1 h2 => by
        rcases (c2 k b hk h2).2 with z | z
        · exact thr i b hi h1 z
        · exact hFi b h1 z
      by_cases ej : j = i
      · by_cases ek : k = i
        · exact ej.trans ek.symm
        · rw [if_pos ej] at h1; rw [if_neg ek] at h2
          exact (cross k hk h1 h2).elim
      · by_cases ek : k = i
        · rw [if_neg ej] at h1; rw [if_pos ek] at h2
          exact (cross j hj h2 h1).elim
        · rw [if_neg ej] at h1; rw [if_neg ek] at h2
          exact c3 j k b hj hk h1 h2
    · obtain ⟨d1, d2, d3, d4⟩ := c4 b hb
      refine ⟨d1, d2, ?_, fun j hj z => ?_⟩
      · rcases d3 with z | z
        · exact βof b z
        · exact (hF b z).2
      · dsimp only at z
        rw [List.length_set] at hj
        by_cases ej : j = i
        · rw [if_pos ej] at z
          rcases d3 with y | y
          · exact thr i b hi z y
          · exact hFi b z y
        · rw [if_neg ej] at z
          exact d4 j hj z
end
end C
namespace C
open PySem PySem.Spec PyProof.Rows L2
abbrev EX := Env → (MV → Prop) → Prop
abbrev QX := Env → (OV → Prop) → Prop
abbrev TX := Env → (Bool → Prop) → Prop
abbrev AX := Env → (List Ar → Prop) → Prop

section
variable (K : PySem.W.Frag) (cl : Nat → Addr)
def eOf (f : EX) : TE := fun σ H Q => ∃ β G env, R K cl β σ H G env [] ∧ f env fun m => ∀ v H' G', Ext H G H' G' → Rep K cl G' m v → Q v H'
def qOf (f : QX) : TE := fun σ H Q => ∃ β G env, R K cl β σ H G env [] ∧ f env fun o => ∀ v H' G', Ext H G H' G' → RepB K cl H' G' o v → Q v H'
def tOf (f : TX) : TT := fun σ H Q => ∃ β G env, R K cl β σ H G env [] ∧ f env fun b => ∀ H' G', Ext H G H' G' → Q b H'
def aOf (f : AX) : TA := fun σ H Q => ∃ β G env, R K cl β σ H G env [] ∧ f env fun as => ∀ vs H' G', Ext H G H' G' → ArReps K cl σ H' G' as vs → Q vs H'
end
structure ME (X : Cx) (cl : Nat → Addr) (E : Expr) (f : EX) : Prop where
  mo : ∀ env (Q Q' : MV → Prop), (∀ m, Q m → Q' m) → f env Q → f env Q'
  pe : PE X E (eOf X.K cl f)
structure MQ (X : Cx) (cl : Nat → Addr) (E : Expr) (f : QX) : Prop where
  mo : ∀ env (Q Q' : OV → Prop), (∀ m, Q m → Q' m) → f env Q → f env Q'
  pe : PE X E (qOf X.K cl f)
structure MT (X : Cx) (cl : Nat → Addr) (E : Expr) (f : TX) : Prop where
  mo : ∀ env (Q Q' : Bool → Prop), (∀ m, Q m → Q' m) → f env Q → f env Q'
  pt : PT X E (tOf X.K cl f)
structure MA (X : Cx) (cl : Nat → Addr) (es : List Expr) (f : AX) : Prop where
  mo : ∀ env (Q Q' : List Ar → Prop), (∀ m, Q m → Q' m) → f env Q → f env Q'
  pa : PA X es (aOf X.K cl f)
theorem PEmono {X : Cx} {e : Expr} {t t' : TE} (h : PE X e t) (k : ∀ σ H Q, t' σ H Q → t σ H Q) : PE X e t' := ⟨fun pins s σ H Q I q => h.run pins s σ H Q I (k σ H Q q)⟩
theorem PTmono {X : Cx} {e : Expr} {t t' : TT} (h : PT X e t) (k : ∀ σ H Q, t' σ H Q → t σ H Q) : PT X e t' := ⟨fun pins s σ H Q I q => h.run pins s σ H Q I (k σ H Q q)⟩
theorem PAmono {X : Cx} {e : List Expr} {t t' : TA} (h : PA X e t) (k : ∀ σ H Q, t' σ H Q → t σ H Q) : PA X e t' := ⟨fun pos pins s σ H Q I q => h.run pos pins s σ H Q I (k σ H Q q)⟩

/-! ### readers of values -/
def asInt (m : MV) (Q : Int → Prop) : Prop := match m with
  | .int i => Q i
  | _ => False
def asStr (m : MV) (Q : Str → Prop) : Prop := match m with
  | .str i => Q i
  | _ => False
def asBl (m : MV) (Q : Bool → Prop) : Prop := match m with
  | .bl i => Q i
  | _ => False
def asL (o : OV) (Q : List MV → Prop) : Prop := match o with
  | .lst ms => Q ms
  | .fro (.lst ms) => Q ms
  | _ => False
def asFro (o : OV) (Q : MV → Prop) : Prop := match o with
  | .fro m => Q m
  | _ => False
theorem asInt_mo {m : MV} {Q Q' : Int → Prop} (h : ∀ i, Q i → Q' i) : asInt m Q → asInt m Q' := by
  cases m <;> first | exact fun q => q.elim | exact h _
theorem asStr_mo {m : MV} {Q Q' : Str → Prop} (h : ∀ i, Q i → Q' i) : asStr m Q → asStr m Q' := by
  cases m <;> first | exact fun q => q.elim | exact h _
theorem asBl_mo {m : MV} {Q Q' : Bool → Prop} (h : ∀ i, Q i → Q' i) : asBl m Q → asBl m Q' := by
  cases m <;> first | exact fun q => q.elim | exact h _
theorem asL_mo {o : OV} {Q Q' : List MV → Prop} (h : ∀ i, Q i → Q' i) : asL o Q → asL o Q' := by
  cases o with
  | lst ms => exact h _
  | fro m => cases m <;> first | exact fun q => q.elim | exact h _
  | _ => exact fun q => q.elim
theorem asFro_mo {o : OV} {Q Q' : MV → Prop} (h : ∀ i, Q i → Q' i) : asFro o Q → asFro o Q' := by
  cases o <;> first | exact fun q => q.elim | exact h _
section
variable {K : PySem.W.Frag} {cl : Nat → Addr} {H G : Hp}
theorem asInt_rep {m : MV} {v : V} {Q : Int → Prop} (h : asInt m Q) (r : Rep K cl G m v) : ∃ i, m = .int i ∧ v = .int i ∧ Q i := by
  cases m <;> first | exact h.elim | exact ⟨_, rfl, (by unfold Rep at r; exact r), h⟩
theorem asStr_rep {m : MV} {v : V} {Q : Str → Prop} (h : asStr m Q) (r : Rep K cl G m v) : ∃ i, m = .str i ∧ v = .str i ∧ Q i := by
  cases m <;> first | exact h.elim | exact ⟨_, rfl, (by unfold Rep at r; exact r), h⟩
theorem asBl_rep {m : MV} {v : V} {Q : Bool → Prop} (h : asBl m Q) (r : Rep K cl G m v) : ∃ i, m = .bl i ∧ v = .bl i ∧ Q i := by
  cases m <;> first | exact h.elim | exact ⟨_, rfl, (by unfold Rep at r; exact r), h⟩
theorem asL_rep {o : OV} {v : V} {Q : List MV → Prop} (g : Same G H) (h : asL o Q) (r : RepB K cl H G o v) : ∃ ms a vs, v = .ref a ∧ H a = some (.lst vs) ∧ Reps K cl G ms vs ∧ Q ms := by
  cases o with
  | lst ms =>
    unfold RepB at r
    obtain ⟨a, vs, h1, h2, h3⟩ := r
    exact ⟨ms, a, vs, h1, h2, h3, h⟩
  | fro m =>
    cases m with
    | lst ms =>
      unfold RepB Rep at r
      obtain ⟨a, vs, h1, h2, h3⟩ := r
      exact ⟨ms, a, vs, h1, g _ _ h2, h3, h⟩
    | _ => exact h.elim
  | _ => exact h.elim
theorem Same.repB {H' G' : Hp} {o : OV} {v : V} (r : RepB K cl H G o v) (e : Ext H G H' G') : RepB K cl H' G' o v := RepB.same e.hh e.gg _ _ r
theorem new_lst {p : Addr} {ms : List MV} {vs : List V} (g : Same G H) (hp : H p = none) (r : Reps K cl G ms vs) : Rep K cl (upd G p (.lst vs)) (.lst ms) (.ref p) := by
  unfold Rep
  exact ⟨p, vs, rfl, upd_same, Reps.same (same_upd (g.free hp)) _ _ r⟩
theorem new_tup {p : Addr} {ms : List MV} {vs : List V} (g : Same G H) (hp : H p = none) (r : Reps K cl G ms vs) : Rep K cl (upd G p (.tup vs)) (.tup ms) (.ref p) := by
  unfold Rep
  exact ⟨p, vs, rfl, SqT.of upd_same, Reps.same (same_upd (g.free hp)) _ _ r⟩
end

/-! ### names, places, constants -/
def eQ (qa : QX) : EX := fun env Q => qa env fun o => asFro o Q
def qE (fa : EX) : QX := fun env Q => fa env fun m => Q (.fro m)
def eK (m : MV) : EX := fun _ Q => Q m
def qPl (i : Nat) (p : List Nat) : QX := fun env Q => match getP env i p with
  | some o => Q o
  | none => False
def fld38 (p : List Nat) : Bool := p.all fun f => Nat.blt f 60
theorem fld38_out {p : List Nat} (h : fld38 p = true) : ∀ f ∈ p, f < 60 := fun f hf => Nat.le_of_ble_eq_true (List.all_eq_true.mp h f hf)
/-- the path of a place, as the walk goes it -/
def plOf (K : PySem.W.Frag) (i : Nat) (p : List Nat) : TE := fun σ H Q => ∃ v0 w, σ[i]? = some (some v0) ∧ PAt K H v0 p w ∧ Q w H
abbrev MP (X : Cx) (E : Expr) (i : Nat) (p : List Nat) : Prop := PE X E (plOf X.K i p)
theorem PAt_snoc {K : PySem.W.Frag} {H : Hp} {k : Nat} : ∀ {p : List Nat} {v w : V}, PAt K H v (p ++ [k]) w → ∃ u, PAt K H v p u ∧ PAt K H u [k] w
  | [], v, w, h => ⟨v, rfl, h⟩
  | f :: p, v, w, .inl ⟨y, a, C, dx, fs, u, h1, h2, h5, h3, h4⟩ => by
    obtain ⟨u', q1, q2⟩ := PAt_snoc (p := p) h4
    exact ⟨u', .inl ⟨y, a, C, dx, fs, u, h1, h2, h5, h3, q1⟩, q2⟩
  | f :: p, v, w, .inr ⟨y, a, xs, u, h1, h2, h3, h4⟩ => by
    obtain ⟨u', q1, q2⟩ := PAt_snoc (p := p) h4
    exact ⟨u', .inr ⟨y, a, xs, u, h1, h2, h3, q1⟩, q2⟩
section
variable {X : Cx} {cl : Nat → Addr} {a b c : Expr} {fa fb fc : EX} {qa qb qc : QX} {ta tb : TX} {pos : Pos}
theorem mp_var (i : Nat) {x : Str} {pos : Pos} (hN : X.N[i]? = some x := by rfl) (hv : Vis X.env.scope x := by first | exact Or.inl rfl | exact Or.inr (Or.inl rfl) | exact Or.inr (Or.inr rfl)) (hd : (x == ("__debug__" : Str)) = false := by decide)
    (hcd : (x == ("__classdict__" : Str)) = false := by decide) : MP X (.Name x pos) i [] :=
  PEmono (pe_var hN hv hd hcd) fun σ H Q ⟨v0, w, h1, h2, h3⟩ => by cases h2; exact ⟨v0, h1, h3⟩
theorem mp_fld {i : Nat} {p : List Nat} (k : Nat) {f : Str} {pos : Pos} (h : MP X a i p) (hf : fn k = f := by rfl) (hb : attributeBase a f X.env (eval a X.env) = eval a X.env := by rfl) (hk : Nat.blt k 38 = true := by rfl) : MP X (.Attribute a f pos) i (p ++ [k]) :=
  PEmono (pe_fld h hb) fun σ H Q ⟨v0, w, h1, h2, h3⟩ => by
    obtain ⟨u, q1, q2⟩ := PAt_snoc h2
    have hk' : k < 38 := Nat.le_of_ble_eq_true hk
    rcases q2 with ⟨_, a, C, dx, fs, u', e1, e2, e5, e3, e4⟩ | ⟨y, _⟩
    · subst hf
      exact ⟨v0, u, h1, q1, a, C, dx, fs, u', e1, e2, e5.1, e5.2, e3, by rw [show u' = w from e4]; exact h3⟩
    · exact absurd hk' (by omega)
/-- an item of a list of owned things -/
theorem mp_itm {i : Nat} {p : List Nat} (k : Nat) {ip pos : Pos} {j : Nat} {z : Int} (h : MP X a i p) (hz : z = (k : Int) := by rfl) (hs : PlainIx (.Constant (.int z) j ip) := by exact fun _ _ => rfl) : MP X (.Subscript a (.Constant (.int z) j ip) pos) i (p ++ [38 + k]) :=
  PEmono (pe_ix ix_list h pe_int hs) fun σ H Q ⟨v0, w, h1, h2, h3⟩ => by
    obtain ⟨u, q1, q2⟩ := PAt_snoc h2
    subst hz
    rcases q2 with ⟨y, _⟩ | ⟨_, a, xs, u', e1, e2, e3, e4⟩
    · exact absurd y (by omega)
    · have e3' : xs[k]? = some u' := by rw [show 38 + k - 38 = k by omega] at e3; exact e3
      refine ⟨v0, u, h1, q1, a, xs, k, u', e1, rfl, SqL.of e2, atI_nat e3', by rw [show u' = w from e4]; exact h3⟩
/-- a place that is read -/
theorem mq_pl {i : Nat} {p : List Nat} (h : MP X a i p) (hp : fld38 p = true := by rfl) : MQ X cl a (qPl i p) := by
  refine ⟨fun env Q Q' k q => ?_, PEmono h fun σ H Q ⟨β, G, env, r0, q⟩ => ?_⟩
  · unfold qPl at q ⊢
    cases e : getP env i p with
    | none => rw [e] at q; exact q
    | some o => rw [e] at q; exact k o q
  · unfold qPl at q
    cases e : getP env i p with
    | none => rw [e] at q; exact q.elim
    | some o =>
      rw [e] at q
      obtain ⟨v0, w, h1, h2, h3⟩ := r0.rd (fld38_out hp) e
      exact ⟨v0, w, h1, h2, q w H G (Ext.refl r0.gh) h3⟩
theorem me_q (h : MQ X cl a qa) : ME X cl a (eQ qa) := by
  refine ⟨fun env Q Q' k q => h.mo _ _ _ (fun o z => asFro_mo k z) q, PEmono h.pe fun σ H Q ⟨β, G, env, r0, q⟩ => ?_⟩
  refine ⟨β, G, env, r0, h.mo _ _ _ (fun o z v H' G' e rb => ?_) q⟩
  cases o with
  | fro m =>
    unfold RepB at rb
    exact z v H' G' e rb
  | _ => exact z.elim
theorem mq_e (h : ME X cl a fa) : MQ X cl a (qE fa) := by
  refine ⟨fun env Q Q' k q => h.mo _ _ _ (fun o z => k _ z) q, PEmono h.pe fun σ H Q ⟨β, G, env, r0, q⟩ => ?_⟩
  exact ⟨β, G, env, r0, h.mo _ _ _ (fun m z v H' G' e rb => z v H' G' e (by unfold RepB; exact rb)) q⟩
theorem m_int {i : Int} {j} : ME X cl (.Constant (.int i) j pos) (eK (.int i)) :=
  ⟨fun _ _ _ k q => k _ q, PEmono pe_int fun σ H Q ⟨β, G, env, r0, q⟩ => q _ H G (Ext.refl r0.gh) (by unfold Rep; rfl)⟩
theorem m_bl {i : Bool} {j} : ME X cl (.Constant (.bool i) j pos) (eK (.bl i)) :=
  ⟨fun _ _ _ k q => k _ q, PEmono pe_bl fun σ H Q ⟨β, G, env, r0, q⟩ => q _ H G (Ext.refl r0.gh) (by unfold Rep; rfl)⟩
theorem m_non {j} : ME X cl (.Constant .none j pos) (eK .non) :=
  ⟨fun _ _ _ k q => k _ q, PEmono pe_non fun σ H Q ⟨β, G, env, r0, q⟩ => q _ H G (Ext.refl r0.gh) (by unfold Rep; rfl)⟩
theorem m_str {x : Str} {j} : ME X cl (.Constant (.str x) j pos) (eK (.str x)) :=
  ⟨fun _ _ _ k q => k _ q, PEmono pe_str fun σ H Q ⟨β, G, env, r0, q⟩ => q _ H G (Ext.refl r0.gh) (by unfold Rep; rfl)⟩

/-! ### two operands -/
theorem m_bin {op : Operator} {r : R2} (ho : OpR X (binaryOp op) r) (g : OV → OV → (MV → Prop) → Prop) (gm : ∀ m n Q Q', (∀ k, Q k → Q' k) → g m n Q → g m n Q')
    (h : ∀ m n x y H G (Q : VK), Same G H → RepB X.K cl H G m x → RepB X.K cl H G n y → g m n (fun k => ∀ v H' G', Ext H G H' G' → Rep X.K cl G' k v → Q v H') → r x y H Q)
    (ha : MQ X cl a qa) (hb : MQ X cl b qb) : ME X cl (.BinOp a op b pos) (fun env Q => qa env fun m => qb env fun n => g m n Q) := by
  refine ⟨fun env Q Q' k q => ha.mo _ _ _ (fun m z => hb.mo _ _ _ (fun n z' => gm m n _ _ k z') z) q, PEmono (pe_op ho ha.pe hb.pe) fun σ H Q ⟨β, G, env, r0, q⟩ => ?_⟩
  refine ⟨β, G, env, r0, ha.mo _ _ _ (fun m q1 v H' G' e1 rv => ?_) q⟩
  refine ⟨β, G', env, r0.ext e1, hb.mo _ _ _ (fun n q2 w H2 G2 e2 rw => ?_) q1⟩
  exact h m n v w H2 G2 Q e2.gh (Same.repB rv e2) rw (gm _ _ _ _ (fun k q3 z H3 G3 e3 rz => q3 z H3 G3 ((e1.trans e2).trans e3) rz) q2)
def gI (C : Int → Int → Prop) (g : Int → Int → MV) (m n : OV) (Q : MV → Prop) : Prop := asFro m fun m => asFro n fun n => asInt m fun i => asInt n fun j => C i j ∧ Q (g i j)
theorem gI_mo {C : Int → Int → Prop} {g : Int → Int → MV} : ∀ m n (Q Q' : MV → Prop), (∀ k, Q k → Q' k) → gI C g m n Q → gI C g m n Q' := fun m n Q Q' k q =>
  asFro_mo (fun _ q => asFro_mo (fun _ q => asInt_mo (fun _ q => asInt_mo (fun _ q => ⟨q.1, k _ q.2⟩) q) q) q) q
theorem gI_out {C : Int → Int → Prop} {g : Int → Int → MV} {K : PySem.W.Frag} {H G : Hp} {m n : OV} {x y : V} {Q : MV → Prop} (rx : RepB K cl H G m x) (ry : RepB K cl H G n y) (q : gI C g m n Q) : ∃ i j, x = .int i ∧ y = .int j ∧ C i j ∧ Q (g i j) := by
  unfold gI at q
  cases m with
  | fro m =>
    cases n with
    | fro n =>
      unfold RepB at rx ry
      obtain ⟨i, rfl, rfl, q⟩ := asInt_rep (show asInt m _ from q) rx
      obtain ⟨j, rfl, rfl, q⟩ := asInt_rep q ry
      exact ⟨i, j, rfl, rfl, q⟩
    | _ => exact (asFro_mo (Q' := fun _ => False) (fun _ z => z) q).elim
  | _ => exact q.elim
def MulOk (i j : Int) : Prop := i.natAbs < 2 ^ 64 ∨ j.natAbs < 2 ^ 64 ∨ i.natAbs.log2 + j.natAbs.log2 < 1000000
theorem op_mulX : OpR X (binaryOp .Mult) (rI MulOk fun i j => .int (i * j)) := opI fun i j _ _ _ _ _ hc q => mul_int q (by
  rcases hc with h | h | h
  · exact CMul.ok (.inl ⟨by omega, by omega⟩)
  · exact CMul.ok (.inr ⟨by omega, by omega⟩)
  · exact CMulW.ok h)
theorem iop_mulX : OpR X (inplaceOp .Mult) (rI MulOk fun i j => .int (i * j)) := opI fun i j _ _ _ _ _ hc q => imul_int q (by
  rcases hc with h | h | h
  · exact CMul.ok (.inl ⟨by omega, by omega⟩)
  · exact CMul.ok (.inr ⟨by omega, by omega⟩)
  · exact CMulW.ok h)
theorem iop_fdivW : OpR X (inplaceOp .FloorDiv) (rI CDivW fun i j => .int (i / j)) := opI fun i j _ _ _ _ _ hc q => by
  have h1 : (0 : Int) < j := hc.1
  exact ifloordiv_int (by omega) (by rw [Int.fdiv_eq_ediv_of_nonneg i (by omega)]; exact q) (.inl (PyProof.noPylong_of_log2 hc.2))
def gI0 (g : Int → Int → MV) (m n : OV) (Q : MV → Prop) : Prop := asFro m fun m => asFro n fun n => asInt m fun i => asInt n fun j => Q (g i j)
theorem gI0_mo {g : Int → Int → MV} : ∀ m n (Q Q' : MV → Prop), (∀ k, Q k → Q' k) → gI0 g m n Q → gI0 g m n Q' := fun m n Q Q' k q =>
  asFro_mo (fun _ q => asFro_mo (fun _ q => asInt_mo (fun _ q => asInt_mo (fun _ q => k _ q) q) q) q) q
theorem gI0_out {g : Int → Int → MV} {K : PySem.W.Frag} {H G : Hp} {m n : OV} {x y : V} {Q : MV → Prop} (rx : RepB K cl H G m x) (ry : RepB K cl H G n y) (q : gI0 g m n Q) : ∃ i j, x = .int i ∧ y = .int j ∧ Q (g i j) := by
  unfold gI0 at q
  cases m with
  | fro m =>
    cases n with
    | fro n =>
      unfold RepB at rx ry
      obtain ⟨i, rfl, rfl, q⟩ := asInt_rep (show asInt m _ from q) rx
      obtain ⟨j, rfl, rfl, q⟩ := asInt_rep q ry
      exact ⟨i, j, rfl, rfl, q⟩
    | _ => exact (asFro_mo (Q' := fun _ => False) (fun _ z => z) q).elim
  | _ => exact q.elim
def gSubI := gI0 fun i j => .int (i - j)
def gMulI := gI MulOk fun i j => .int (i * j)
def gDivI := gI CDivW fun i j => .int (i / j)
def gModI := gI (fun _ j => 0 < j) fun i j => .int (i % j)
def gPowI := gI CPow fun i j => .int (i ^ j.toNat)
def eBin (g : OV → OV → (MV → Prop) → Prop) (qa qb : QX) : EX := fun env Q => qa env fun m => qb env fun n => g m n Q
theorem rep_int {K : PySem.W.Frag} {G : Hp} {i : Int} : Rep K cl G (.int i) (.int i) := by unfold Rep; rfl
theorem rep_bl {K : PySem.W.Frag} {G : Hp} {i : Bool} : Rep K cl G (.bl i) (.bl i) := by unfold Rep; rfl
theorem rep_str {K : PySem.W.Frag} {G : Hp} {i : Str} : Rep K cl G (.str i) (.str i) := by unfold Rep; rfl
theorem rep_non {K : PySem.W.Frag} {G : Hp} : Rep K cl G .non .non := by unfold Rep; rfl
theorem m_subI (ha : MQ X cl a qa) (hb : MQ X cl b qb) : ME X cl (.BinOp a .Sub b pos) (eBin gSubI qa qb) :=
  m_bin op_sub gSubI gI0_mo (fun m n x y H G Q g rx ry q => by obtain ⟨i, j, rfl, rfl, q⟩ := gI0_out rx ry q; exact ⟨i, j, rfl, rfl, q _ H G (Ext.refl g) rep_int⟩) ha hb
theorem m_mulI (ha : MQ X cl a qa) (hb : MQ X cl b qb) : ME X cl (.BinOp a .Mult b pos) (eBin gMulI qa qb) :=
  m_bin op_mulX gMulI gI_mo (fun m n x y H G Q g rx ry q => by obtain ⟨i, j, rfl, rfl, c, q⟩ := gI_out rx ry q; exact ⟨i, j, rfl, rfl, c, q _ H G (Ext.refl g) rep_int⟩) ha hb
theorem m_divI (ha : MQ X cl a qa) (hb : MQ X cl b qb) : ME X cl (.BinOp a .FloorDiv b pos) (eBin gDivI qa qb) :=
  m_bin op_fdivW gDivI gI_mo (fun m n x y H G Q g rx ry q => by obtain ⟨i, j, rfl, rfl, c, q⟩ := gI_out rx ry q; exact ⟨i, j, rfl, rfl, c, q _ H G (Ext.refl g) rep_int⟩) ha hb
theorem m_modI (ha : MQ X cl a qa) (hb : MQ X cl b qb) : ME X cl (.BinOp a .Mod b pos) (eBin gModI qa qb) :=
  m_bin op_mod gModI gI_mo (fun m n x y H G Q g rx ry q => by obtain ⟨i, j, rfl, rfl, c, q⟩ := gI_out rx ry q; exact ⟨i, j, rfl, rfl, c, q _ H G (Ext.refl g) rep_int⟩) ha hb
theorem m_powI (ha : MQ X cl a qa) (hb : MQ X cl b qb) : ME X cl (.BinOp a .Pow b pos) (eBin gPowI qa qb) :=
  m_bin op_pow gPowI gI_mo (fun m n x y H G Q g rx ry q => by obtain ⟨i, j, rfl, rfl, c, q⟩ := gI_out rx ry q; exact ⟨i, j, rfl, rfl, c, q _ H G (Ext.refl g) rep_int⟩) ha hb
/-- + of whatever can be added -/
def gAdd (m n : OV) (Q : MV → Prop) : Prop := match m, n with
  | .fro (.int i), .fro (.int j) => Q (.int (i + j))
  | .fro (.str x), .fro (.str y) => x.length + y.length ≤ sizeLine ∧ Q (.str (x ++ y))
  | .fro (.tup xs), .fro (.tup ys) => (xs ≠ [] ∧ ys ≠ [] ∧ xs.length + ys.length ≤ sizeLine) ∧ Q (.tup (xs ++ ys))
  | m, n => asL m fun xs => asL n fun ys => xs.length + ys.length ≤ sizeLine ∧ Q (.lst (xs ++ ys))
end
end C
namespace C
open PySem PySem.Spec PyProof.Rows L2
/-! data as the library's == takes it -/
mutual
def toD : MV → Option PyData
  | .non => some .none
  | .bl b => some (.bool b)
  | .int i => some (.int i)
  | .str x => some (.str x)
  | .lst ms => match toDs ms with
    | some ds => some (.list ds)
    | none => none
  | .tup ms => match toDs ms with
    | some ds => some (.tuple ds)
    | none => none
  | .obj _ _ => none
  | .fn _ => none
  | .dct _ _ => none
def toDs : List MV → Option (List PyData)
  | [] => some []
  | m :: ms => match toD m with
    | some d => match toDs ms with
      | some ds => some (d :: ds)
      | none => none
    | none => none
end
def toDO : OV → Option PyData
  | .fro m => toD m
  | .lst ms => toD (.lst ms)
  | _ => none
section
variable {K : PySem.W.Frag} {cl : Nat → Addr} {H H' G G' : Hp}
mutual
theorem Rep.dp (g : Same G H) : ∀ (m : MV) (v : V) (d : PyData), Rep K cl G m v → toD m = some d → Dp K H v d
  | .non, v, d, h, e => by
    unfold toD at e; cases e
    unfold Rep at h; subst h
    exact .non
  | .bl b, v, d, h, e => by
    unfold toD at e; cases e
    unfold Rep at h; subst h
    exact .bl b
  | .int b, v, d, h, e => by
    unfold toD at e; cases e
    unfold Rep at h; subst h
    exact .int b
  | .str b, v, d, h, e => by
    unfold toD at e; cases e
    unfold Rep at h; subst h
    exact .str b
  | .lst ms, v, d, h, e => by
    unfold toD at e
    cases q : toDs ms with
    | none => rw [q] at e; cases e
    | some ds =>
      rw [q] at e; cases e
      unfold Rep at h
      obtain ⟨a, vs, rfl, h2, h3⟩ := h
      exact .lst (SqL.of (g _ _ h2)) (Reps.dp g ms vs ds h3 q)
  | .tup ms, v, d, h, e => by
    unfold toD at e
    cases q : toDs ms with
    | none => rw [q] at e; cases e
    | some ds =>
      rw [q] at e; cases e
      unfold Rep at h
      obtain ⟨a, vs, rfl, h2, h3⟩ := h
      exact .tup (sqT_same g h2) (Reps.dp g ms vs ds h3 q)
  | .obj _ _, v, d, h, e => by unfold toD at e; cases e
  | .fn _, v, d, h, e => by unfold toD at e; cases e
  | .dct _ _, v, d, h, e => by unfold toD at e; cases e
theorem Reps.dp (g : Same G H) : ∀ (ms : List MV) (vs : List V) (ds : List PyData), Reps K cl G ms vs → toDs ms = some ds → DpAll K H vs ds
  | [], vs, ds, h, e => by
    unfold toDs at e; cases e
    unfold Reps at h; subst h
    exact .nil
  | m :: ms, vs, ds, h, e => by
    unfold toDs at e
    cases q : toD m with
    | none => rw [q] at e; cases e
    | some d =>
      rw [q] at e
      cases q' : toDs ms with
      | none => simp only [q'] at e; cases e
      | some ds' =>
        simp only [q'] at e; cases e
        unfold Reps at h
        obtain ⟨v, ws, rfl, h2, h3⟩ := h
        exact .cons (Rep.dp g m v d h2 q) (Reps.dp g ms ws ds' h3 q')
end
theorem RepB.dp {o : OV} {v : V} {d : PyData} (g : Same G H) (h : RepB K cl H G o v) (e : toDO o = some d) : Dp K H v d := by
  cases o with
  | fro m =>
    unfold RepB at h
    exact Rep.dp g m v d h e
  | lst ms =>
    unfold RepB at h
    obtain ⟨a, vs, rfl, h2, h3⟩ := h
    have e' : toD (.lst ms) = some d := e
    unfold toD at e'
    cases q : toDs ms with
    | none => rw [q] at e'; cases e'
    | some ds =>
      rw [q] at e'; cases e'
      exact .lst (SqL.of h2) (Reps.dp g ms vs ds h3 q)
  | _ => cases e
end
/-! ### comparisons -/
section
variable {X : Cx} {cl : Nat → Addr} {a b c : Expr} {fa fb fc : EX} {qa qb qc : QX} {ta tb : TX} {pos : Pos}
/-- a test's answer, never unfolded -/
@[irreducible] noncomputable def dB (p : Prop) : Bool := @decide p (Classical.propDecidable p)
theorem dB_eq {p : Prop} [Decidable p] : dB p = decide p := by
  unfold dB
  congr
def eqQ (neg : Bool) (p : Prop) (Q : Bool → Prop) : Prop := match neg with
  | true => Q (dB (¬ p))
  | false => Q (dB p)
theorem eqQ_eq {neg : Bool} {p : Prop} [Decidable p] {Q : Bool → Prop} (q : eqQ neg p Q) : Q (neg ^^ decide p) := by
  cases neg
  · have q' : Q (dB p) := q
    rw [dB_eq] at q'
    simpa using q'
  · have q' : Q (dB (¬ p)) := q
    rw [dB_eq] at q'
    simpa using q'
theorem eqQ_mo {neg : Bool} {p : Prop} {Q Q' : Bool → Prop} (k : ∀ b, Q b → Q' b) (q : eqQ neg p Q) : eqQ neg p Q' := by
  cases neg
  · exact k _ q
  · exact k _ q
abbrev GR := OV → OV → (Bool → Prop) → Prop
/-- a comparison, by values -/
structure GC (X : Cx) (cl : Nat → Addr) (op : CmpOp) (g : GR) : Prop where
  mo : ∀ m n (Q Q' : Bool → Prop), (∀ k, Q k → Q' k) → g m n Q → g m n Q'
  ex : ∃ r : R2, OpR X (compareOp op) r ∧ ∀ m n x y H G (Q : VK), Same G H → RepB X.K cl H G m x → RepB X.K cl H G n y → g m n (fun k => Q (.bl k) H) → r x y H Q
noncomputable def gLt : GR := fun m n Q => asFro m fun m => asFro n fun n => asInt m fun i => asInt n fun j => Q (dB (i < j))
noncomputable def gLe : GR := fun m n Q => asFro m fun m => asFro n fun n => asInt m fun i => asInt n fun j => Q (dB (i ≤ j))
noncomputable def gGt : GR := fun m n Q => asFro m fun m => asFro n fun n => asInt m fun i => asInt n fun j => Q (dB (j < i))
noncomputable def gGe : GR := fun m n Q => asFro m fun m => asFro n fun n => asInt m fun i => asInt n fun j => Q (dB (j ≤ i))
theorem g2_mo {p : Int → Int → Bool} : ∀ m n (Q Q' : Bool → Prop), (∀ k, Q k → Q' k) → (asFro m fun m => asFro n fun n => asInt m fun i => asInt n fun j => Q (p i j)) → (asFro m fun m => asFro n fun n => asInt m fun i => asInt n fun j => Q' (p i j)) :=
  fun m n Q Q' k q => asFro_mo (fun _ q => asFro_mo (fun _ q => asInt_mo (fun _ q => asInt_mo (fun _ q => k _ q) q) q) q) q
theorem g2_out {p : Int → Int → Bool} {K : PySem.W.Frag} {H G : Hp} {m n : OV} {x y : V} {Q : Bool → Prop} (rx : RepB K cl H G m x) (ry : RepB K cl H G n y) (q : asFro m fun m => asFro n fun n => asInt m fun i => asInt n fun j => Q (p i j)) : ∃ i j, x = .int i ∧ y = .int j ∧ Q (p i j) := by
  cases m with
  | fro m =>
    cases n with
    | fro n =>
      unfold RepB at rx ry
      obtain ⟨i, rfl, rfl, q⟩ := asInt_rep (show asInt m _ from q) rx
      obtain ⟨j, rfl, rfl, q⟩ := asInt_rep q ry
      exact ⟨i, j, rfl, rfl, q⟩
    | _ => exact (asFro_mo (Q' := fun _ => False) (fun _ z => z) q).elim
  | _ => exact q.elim
theorem gc_lt : GC X cl .Lt gLt := ⟨g2_mo, _, op_lt, fun m n x y H G Q g rx ry q => by obtain ⟨i, j, rfl, rfl, q⟩ := g2_out (p := fun i j => dB (i < j)) (Q := fun k => Q (.bl k) H) rx ry q; exact ⟨i, j, rfl, rfl, by rw [dB_eq] at q; exact q⟩⟩
theorem gc_le : GC X cl .LtE gLe := ⟨g2_mo, _, op_le, fun m n x y H G Q g rx ry q => by obtain ⟨i, j, rfl, rfl, q⟩ := g2_out (p := fun i j => dB (i ≤ j)) (Q := fun k => Q (.bl k) H) rx ry q; exact ⟨i, j, rfl, rfl, by rw [dB_eq] at q; exact q⟩⟩
theorem gc_gt : GC X cl .Gt gGt := ⟨g2_mo, _, op_gt, fun m n x y H G Q g rx ry q => by obtain ⟨i, j, rfl, rfl, q⟩ := g2_out (p := fun i j => dB (j < i)) (Q := fun k => Q (.bl k) H) rx ry q; exact ⟨i, j, rfl, rfl, by rw [dB_eq] at q; exact q⟩⟩
theorem gc_ge : GC X cl .GtE gGe := ⟨g2_mo, _, op_ge, fun m n x y H G Q g rx ry q => by obtain ⟨i, j, rfl, rfl, q⟩ := g2_out (p := fun i j => dB (j ≤ i)) (Q := fun k => Q (.bl k) H) rx ry q; exact ⟨i, j, rfl, rfl, by rw [dB_eq] at q; exact q⟩⟩
/-- == of nested data: not unfolded by itself -/
inductive gEqD (neg : Bool) (m n : OV) (Q : Bool → Prop) : Prop where
  | mk (d e : PyData) (h1 : toDO m = some d) (h2 : toDO n = some e) (h3 : SeqAt.shaped d = true ∧ SeqAt.shaped e = true) (q : eqQ neg (PyData.eqv d e = true) Q) : gEqD neg m n Q
/-- == : the answer p of the library's answer -/
def gEqP (neg : Bool) : GR := fun m n Q => match m, n with
  | .fro (.int i), .fro (.int j) => eqQ neg (i = j) Q
  | .fro (.str i), .fro (.str j) => eqQ neg (i = j) Q
  | .fro (.bl i), .fro (.bl j) => eqQ neg (i = j) Q
  | m, n => gEqD neg m n Q
abbrev gEq : GR := gEqP false
abbrev gNe : GR := gEqP true
theorem gEqP_cases {neg : Bool} {m n : OV} {Q : Bool → Prop} (q : gEqP neg m n Q) : (∃ i j, m = .fro (.int i) ∧ n = .fro (.int j) ∧ Q (neg ^^ decide (i = j))) ∨ (∃ i j, m = .fro (.str i) ∧ n = .fro (.str j) ∧ Q (neg ^^ decide (i = j))) ∨
    (∃ i j, m = .fro (.bl i) ∧ n = .fro (.bl j) ∧ Q (neg ^^ decide (i = j))) ∨ ∃ d e, toDO m = some d ∧ toDO n = some e ∧ SeqAt.shaped d = true ∧ SeqAt.shaped e = true ∧ Q (neg ^^ PyData.eqv d e) := by
  unfold gEqP at q
  split at q
  · exact .inl ⟨_, _, rfl, rfl, eqQ_eq q⟩
  · exact .inr (.inl ⟨_, _, rfl, rfl, eqQ_eq q⟩)
  · exact .inr (.inr (.inl ⟨_, _, rfl, rfl, eqQ_eq q⟩))
  · obtain ⟨d, e, h1, h2, h3, q⟩ := q
    exact .inr (.inr (.inr ⟨_, _, h1, h2, h3.1, h3.2, by have := eqQ_eq q; simpa using this⟩))
theorem gEqP_mo {neg : Bool} : ∀ m n (Q Q' : Bool → Prop), (∀ k, Q k → Q' k) → gEqP neg m n Q → gEqP neg m n Q' := by
  intro m n Q Q' k q
  unfold gEqP at q ⊢
  split at q
  · exact eqQ_mo k q
  · exact eqQ_mo k q
  · exact eqQ_mo k q
  · obtain ⟨d, e, h1, h2, h3, q⟩ := q
    exact .mk d e h1 h2 h3 (eqQ_mo k q)
theorem gc_eq (hu : X.A.units + 64 < cLine) : GC X cl .Eq gEq := by
  refine ⟨gEqP_mo, _, op_eq.or (op_eqD hu), fun m n x y H G Q g rx ry q => ?_⟩
  rcases gEqP_cases q with ⟨i, j, rfl, rfl, q1⟩ | ⟨i, j, rfl, rfl, q1⟩ | ⟨i, j, rfl, rfl, q1⟩ | ⟨d, e, h1, h2, h3, h4, q1⟩
  · unfold RepB Rep at rx ry; subst rx; subst ry
    refine .inl ⟨rfl, ?_⟩
    have e : (decide (V.int i = V.int j)) = (false ^^ decide (i = j)) := by simp
    rw [e]
    exact q1
  · unfold RepB Rep at rx ry; subst rx; subst ry
    refine .inl ⟨rfl, ?_⟩
    have e : (decide (V.str i = V.str j)) = (false ^^ decide (i = j)) := by simp
    rw [e]
    exact q1
  · unfold RepB Rep at rx ry; subst rx; subst ry
    refine .inl ⟨rfl, ?_⟩
    have e : (decide (V.bl i = V.bl j)) = (false ^^ decide (i = j)) := by simp
    rw [e]
    exact q1
  · exact .inr ⟨d, e, rx.dp g h1, ry.dp g h2, h3, h4, by simpa using q1⟩
theorem gc_ne (hu : X.A.units + 64 < cLine) : GC X cl .NotEq gNe := by
  refine ⟨gEqP_mo, _, op_ne.or (op_neD hu), fun m n x y H G Q g rx ry q => ?_⟩
  rcases gEqP_cases q with ⟨i, j, rfl, rfl, q1⟩ | ⟨i, j, rfl, rfl, q1⟩ | ⟨i, j, rfl, rfl, q1⟩ | ⟨d, e, h1, h2, h3, h4, q1⟩
  · unfold RepB Rep at rx ry; subst rx; subst ry
    refine .inl ⟨rfl, ?_⟩
    have e : (!decide (V.int i = V.int j)) = (true ^^ decide (i = j)) := by simp
    rw [e]
    exact q1
  · unfold RepB Rep at rx ry; subst rx; subst ry
    refine .inl ⟨rfl, ?_⟩
    have e : (!decide (V.str i = V.str j)) = (true ^^ decide (i = j)) := by simp
    rw [e]
    exact q1
  · unfold RepB Rep at rx ry; subst rx; subst ry
    refine .inl ⟨rfl, ?_⟩
    have e : (!decide (V.bl i = V.bl j)) = (true ^^ decide (i = j)) := by simp
    rw [e]
    exact q1
  · exact .inr ⟨d, e, rx.dp g h1, ry.dp g h2, h3, h4, by simpa using q1⟩
/-- is, is not: None or a truth value on the right -/
def isNon : OV → Bool
  | .fro .non => true
  | _ => false
def gIsP (neg : Bool) : GR := fun m n Q => match n with
  | .fro .non => Q (neg ^^ isNon m)
  | .fro (.bl j) => asFro m fun m => asBl m fun i => Q (neg ^^ (i == j))
  | _ => False
theorem gIsP_mo {neg : Bool} : ∀ m n (Q Q' : Bool → Prop), (∀ k, Q k → Q' k) → gIsP neg m n Q → gIsP neg m n Q' := by
  intro m n Q Q' k q
  unfold gIsP at q ⊢
  split at q
  · exact k _ q
  · exact asFro_mo (fun _ q => asBl_mo (fun _ q => k _ q) q) q
  · exact q.elim
theorem isNon_rep {K : PySem.W.Frag} {H G : Hp} {m : OV} {x : V} (r : RepB K cl H G m x) : decide (x = .non) = isNon m := by
  cases m with
  | fro m =>
    cases m with
    | non => unfold RepB Rep at r; subst r; rfl
    | tup ms => unfold RepB Rep at r; obtain ⟨a, vs, rfl, _⟩ := r; rfl
    | lst ms => unfold RepB Rep at r; obtain ⟨a, vs, rfl, _⟩ := r; rfl
    | obj c ms => unfold RepB Rep at r; obtain ⟨a, dx, vs, rfl, _⟩ := r; rfl
    | dct ks ms => unfold RepB Rep at r; obtain ⟨a, vs, rfl, _⟩ := r; rfl
    | _ => unfold RepB Rep at r; subst r; rfl
  | lst ms => unfold RepB at r; obtain ⟨a, vs, rfl, _⟩ := r; rfl
  | scr ms => unfold RepB at r; obtain ⟨a, vs, rfl, _⟩ := r; rfl
  | nst ms => unfold RepB at r; obtain ⟨a, vs, rfl, _⟩ := r; rfl
  | hol => unfold RepB at r; obtain ⟨a, rfl⟩ := r; rfl
  | dct ms => unfold RepB at r; obtain ⟨a, vs, rfl, _⟩ := r; rfl
  | obj c ms => unfold RepB at r; obtain ⟨a, dx, vs, rfl, _⟩ := r; rfl
theorem op_is_bl : OpR X (compareOp .Is) (fun x y H Q => ∃ i j, x = .bl i ∧ y = .bl j ∧ Q (.bl (i == j)) H) := by
  intro pins s σ H x y v u Q I rx ry h
  obtain ⟨i, j, rfl, rfl, q⟩ := h
  cases rx; cases ry
  exact PyProof.Rows.is_bool (fin_bl I q rfl)
theorem op_isnot_bl : OpR X (compareOp .IsNot) (fun x y H Q => ∃ i j, x = .bl i ∧ y = .bl j ∧ Q (.bl (!(i == j))) H) := by
  intro pins s σ H x y v u Q I rx ry h
  obtain ⟨i, j, rfl, rfl, q⟩ := h
  cases rx; cases ry
  exact PyProof.Rows.isnot_bool (fin_bl I q rfl)
theorem gc_is : GC X cl .Is (gIsP false) := by
  refine ⟨gIsP_mo, _, op_isN.or op_is_bl, fun m n x y H G Q g rx ry q => ?_⟩
  unfold gIsP at q
  split at q
  · unfold RepB Rep at ry; subst ry
    exact .inl ⟨rfl, by rw [isNon_rep rx]; simpa using q⟩
  · unfold RepB Rep at ry; subst ry
    cases m with
    | fro m =>
      unfold RepB at rx
      obtain ⟨i, rfl, rfl, q⟩ := asBl_rep (show asBl m _ from q) rx
      exact .inr ⟨i, _, rfl, rfl, by simpa using q⟩
    | _ => exact q.elim
  · exact q.elim
theorem gc_isnot : GC X cl .IsNot (gIsP true) := by
  refine ⟨gIsP_mo, _, op_notN.or op_isnot_bl, fun m n x y H G Q g rx ry q => ?_⟩
  unfold gIsP at q
  split at q
  · unfold RepB Rep at ry; subst ry
    exact .inl ⟨rfl, by rw [isNon_rep rx]; simpa using q⟩
  · unfold RepB Rep at ry; subst ry
    cases m with
    | fro m =>
      unfold RepB at rx
      obtain ⟨i, rfl, rfl, q⟩ := asBl_rep (show asBl m _ from q) rx
      exact .inr ⟨i, _, rfl, rfl, by simpa using q⟩
    | _ => exact q.elim
  · exact q.elim
def tCmp (g : GR) (qa qb : QX) : TX := fun env Q => qa env fun m => qb env fun n => g m n Q
def eB (t : TX) : EX := fun env Q => t env fun k => Q (.bl k)
theorem tCmp_mo {op : CmpOp} {g : GR} (hg : GC X cl op g) (ha : MQ X cl a qa) (hb : MQ X cl b qb) (env : Env) (Q Q' : Bool → Prop) (k : ∀ m, Q m → Q' m) : tCmp g qa qb env Q → tCmp g qa qb env Q' := fun q =>
  ha.mo _ _ _ (fun m z => hb.mo _ _ _ (fun n z' => hg.mo m n _ _ k z') z) q
theorem tCmp_run {op : CmpOp} {g : GR} {r : R2} (hg : GC X cl op g) (h : ∀ m n x y H G (Q : VK), Same G H → RepB X.K cl H G m x → RepB X.K cl H G n y → g m n (fun k => Q (.bl k) H) → r x y H Q) (ha : MQ X cl a qa) (hb : MQ X cl b qb)
    {β : Bs} {σ : L2.St} {H G : Hp} {env : Env} {Q : VK} (r0 : R X.K cl β σ H G env []) (q : tCmp g qa qb env fun k => ∀ H' G', Ext H G H' G' → Q (.bl k) H') : tOp r (qOf X.K cl qa) (qOf X.K cl qb) σ H Q := by
  refine ⟨β, G, env, r0, ha.mo _ _ _ (fun m q1 v H' G' e1 rv => ?_) q⟩
  refine ⟨β, G', env, r0.ext e1, hb.mo _ _ _ (fun n q2 w H2 G2 e2 rw => ?_) q1⟩
  exact h m n v w H2 G2 Q e2.gh (Same.repB rv e2) rw (hg.mo _ _ _ _ (fun k q3 => q3 H2 G2 (e1.trans e2)) q2)
theorem m_cmp {op : CmpOp} {g : GR} (hg : GC X cl op g) (ha : MQ X cl a qa) (hb : MQ X cl b qb) (hm : behindInMarks op b = false := by rfl) : ME X cl (.Compare a [op] [b] pos) (eB (tCmp g qa qb)) := by
  obtain ⟨r, ho, h⟩ := hg.ex
  refine ⟨fun env Q Q' k q => tCmp_mo hg ha hb env _ _ (fun b z => k _ z) q, PEmono (pe_cmpR ho ha.pe hb.pe hm) fun σ H Q ⟨β, G, env, r0, q⟩ => ?_⟩
  exact tCmp_run hg h ha hb r0 (tCmp_mo hg ha hb env _ _ (fun k z H' G' e => z _ H' G' e (by unfold Rep; rfl)) q)
theorem t_cmp {op : CmpOp} {g : GR} (hg : GC X cl op g) (ha : MQ X cl a qa) (hb : MQ X cl b qb) (hm : behindInMarks op b = false := by rfl) : MT X cl (.Compare a [op] [b] pos) (tCmp g qa qb) := by
  obtain ⟨r, ho, h⟩ := hg.ex
  refine ⟨fun env Q Q' k q => tCmp_mo hg ha hb env _ _ k q, PTmono (pt_cmpR ho ha.pe hb.pe hm) fun σ H Q ⟨β, G, env, r0, q⟩ => ?_⟩
  exact tCmp_run (Q := fun x H' => ∃ k, x = .bl k ∧ Q k H') hg h ha hb r0 (tCmp_mo hg ha hb env _ _ (fun k z H' G' e => ⟨k, rfl, z H' G' e⟩) q)
end
end C
namespace C
open PySem PySem.Spec PyProof.Rows L2
section
variable {X : Cx} {cl : Nat → Addr} {a b c : Expr} {fa fb fc : EX} {qa qb qc : QX} {ta tb : TX} {pos : Pos}
/-! ### chains of comparisons -/
abbrev CH := Env → OV → (Bool → Prop) → Prop
def chL (g : GR) (qb : QX) : CH := fun env m Q => qb env fun n => g m n Q
def chK (g : GR) (qb : QX) (t : CH) : CH := fun env m Q => qb env fun n => g m n fun k => match k with
  | true => t env n Q
  | false => Q false
structure MC (X : Cx) (cl : Nat → Addr) (ops : List CmpOp) (rs : List Expr) (t : CH) : Prop where
  mo : ∀ env m (Q Q' : Bool → Prop), (∀ k, Q k → Q' k) → t env m Q → t env m Q'
  val : ∀ (pos : Pos) (pins : List (Addr × Obj)) (s : Shared) (σ : L2.St) (H G : Hp) (β : Bs) (env : Env) (m : OV) (x : V) (v : Value) (Q : VK), Inv X pins σ H s → RelV x v → RepB X.K cl H G m x → R X.K cl β σ H G env [] →
    t env m (fun k => ∀ H' G', Ext H G H' G' → Q (.bl k) H') → wpAny (model X.prog X.w) X.A (compareChain pos v ops (evalEach rs X.env)) (EP X pins σ Q) X.xe s
  tst : ∀ (pos : Pos) (pins : List (Addr × Obj)) (s : Shared) (σ : L2.St) (H G : Hp) (β : Bs) (env : Env) (m : OV) (x : V) (v : Value) (Q : Bool → Hp → Prop), Inv X pins σ H s → RelV x v → RepB X.K cl H G m x → R X.K cl β σ H G env [] →
    t env m (fun k => ∀ H' G', Ext H G H' G' → Q k H') → wpAny (model X.prog X.w) X.A (testChain pos v ops (evalEach rs X.env)) (TP X pins σ Q) X.xe s
theorem mc_last {op : CmpOp} {g : GR} (hg : GC X cl op g) (hb : MQ X cl b qb) : MC X cl [op] [b] (chL g qb) := by
  obtain ⟨r, ho, h⟩ := hg.ex
  have mo : ∀ env m (Q Q' : Bool → Prop), (∀ k, Q k → Q' k) → chL g qb env m Q → chL g qb env m Q' := fun env m Q Q' k q => hb.mo _ _ _ (fun n z => hg.mo _ _ _ _ k z) q
  refine ⟨mo, fun pos pins s σ H G β env m x v Q I rx rb r0 q => ?_, fun pos pins s σ H G β env m x v Q I rx rb r0 q => ?_⟩
  · refine chain_last (thn (hb.pe.run pins s σ H (fun y H2 => r x y H2 Q) I ⟨β, G, env, r0, hb.mo _ _ _ (fun n z y H2 G2 e2 ry => ?_) q⟩) fun u s1 ⟨y, H1, I1, r1, q1⟩ => ho pins s1 σ H1 x y v u Q I1 rx r1 q1)
    exact h m n x y H2 G2 Q e2.gh (Same.repB rb e2) ry (hg.mo _ _ _ _ (fun k w => w H2 G2 e2) z)
  · refine test_last (thn (hb.pe.run pins s σ H (fun y H2 => r x y H2 fun z H' => ∃ k, z = .bl k ∧ Q k H') I ⟨β, G, env, r0, hb.mo _ _ _ (fun n z y H2 G2 e2 ry => ?_) q⟩) fun u s1 ⟨y, H1, I1, r1, q1⟩ => thn (ho pins s1 σ H1 x y v u _ I1 rx r1 q1) fun d s2 ⟨z, H2, I2, r2, k, e, q2⟩ => ?_)
    · exact h m n x y H2 G2 _ e2.gh (Same.repB rb e2) ry (hg.mo _ _ _ _ (fun k w => ⟨k, rfl, w H2 G2 e2⟩) z)
    · subst e
      cases r2
      exact wpAny_truthy_bool ⟨H2, I2, q2⟩
theorem mc_link {op op' : CmpOp} {ops : List CmpOp} {c : Expr} {rs : List Expr} {g : GR} {t : CH} (hg : GC X cl op g) (hb : MQ X cl b qb) (ht : MC X cl (op' :: ops) (c :: rs) t) : MC X cl (op :: op' :: ops) (b :: c :: rs) (chK g qb t) := by
  obtain ⟨r, ho, h⟩ := hg.ex
  have mo : ∀ env m (Q Q' : Bool → Prop), (∀ k, Q k → Q' k) → chK g qb t env m Q → chK g qb t env m Q' := fun env m Q Q' k q => hb.mo _ _ _ (fun n z => hg.mo _ _ _ _ (fun b' w => by
    cases b' with
    | true => exact ht.mo _ _ _ _ k w
    | false => exact k _ w) z) q
  refine ⟨mo, fun pos pins s σ H G β env m x v Q I rx rb r0 q => ?_, fun pos pins s σ H G β env m x v Q I rx rb r0 q => ?_⟩
  · refine chain_link (thn (hb.pe.run pins s σ H (fun y H2 => r x y H2 fun z H' => ∃ k, z = .bl k ∧ ∃ G' n, Ext H G H' G' ∧ RepB X.K cl H' G' n y ∧ (match k with
      | true => t env n (fun k => ∀ H2 G2, Ext H G H2 G2 → Q (.bl k) H2)
      | false => ∀ H2 G2, Ext H G H2 G2 → Q (.bl false) H2)) I ⟨β, G, env, r0, hb.mo _ _ _ (fun n z y H2 G2 e2 ry => ?_) q⟩) fun u s1 ⟨y, H1, I1, r1, q1⟩ => thn (ho pins s1 σ H1 x y v u _ I1 rx r1 q1) fun d s2 ⟨z, H2, I2, r2, k, e, G', n, e2, rn, q2⟩ => ?_)
    · exact h m n x y H2 G2 _ e2.gh (Same.repB rb e2) ry (hg.mo _ _ _ _ (fun k w => ⟨k, rfl, G2, n, e2, ry, w⟩) z)
    · subst e
      cases r2
      refine wpAny_truthy_bool ?_
      cases k with
      | false => exact ite_ff ⟨.bl false, H2, I2, rfl, q2 H2 G' e2⟩
      | true => exact ite_tt (ht.val pos pins s2 σ H2 G' β env n y u Q I2 r1 rn (r0.ext e2) (ht.mo _ _ _ _ (fun k w H3 G3 e3 => w H3 G3 (e2.trans e3)) q2))
  · refine test_link (thn (hb.pe.run pins s σ H (fun y H2 => r x y H2 fun z H' => ∃ k, z = .bl k ∧ ∃ G' n, Ext H G H' G' ∧ RepB X.K cl H' G' n y ∧ (match k with
      | true => t env n (fun k => ∀ H2 G2, Ext H G H2 G2 → Q k H2)
      | false => ∀ H2 G2, Ext H G H2 G2 → Q false H2)) I ⟨β, G, env, r0, hb.mo _ _ _ (fun n z y H2 G2 e2 ry => ?_) q⟩) fun u s1 ⟨y, H1, I1, r1, q1⟩ => thn (ho pins s1 σ H1 x y v u _ I1 rx r1 q1) fun d s2 ⟨z, H2, I2, r2, k, e, G', n, e2, rn, q2⟩ => ?_)
    · exact h m n x y H2 G2 _ e2.gh (Same.repB rb e2) ry (hg.mo _ _ _ _ (fun k w => ⟨k, rfl, G2, n, e2, ry, w⟩) z)
    · subst e
      cases r2
      refine wpAny_truthy_bool ?_
      cases k with
      | false => exact ite_ff ⟨H2, I2, q2 H2 G' e2⟩
      | true => exact ite_tt (ht.tst pos pins s2 σ H2 G' β env n y u Q I2 r1 rn (r0.ext e2) (ht.mo _ _ _ _ (fun k w H3 G3 e3 => w H3 G3 (e2.trans e3)) q2))
def tChain (qa : QX) (t : CH) : TX := fun env Q => qa env fun m => t env m Q
theorem m_chain {op op' : CmpOp} {ops : List CmpOp} {rs : List Expr} {t : CH} (ha : MQ X cl a qa) (ht : MC X cl (op :: op' :: ops) (b :: c :: rs) t) (hm : lastMarks (op :: op' :: ops) (b :: c :: rs) = false := by with_unfolding_all rfl) :
    ME X cl (.Compare a (op :: op' :: ops) (b :: c :: rs) pos) (eB (tChain qa t)) := by
  refine ⟨fun env Q Q' k q => ha.mo _ _ _ (fun m z => ht.mo _ _ _ _ (fun b' w => k _ w) z) q, ⟨fun pins s σ H Q I ⟨β, G, env, r0, q⟩ => ?_⟩⟩
  refine Compare_chain (thn (ha.pe.run pins s σ H (fun y H2 => ∃ G' m, Ext H G H2 G' ∧ RepB X.K cl H2 G' m y ∧ t env m fun k => ∀ H' G', Ext H G H' G' → Q (.bl k) H') I ⟨β, G, env, r0, ha.mo _ _ _ (fun m z y H2 G2 e2 ry => ⟨G2, m, e2, ry, ht.mo _ _ _ _ (fun k w H' G' e => w _ H' G' e (by unfold Rep; rfl)) z⟩) q⟩) fun u s1 ⟨y, H1, I1, r1, G', m, e1, rm, q1⟩ => ?_) hm
  exact ht.val pos pins s1 σ H1 G' β env m y u Q I1 r1 rm (r0.ext e1) (ht.mo _ _ _ _ (fun k w H3 G3 e3 => w H3 G3 (e1.trans e3)) q1)
theorem t_chain {op op' : CmpOp} {ops : List CmpOp} {rs : List Expr} {t : CH} (ha : MQ X cl a qa) (ht : MC X cl (op :: op' :: ops) (b :: c :: rs) t) (hm : lastMarks (op :: op' :: ops) (b :: c :: rs) = false := by with_unfolding_all rfl) :
    MT X cl (.Compare a (op :: op' :: ops) (b :: c :: rs) pos) (tChain qa t) := by
  refine ⟨fun env Q Q' k q => ha.mo _ _ _ (fun m z => ht.mo _ _ _ _ (fun b' w => k _ w) z) q, ⟨fun pins s σ H Q I ⟨β, G, env, r0, q⟩ => ?_⟩⟩
  refine isTrue_chain (thn (ha.pe.run pins s σ H (fun y H2 => ∃ G' m, Ext H G H2 G' ∧ RepB X.K cl H2 G' m y ∧ t env m fun k => ∀ H' G', Ext H G H' G' → Q k H') I ⟨β, G, env, r0, ha.mo _ _ _ (fun m z y H2 G2 e2 ry => ⟨G2, m, e2, ry, z⟩) q⟩) fun u s1 ⟨y, H1, I1, r1, G', m, e1, rm, q1⟩ => ?_) hm
  exact ht.tst pos pins s1 σ H1 G' β env m y u Q I1 r1 rm (r0.ext e1) (ht.mo _ _ _ _ (fun k w H3 G3 e3 => w H3 G3 (e1.trans e3)) q1)

/-! ### truth -/
def truQ (o : OV) (Q : Bool → Prop) : Prop := match o with
  | .fro .non => Q false
  | .fro (.bl b) => Q b
  | .fro (.int i) => Q (i != 0)
  | .fro (.str x) => x.length ≤ sizeLine ∧ Q ((x.length : Int) != 0)
  | .fro (.tup ms) => Q (!ms.isEmpty)
  | .fro (.lst ms) => Q (!ms.isEmpty)
  | .lst ms => Q (!ms.isEmpty)
  | .scr ms => Q (!ms.isEmpty)
  | .dct kvs => Q (!kvs.isEmpty)
  | _ => False
theorem truQ_mo {o : OV} {Q Q' : Bool → Prop} (k : ∀ b, Q b → Q' b) : truQ o Q → truQ o Q' := by
  intro q
  unfold truQ at q ⊢
  split at q <;> first | exact k _ q | exact ⟨q.1, k _ q.2⟩ | exact q.elim
theorem reps_empty {K : PySem.W.Frag} {G : Hp} {ms : List MV} {vs : List V} (r : Reps K cl G ms vs) : (!vs.isEmpty) = !ms.isEmpty := by
  have := Reps.len _ _ r
  cases ms <;> cases vs <;> simp_all
theorem truQ_rep {K : PySem.W.Frag} {H G : Hp} {o : OV} {v : V} {Q : Bool → Prop} (g : Same G H) (q : truQ o Q) (r : RepB K cl H G o v) : ∃ k, TruV K v H k ∧ Q k := by
  unfold truQ at q
  split at q
  · unfold RepB Rep at r; subst r; exact ⟨_, rfl, q⟩
  · unfold RepB Rep at r; subst r; exact ⟨_, rfl, q⟩
  · unfold RepB Rep at r; subst r; exact ⟨_, rfl, q⟩
  · unfold RepB Rep at r; subst r; exact ⟨_, ⟨q.1, rfl⟩, q.2⟩
  · unfold RepB Rep at r; obtain ⟨p, vs, rfl, h2, h3⟩ := r
    exact ⟨_, .inr (.inl ⟨vs, sqT_same g h2, (reps_empty h3).symm⟩), q⟩
  · unfold RepB Rep at r; obtain ⟨p, vs, rfl, h2, h3⟩ := r
    exact ⟨_, .inl ⟨vs, SqL.of (g _ _ h2), (reps_empty h3).symm⟩, q⟩
  · unfold RepB at r; obtain ⟨p, vs, rfl, h2, h3⟩ := r
    exact ⟨_, .inl ⟨vs, SqL.of h2, (reps_empty h3).symm⟩, q⟩
  · unfold RepB at r; obtain ⟨p, vs, rfl, h2, h3⟩ := r
    exact ⟨_, .inl ⟨vs, h2, (reps_empty h3).symm⟩, q⟩
  · unfold RepB at r; obtain ⟨p, vs, rfl, h2, h4, h3⟩ := r
    refine ⟨_, .inr (.inr ⟨vs, h2, rfl⟩), ?_⟩
    rename_i kvs
    have : vs.isEmpty = kvs.isEmpty := by
      have := congrArg List.length h4
      cases vs <;> cases kvs <;> simp_all
    rw [this]; exact q
  · exact q.elim
def tTru (qa : QX) : TX := fun env Q => qa env fun m => truQ m Q
theorem t_tru (ha : MQ X cl a qa) (he : ∀ whole, isTrue a X.env whole = (do let v ← whole; standAt a.pos; holding [v] (truthy v)) := by intro _; rfl) : MT X cl a (tTru qa) := by
  refine ⟨fun env Q Q' k q => ha.mo _ _ _ (fun m z => truQ_mo k z) q, PTmono (pt_truth ha.pe he) fun σ H Q ⟨β, G, env, r0, q⟩ => ?_⟩
  refine ⟨β, G, env, r0, ha.mo _ _ _ (fun m z v H' G' e rv => ?_) q⟩
  obtain ⟨k, h1, h2⟩ := truQ_rep e.gh z rv
  exact ⟨k, h1, h2 H' G' e⟩
def tNot (ta : TX) : TX := fun env Q => ta env fun k => Q (!k)
theorem t_not (ha : MT X cl a ta) : MT X cl (.UnaryOp .Not a pos) (tNot ta) :=
  ⟨fun env Q Q' k q => ha.mo _ _ _ (fun m z => k _ z) q, PTmono (pt_not ha.pt) fun σ H Q ⟨β, G, env, r0, q⟩ => ⟨β, G, env, r0, ha.mo _ _ _ (fun k z H' G' e => z H' G' e) q⟩⟩
theorem m_not (ha : MQ X cl a qa) : ME X cl (.UnaryOp .Not a pos) (eB (tNot (tTru qa))) := by
  refine ⟨fun env Q Q' k q => ha.mo _ _ _ (fun m z => truQ_mo (fun b w => k _ w) z) q, PEmono (pe_notT ha.pe) fun σ H Q ⟨β, G, env, r0, q⟩ => ?_⟩
  refine ⟨β, G, env, r0, ha.mo _ _ _ (fun m z v H' G' e rv => ?_) q⟩
  obtain ⟨k, h1, h2⟩ := truQ_rep e.gh z rv
  exact ⟨k, h1, h2 _ H' G' e (by unfold Rep; rfl)⟩
/-! and, or -/
def tAnd (t u : TX) : TX := fun env Q => t env fun k => match k with
  | true => u env Q
  | false => Q false
def tOr (t u : TX) : TX := fun env Q => t env fun k => match k with
  | true => Q true
  | false => u env Q
structure MW (X : Cx) (cl : Nat → Addr) (E : Expr) (f : TX) : Prop where
  mo : ∀ env (Q Q' : Bool → Prop), (∀ m, Q m → Q' m) → f env Q → f env Q'
  pw : PW X E (tOf X.K cl f)
theorem PWmono {X : Cx} {e : Expr} {t t' : TT} (h : PW X e t) (k : ∀ σ H Q, t' σ H Q → t σ H Q) : PW X e t' := ⟨fun wh pins s σ H Q I q => h.run wh pins s σ H Q I (k σ H Q q)⟩
variable {rest : List Expr}
theorem w_and1 (ha : MT X cl a ta) : MW X cl (.BoolOp .And [a] pos) ta := ⟨ha.mo, pw_and1 ha.pt⟩
theorem w_or1 (ha : MT X cl a ta) : MW X cl (.BoolOp .Or [a] pos) ta := ⟨ha.mo, pw_or1 ha.pt⟩
theorem tAnd_mo {t u : TX} (ht : ∀ env (Q Q' : Bool → Prop), (∀ m, Q m → Q' m) → t env Q → t env Q') (hu : ∀ env (Q Q' : Bool → Prop), (∀ m, Q m → Q' m) → u env Q → u env Q') : ∀ env (Q Q' : Bool → Prop), (∀ m, Q m → Q' m) → tAnd t u env Q → tAnd t u env Q' :=
  fun env Q Q' k q => ht _ _ _ (fun b z => by
    cases b with
    | true => exact hu _ _ _ k z
    | false => exact k _ z) q
theorem tOr_mo {t u : TX} (ht : ∀ env (Q Q' : Bool → Prop), (∀ m, Q m → Q' m) → t env Q → t env Q') (hu : ∀ env (Q Q' : Bool → Prop), (∀ m, Q m → Q' m) → u env Q → u env Q') : ∀ env (Q Q' : Bool → Prop), (∀ m, Q m → Q' m) → tOr t u env Q → tOr t u env Q' :=
  fun env Q Q' k q => ht _ _ _ (fun b z => by
    cases b with
    | false => exact hu _ _ _ k z
    | true => exact k _ z) q
theorem w_and (ha : MT X cl a ta) (hb : MW X cl (.BoolOp .And (b :: rest) pos) tb) : MW X cl (.BoolOp .And (a :: b :: rest) pos) (tAnd ta tb) := by
  refine ⟨tAnd_mo ha.mo hb.mo, PWmono (pw_and ha.pt hb.pw) fun σ H Q ⟨β, G, env, r0, q⟩ => ?_⟩
  refine ⟨β, G, env, r0, ha.mo _ _ _ (fun k z H' G' e => ?_) q⟩
  cases k with
  | true => rw [if_pos rfl]; exact ⟨β, G', env, r0.ext e, hb.mo _ _ _ (fun k w H2 G2 e2 => w H2 G2 (e.trans e2)) z⟩
  | false => rw [if_neg Bool.false_ne_true]; exact z H' G' e
theorem w_or (ha : MT X cl a ta) (hb : MW X cl (.BoolOp .Or (b :: rest) pos) tb) : MW X cl (.BoolOp .Or (a :: b :: rest) pos) (tOr ta tb) := by
  refine ⟨tOr_mo ha.mo hb.mo, PWmono (pw_or ha.pt hb.pw) fun σ H Q ⟨β, G, env, r0, q⟩ => ?_⟩
  refine ⟨β, G, env, r0, ha.mo _ _ _ (fun k z H' G' e => ?_) q⟩
  cases k with
  | true => rw [if_pos rfl]; exact z H' G' e
  | false => rw [if_neg Bool.false_ne_true]; exact ⟨β, G', env, r0.ext e, hb.mo _ _ _ (fun k w H2 G2 e2 => w H2 G2 (e.trans e2)) z⟩
theorem t_w (h : MW X cl a ta) : MT X cl a ta := ⟨h.mo, h.pw.pt⟩
def eAnd (qa : QX) (fb : EX) : EX := fun env Q => qa env fun m => truQ m fun k => match k with
  | true => fb env Q
  | false => asFro m Q
def eOr (qa : QX) (fb : EX) : EX := fun env Q => qa env fun m => truQ m fun k => match k with
  | true => asFro m Q
  | false => fb env Q
theorem m_one {op} (ha : ME X cl a fa) : ME X cl (.BoolOp op [a] pos) fa := ⟨ha.mo, pe_one ha.pe⟩
theorem truQ_and {o : OV} {Q : Bool → Prop} {v : V} {K : PySem.W.Frag} {H G : Hp} (g : Same G H) (q : truQ o Q) (r : RepB K cl H G o v) : ∃ k, TruV K v H k ∧ Q k := truQ_rep g q r
theorem m_and (ha : MQ X cl a qa) (hb : ME X cl (.BoolOp .And (b :: rest) pos) fb) : ME X cl (.BoolOp .And (a :: b :: rest) pos) (eAnd qa fb) := by
  refine ⟨fun env Q Q' k q => ha.mo _ _ _ (fun m z => truQ_mo (fun b w => ?_) z) q, PEmono (pe_andT ha.pe hb.pe) fun σ H Q ⟨β, G, env, r0, q⟩ => ?_⟩
  · cases b with
    | true => exact hb.mo _ _ _ k w
    | false => exact asFro_mo k w
  · refine ⟨β, G, env, r0, ha.mo _ _ _ (fun m z v H' G' e rv => ?_) q⟩
    obtain ⟨k, h1, h2⟩ := truQ_rep e.gh z rv
    refine ⟨k, h1, ?_⟩
    cases k with
    | true => rw [if_pos rfl]; exact ⟨β, G', env, r0.ext e, hb.mo _ _ _ (fun k w v H2 G2 e2 => w v H2 G2 (e.trans e2)) h2⟩
    | false =>
      rw [if_neg Bool.false_ne_true]
      cases m with
      | fro m => unfold RepB at rv; exact h2 v H' G' e rv
      | _ => exact h2.elim
theorem m_or (ha : MQ X cl a qa) (hb : ME X cl (.BoolOp .Or (b :: rest) pos) fb) : ME X cl (.BoolOp .Or (a :: b :: rest) pos) (eOr qa fb) := by
  refine ⟨fun env Q Q' k q => ha.mo _ _ _ (fun m z => truQ_mo (fun b w => ?_) z) q, PEmono (pe_orT ha.pe hb.pe) fun σ H Q ⟨β, G, env, r0, q⟩ => ?_⟩
  · cases b with
    | false => exact hb.mo _ _ _ k w
    | true => exact asFro_mo k w
  · refine ⟨β, G, env, r0, ha.mo _ _ _ (fun m z v H' G' e rv => ?_) q⟩
    obtain ⟨k, h1, h2⟩ := truQ_rep e.gh z rv
    refine ⟨k, h1, ?_⟩
    cases k with
    | false => rw [if_neg Bool.false_ne_true]; exact ⟨β, G', env, r0.ext e, hb.mo _ _ _ (fun k w v H2 G2 e2 => w v H2 G2 (e.trans e2)) h2⟩
    | true =>
      rw [if_pos rfl]
      cases m with
      | fro m => unfold RepB at rv; exact h2 v H' G' e rv
      | _ => exact h2.elim
def eIf (t : TX) (fa fb : EX) : EX := fun env Q => t env fun k => match k with
  | true => fa env Q
  | false => fb env Q
theorem m_if {t : TX} (hc : MT X cl c t) (ha : ME X cl a fa) (hb : ME X cl b fb) : ME X cl (.IfExp c a b pos) (eIf t fa fb) := by
  refine ⟨fun env Q Q' k q => hc.mo _ _ _ (fun b w => ?_) q, PEmono (pe_ifExp hc.pt ha.pe hb.pe) fun σ H Q ⟨β, G, env, r0, q⟩ => ?_⟩
  · cases b with
    | true => exact ha.mo _ _ _ k w
    | false => exact hb.mo _ _ _ k w
  · refine ⟨β, G, env, r0, hc.mo _ _ _ (fun k z H' G' e => ?_) q⟩
    cases k with
    | true => rw [if_pos rfl]; exact ⟨β, G', env, r0.ext e, ha.mo _ _ _ (fun k w v H2 G2 e2 => w v H2 G2 (e.trans e2)) z⟩
    | false => rw [if_neg Bool.false_ne_true]; exact ⟨β, G', env, r0.ext e, hb.mo _ _ _ (fun k w v H2 G2 e2 => w v H2 G2 (e.trans e2)) z⟩
end
end C
namespace C
open PySem PySem.Spec PyProof.Rows L2
section
variable {K : PySem.W.Frag} {cl : Nat → Addr} {H H' G G' : Hp} {σ : L2.St}
theorem ArRep.ext (e : Ext H G H' G') {a : Ar} {v : V} (h : ArRep K cl σ H G a v) : ArRep K cl σ H' G' a v := by
  cases a with
  | v m => exact Rep.same e.gg _ _ h
  | mu i p => obtain ⟨v0, h1, h2⟩ : ∃ v0, σ[i]? = some (some v0) ∧ PAt K H v0 p v := h; exact ⟨v0, h1, PAt.same e.hh h2⟩
  | br i p => obtain ⟨v0, h1, h2⟩ : ∃ v0, σ[i]? = some (some v0) ∧ PAt K H v0 p v := h; exact ⟨v0, h1, PAt.same e.hh h2⟩
def arVs : List Ar → Option (List MV)
  | [] => some []
  | .v m :: as => match arVs as with
    | some ms => some (m :: ms)
    | none => none
  | _ :: _ => none
theorem arVs_rep : ∀ {as : List Ar} {ms : List MV} {vs : List V}, arVs as = some ms → ArReps K cl σ H G as vs → Reps K cl G ms vs
  | [], ms, vs, e, h => by cases e; unfold ArReps at h; subst h; exact Reps.nil
  | .v m :: as, ms, vs, e, h => by
    unfold arVs at e
    cases q : arVs as with
    | none => rw [q] at e; cases e
    | some ms' =>
      rw [q] at e; cases e
      unfold ArReps at h
      obtain ⟨v, ws, rfl, h2, h3⟩ := h
      exact Reps.cons h2 (arVs_rep q h3)
  | .mu i p :: as, ms, vs, e, h => by cases e
  | .br i p :: as, ms, vs, e, h => by cases e
end
section
variable {X : Cx} {cl : Nat → Addr} {a b c e : Expr} {es : List Expr} {fa fb fc : EX} {qa qb qc : QX} {ta tb : TX} {ga : AX} {pos : Pos}
def aN : AX := fun _ Q => Q []
def aV (fa : EX) (ga : AX) : AX := fun env Q => fa env fun m => ga env fun as => Q (.v m :: as)
theorem ma_nil : MA X cl [] aN :=
  ⟨fun _ _ _ k q => k _ q, PAmono pa_nil fun σ H Q ⟨β, G, env, r0, q⟩ => q [] H G (Ext.refl r0.gh) rfl⟩
theorem ma_v (ha : ME X cl e fa) (hr : MA X cl es ga) (hs : starEach (e :: es) X.env = (false, eval e X.env) :: starEach es X.env := by rfl) : MA X cl (e :: es) (aV fa ga) := by
  refine ⟨fun env Q Q' k q => ha.mo _ _ _ (fun m z => hr.mo _ _ _ (fun as w => k _ w) z) q, PAmono (pa_cons ha.pe hr.pa hs) fun σ H Q ⟨β, G, env, r0, q⟩ => ?_⟩
  refine ⟨β, G, env, r0, ha.mo _ _ _ (fun m z v H' G' e1 rv => ?_) q⟩
  exact ⟨β, G', env, r0.ext e1, hr.mo _ _ _ (fun as w vs H2 G2 e2 rs => w _ H2 G2 (e1.trans e2) ⟨v, vs, rfl, Rep.same e2.gg _ _ rv, rs⟩) z⟩
def arPl (mk : Ar) (i : Nat) (p : List Nat) (ga : AX) : AX := fun env Q => match getP env i p with
  | some _ => ga env fun as => Q (mk :: as)
  | none => False
theorem ma_pl {i : Nat} {p : List Nat} (mk : Ar) (hmk : mk = .mu i p ∨ mk = .br i p) (ha : MP X e i p) (hp : fld38 p = true) (hr : MA X cl es ga) (hs : starEach (e :: es) X.env = (false, eval e X.env) :: starEach es X.env) : MA X cl (e :: es) (arPl mk i p ga) := by
  refine ⟨fun env Q Q' k q => ?_, PAmono (pa_cons ha hr.pa hs) fun σ H Q ⟨β, G, env, r0, q⟩ => ?_⟩
  · unfold arPl at q ⊢
    cases h : getP env i p with
    | none => rw [h] at q; exact q
    | some o => rw [h] at q; exact hr.mo _ _ _ (fun as w => k _ w) q
  · unfold arPl at q
    cases h : getP env i p with
    | none => rw [h] at q; exact q.elim
    | some o =>
      rw [h] at q
      obtain ⟨v0, w, h1, h2, _⟩ := r0.rd (fld38_out hp) h
      refine ⟨v0, w, h1, h2, β, G, env, r0, hr.mo _ _ _ (fun as z vs H2 G2 e2 rs => z _ H2 G2 e2 ⟨w, vs, rfl, ?_, rs⟩) q⟩
      rcases hmk with rfl | rfl
      · exact ⟨v0, h1, PAt.same e2.hh h2⟩
      · exact ⟨v0, h1, PAt.same e2.hh h2⟩
theorem ma_mu {i : Nat} {p : List Nat} (ha : MP X e i p) (hr : MA X cl es ga) (hp : fld38 p = true := by rfl) (hs : starEach (e :: es) X.env = (false, eval e X.env) :: starEach es X.env := by rfl) : MA X cl (e :: es) (arPl (.mu i p) i p ga) := ma_pl _ (.inl rfl) ha hp hr hs
theorem ma_br {i : Nat} {p : List Nat} (ha : MP X e i p) (hr : MA X cl es ga) (hp : fld38 p = true := by rfl) (hs : starEach (e :: es) X.env = (false, eval e X.env) :: starEach es X.env := by rfl) : MA X cl (e :: es) (arPl (.br i p) i p ga) := ma_pl _ (.inr rfl) ha hp hr hs
/-! displays -/
def eTup (ga : AX) : EX := fun env Q => ga env fun as => match arVs as with
  | some ms => ms.length ≤ sizeLine ∧ Q (.tup ms)
  | none => False
def eLst (ga : AX) : EX := fun env Q => ga env fun as => match arVs as with
  | some ms => ms.length ≤ sizeLine ∧ Q (.lst ms)
  | none => False
theorem m_tup {x1} (h : MA X cl es ga) : ME X cl (.Tuple es x1 pos) (eTup ga) := by
  refine ⟨fun env Q Q' k q => h.mo _ _ _ (fun as z => ?_) q, PEmono (pe_tup h.pa) fun σ H Q ⟨β, G, env, r0, q⟩ => ⟨β, G, env, r0, h.mo _ _ _ (fun as z vs H' G' e rs => ?_) q⟩⟩
  · cases e : arVs as with
    | none => rw [e] at z; exact z
    | some ms => rw [e] at z; exact ⟨z.1, k _ z.2⟩
  · cases q : arVs as with
    | none => rw [q] at z; exact z.elim
    | some ms =>
      rw [q] at z
      have rr := arVs_rep q rs
      refine ⟨by rw [Reps.len _ _ rr]; exact z.1, fun p hp => z.2 _ _ _ (e.trans (Ext.new e.gh hp)) (new_tup e.gh hp rr)⟩
theorem m_lst (h : MA X cl es ga) : ME X cl (.List es pos) (eLst ga) := by
  refine ⟨fun env Q Q' k q => h.mo _ _ _ (fun as z => ?_) q, PEmono (pe_lst h.pa) fun σ H Q ⟨β, G, env, r0, q⟩ => ⟨β, G, env, r0, h.mo _ _ _ (fun as z vs H' G' e rs => ?_) q⟩⟩
  · cases e : arVs as with
    | none => rw [e] at z; exact z
    | some ms => rw [e] at z; exact ⟨z.1, k _ z.2⟩
  · cases q : arVs as with
    | none => rw [q] at z; exact z.elim
    | some ms =>
      rw [q] at z
      have rr := arVs_rep q rs
      refine ⟨by rw [Reps.len _ _ rr]; exact z.1, fun p hp => z.2 _ _ _ (e.trans (Ext.new e.gh hp)) (new_lst e.gh hp rr)⟩
/-! - x -/
def eNeg (qa : QX) : EX := fun env Q => qa env fun m => asFro m fun m => asInt m fun i => Q (.int (-i))
theorem m_neg (ha : MQ X cl a qa) : ME X cl (.UnaryOp .USub a pos) (eNeg qa) := by
  refine ⟨fun env Q Q' k q => ha.mo _ _ _ (fun m z => asFro_mo (fun _ z => asInt_mo (fun _ z => k _ z) z) z) q, PEmono (pe_un un_neg ha.pe) fun σ H Q ⟨β, G, env, r0, q⟩ => ⟨β, G, env, r0, ha.mo _ _ _ (fun m z v H' G' e rv => ?_) q⟩⟩
  cases m with
  | fro m =>
    unfold RepB at rv
    obtain ⟨i, rfl, rfl, z⟩ := asInt_rep (show asInt m _ from z) rv
    exact ⟨i, rfl, z _ H' G' e rep_int⟩
  | _ => exact z.elim
/-! + of whatever can be added -/
theorem gAdd_cases {m n : OV} {Q : MV → Prop} (q : gAdd m n Q) : (∃ i j, m = .fro (.int i) ∧ n = .fro (.int j) ∧ Q (.int (i + j))) ∨ (∃ x y, m = .fro (.str x) ∧ n = .fro (.str y) ∧ x.length + y.length ≤ sizeLine ∧ Q (.str (x ++ y))) ∨
    (∃ x y, m = .fro (.tup x) ∧ n = .fro (.tup y) ∧ (x ≠ [] ∧ y ≠ [] ∧ x.length + y.length ≤ sizeLine) ∧ Q (.tup (x ++ y))) ∨ (asL m fun xs => asL n fun ys => xs.length + ys.length ≤ sizeLine ∧ Q (.lst (xs ++ ys))) := by
  unfold gAdd at q
  split at q
  · exact .inl ⟨_, _, rfl, rfl, q⟩
  · exact .inr (.inl ⟨_, _, rfl, rfl, q⟩)
  · exact .inr (.inr (.inl ⟨_, _, rfl, rfl, q⟩))
  · exact .inr (.inr (.inr q))
theorem gAdd_mo : ∀ m n (Q Q' : MV → Prop), (∀ k, Q k → Q' k) → gAdd m n Q → gAdd m n Q' := by
  intro m n Q Q' k q
  unfold gAdd at q ⊢
  split at q
  · exact k _ q
  · exact ⟨q.1, k _ q.2⟩
  · exact ⟨q.1, k _ q.2⟩
  · exact asL_mo (fun _ z => asL_mo (fun _ z => ⟨z.1, k _ z.2⟩) z) q
theorem m_add (ha : MQ X cl a qa) (hb : MQ X cl b qb) : ME X cl (.BinOp a .Add b pos) (eBin gAdd qa qb) :=
  m_bin (op_add.or (op_add_str.or (op_catT.or op_cat))) gAdd gAdd_mo (fun m n x y H G Q g rx ry q => by
    rcases gAdd_cases q with ⟨i, j, rfl, rfl, q⟩ | ⟨i, j, rfl, rfl, l, q⟩ | ⟨i, j, rfl, rfl, l, q⟩ | q
    · unfold RepB Rep at rx ry; subst rx; subst ry
      exact .inl ⟨i, j, rfl, rfl, q _ H G (Ext.refl g) rep_int⟩
    · unfold RepB Rep at rx ry; subst rx; subst ry
      exact .inr (.inl ⟨i, j, rfl, rfl, l, q _ H G (Ext.refl g) rep_str⟩)
    · unfold RepB Rep at rx ry
      obtain ⟨pa, vs, rfl, h2, h3⟩ := rx
      obtain ⟨pb, ws, rfl, g2, g3⟩ := ry
      have l1 := Reps.len _ _ h3
      have l2 := Reps.len _ _ g3
      refine .inr (.inr (.inl ⟨pa, pb, vs, ws, rfl, rfl, sqT_same g h2, sqT_same g g2, fun z => l.1 (by subst z; exact List.eq_nil_of_length_eq_zero l1.symm), by omega, fun z => absurd (List.eq_nil_of_length_eq_zero (by subst z; exact l2.symm)) l.2.1, fun _ p hp => ?_⟩))
      exact q _ _ _ (Ext.new g hp) (new_tup g hp (Reps.app _ _ _ _ h3 g3))
    · obtain ⟨xs, pa, vs, rfl, h2, h3, q⟩ := asL_rep g q rx
      obtain ⟨ys, pb, ws, rfl, g2, g3, q⟩ := asL_rep g q ry
      have l1 := Reps.len _ _ h3
      have l2 := Reps.len _ _ g3
      refine .inr (.inr (.inr ⟨pa, pb, vs, ws, rfl, rfl, h2, g2, by omega, fun p hp => ?_⟩))
      exact q.2 _ _ _ (Ext.new g hp) (new_lst g hp (Reps.app _ _ _ _ h3 g3))) ha hb
/-! index -/
/-- an item; a type of its own, so that nothing evaluates it by itself -/
inductive gAt (ms : List MV) (i : Int) (Q : MV → Prop) : Prop where
  | mk (m : MV) (h : atI ms i = some m) (q : Q m) : gAt ms i Q
def gIx (m n : OV) (Q : MV → Prop) : Prop := asFro n fun n => asInt n fun i => match m with
  | .fro (.lst ms) => gAt ms i Q
  | .fro (.tup ms) => gAt ms i Q
  | .lst ms => gAt ms i Q
  | .scr ms => gAt ms i Q
  | .fro (.str x) => x.length ≤ sizeLine ∧ match atI x.cps.toList i with
    | some ch => Q (.str ⟨#[ch]⟩)
    | none => False
  | _ => False
theorem gAt_mo {ms : List MV} {i : Int} {Q Q' : MV → Prop} (k : ∀ m, Q m → Q' m) : gAt ms i Q → gAt ms i Q'
  | .mk m h q => .mk m h (k m q)
theorem gIx_mo : ∀ m n (Q Q' : MV → Prop), (∀ k, Q k → Q' k) → gIx m n Q → gIx m n Q' := by
  intro m n Q Q' k q
  refine asFro_mo (fun n z => asInt_mo (fun i z => ?_) z) q
  split at z
  · exact gAt_mo k z
  · exact gAt_mo k z
  · exact gAt_mo k z
  · exact gAt_mo k z
  · refine ⟨z.1, ?_⟩
    have z2 := z.2
    split at z2
    · exact k _ z2
    · exact z2
  · exact z
theorem gAt_rep {K : PySem.W.Frag} {G : Hp} {ms : List MV} {vs : List V} {i : Int} {Q : MV → Prop} (q : gAt ms i Q) (r : Reps K cl G ms vs) : ∃ v m, atI vs i = some v ∧ Rep K cl G m v ∧ Q m := by
  obtain ⟨m, e, q⟩ := q
  unfold atI at e
  cases e1 : ixN ms.length i with
  | none => rw [e1] at e; cases e
  | some j =>
    rw [e1] at e
    obtain ⟨v, h1, h2⟩ := Reps.get _ _ j m r e
    refine ⟨v, m, ?_, h2, q⟩
    unfold atI
    rw [Reps.len _ _ r, e1]
    exact h1
theorem m_ix (ha : MQ X cl a qa) (hb : MQ X cl b qb) (hs : PlainIx b := by exact fun _ _ => rfl) : ME X cl (.Subscript a b pos) (eBin gIx qa qb) := by
  refine ⟨fun env Q Q' k q => ha.mo _ _ _ (fun m z => hb.mo _ _ _ (fun n z' => gIx_mo m n _ _ k z') z) q, PEmono (pe_ix ix_seq ha.pe hb.pe hs) fun σ H Q ⟨β, G, env, r0, q⟩ => ?_⟩
  refine ⟨β, G, env, r0, ha.mo _ _ _ (fun m q1 v H' G' e1 rv => ?_) q⟩
  refine ⟨β, G', env, r0.ext e1, hb.mo _ _ _ (fun n q2 w H2 G2 e2 rw => ?_) q1⟩
  have rv' := Same.repB rv e2
  have g := e2.gh
  have ee := e1.trans e2
  cases n with
  | fro n =>
    unfold RepB at rw
    obtain ⟨i, rfl, rfl, q3⟩ := asInt_rep (show asInt n _ from q2) rw
    split at q3
    · unfold RepB Rep at rv'
      obtain ⟨p, vs, rfl, h2, h3⟩ := rv'
      obtain ⟨x, m, y1, y2, y3⟩ := gAt_rep q3 h3
      exact .inl ⟨p, vs, i, x, rfl, rfl, SqL.of (g _ _ h2), y1, y3 x H2 G2 ee y2⟩
    · unfold RepB Rep at rv'
      obtain ⟨p, vs, rfl, h2, h3⟩ := rv'
      obtain ⟨x, m, y1, y2, y3⟩ := gAt_rep q3 h3
      exact .inr (.inl ⟨p, vs, i, x, rfl, rfl, sqT_same g h2, y1, y3 x H2 G2 ee y2⟩)
    · unfold RepB at rv'
      obtain ⟨p, vs, rfl, h2, h3⟩ := rv'
      obtain ⟨x, m, y1, y2, y3⟩ := gAt_rep q3 h3
      exact .inl ⟨p, vs, i, x, rfl, rfl, SqL.of h2, y1, y3 x H2 G2 ee y2⟩
    · unfold RepB at rv'
      obtain ⟨p, vs, rfl, h2, h3⟩ := rv'
      obtain ⟨x, m, y1, y2, y3⟩ := gAt_rep q3 h3
      exact .inl ⟨p, vs, i, x, rfl, rfl, h2, y1, y3 x H2 G2 ee y2⟩
    · rename_i x
      unfold RepB Rep at rv'; subst rv'
      have z2 := q3.2
      cases ec : atI x.cps.toList i with
      | none => rw [ec] at z2; exact z2.elim
      | some ch => rw [ec] at z2; exact .inr (.inr ⟨x, i, ch, rfl, rfl, q3.1, ec, z2 _ H2 G2 ee rep_str⟩)
    · exact q3.elim
  | _ => exact q2.elim
/-! slices of lists -/
def cutM (xs : List MV) (lo hi : Option Int) : List MV := (xs.drop (HT.sIx xs.length 0 lo)).take (HT.sIx xs.length xs.length hi - HT.sIx xs.length 0 lo)
abbrev OX := Env → (Option Int → Prop) → Prop
structure MO (X : Cx) (cl : Nat → Addr) (E : Option Expr) (f : OX) : Prop where
  mo : ∀ env (Q Q' : Option Int → Prop), (∀ m, Q m → Q' m) → f env Q → f env Q'
  po : PO X E fun σ H Q => ∃ β G env, R X.K cl β σ H G env [] ∧ f env fun o => ∀ H' G', Ext H G H' G' → Q o H'
theorem POmono {X : Cx} {e : Option Expr} {t t' : TO} (h : PO X e t) (k : ∀ σ H Q, t' σ H Q → t σ H Q) : PO X e t' := ⟨fun pins s σ H Q I q => h.run pins s σ H Q I (k σ H Q q)⟩
def oN : OX := fun _ Q => Q none
def oS (qa : QX) : OX := fun env Q => qa env fun m => asFro m fun m => asInt m fun i => Q (some i)
theorem mo_none : MO X cl none oN := ⟨fun _ _ _ k q => k _ q, POmono po_none fun σ H Q ⟨β, G, env, r0, q⟩ => q H G (Ext.refl r0.gh)⟩
theorem mo_some (h : MQ X cl a qa) : MO X cl (some a) (oS qa) := by
  refine ⟨fun env Q Q' k q => h.mo _ _ _ (fun m z => asFro_mo (fun _ z => asInt_mo (fun _ z => k _ z) z) z) q, POmono (po_some h.pe) fun σ H Q ⟨β, G, env, r0, q⟩ => ⟨β, G, env, r0, h.mo _ _ _ (fun m z v H' G' e rv => ?_) q⟩⟩
  cases m with
  | fro m =>
    unfold RepB at rv
    obtain ⟨i, rfl, rfl, z⟩ := asInt_rep (show asInt m _ from z) rv
    exact ⟨i, rfl, z H' G' e⟩
  | _ => exact z.elim
def eSl (qa : QX) (l h : OX) : EX := fun env Q => qa env fun m => l env fun lo => h env fun hi => asL m fun ms => Q (.lst (cutM ms lo hi))
theorem cutM_rep {K : PySem.W.Frag} {G : Hp} {ms : List MV} {vs : List V} {lo hi : Option Int} (r : Reps K cl G ms vs) : Reps K cl G (cutM ms lo hi) (cutV vs lo hi) := by
  unfold cutM cutV
  rw [Reps.len _ _ r]
  exact Reps.take _ _ _ (Reps.drop _ _ _ r)
theorem m_sl {lo hi : Option Expr} {l h : OX} {p2 : Pos} (ha : MQ X cl a qa) (hl : MO X cl lo l) (hh : MO X cl hi h) : ME X cl (.Subscript a (.Slice lo hi none p2) pos) (eSl qa l h) := by
  refine ⟨fun env Q Q' k q => ha.mo _ _ _ (fun m z => hl.mo _ _ _ (fun _ z => hh.mo _ _ _ (fun _ z => asL_mo (fun _ z => k _ z) z) z) z) q, PEmono (pe_slice sl_list ha.pe hl.po hh.po) fun σ H Q ⟨β, G, env, r0, q⟩ => ?_⟩
  refine ⟨β, G, env, r0, ha.mo _ _ _ (fun m z v H' G' e rv => ?_) q⟩
  refine ⟨β, G', env, r0.ext e, hl.mo _ _ _ (fun lo z H2 G2 e2 => ?_) z⟩
  refine ⟨β, G2, env, (r0.ext e).ext e2, hh.mo _ _ _ (fun hi z H3 G3 e3 => ?_) z⟩
  have e23 := e2.trans e3
  obtain ⟨ms, p, vs, rfl, h2, h3, z⟩ := asL_rep e3.gh z (Same.repB rv e23)
  exact ⟨p, vs, rfl, SqL.of h2, fun q hq => z _ _ _ ((e.trans e23).trans (Ext.new e3.gh hq)) (new_lst e3.gh hq (cutM_rep h3))⟩
/-! e.f of a value -/
def gFld (k : Nat) (m : MV) (Q : MV → Prop) : Prop := match getO (.fro m) [k] with
  | some o => asFro o Q
  | none => False
def eFld (k : Nat) (fa : EX) : EX := fun env Q => fa env fun m => gFld k m Q
theorem m_fld (k : Nat) {f : Str} (ha : ME X cl a fa) (hf : fn k = f := by rfl) (hk : Nat.blt k 38 = true := by rfl) (hb : attributeBase a f X.env (eval a X.env) = eval a X.env := by rfl) : ME X cl (.Attribute a f pos) (eFld k fa) := by
  refine ⟨fun env Q Q' kk q => ha.mo _ _ _ (fun m z => ?_) q, PEmono (pe_fld ha.pe hb) fun σ H Q ⟨β, G, env, r0, q⟩ => ⟨β, G, env, r0, ha.mo _ _ _ (fun m z v H' G' e rv => ?_) q⟩⟩
  · unfold gFld at z ⊢
    split at z
    · exact asFro_mo kk z
    · exact z
  · unfold gFld at z
    cases h : getO (.fro m) [k] with
    | none => rw [h] at z; exact z.elim
    | some o =>
      rw [h] at z
      subst hf
      obtain ⟨w, h1, h2⟩ := RepB.place (H := H') e.gh (p := [k]) (fun f hf => by simp at hf; subst hf; exact Nat.le_trans (Nat.le_of_ble_eq_true hk) (by decide : 38 ≤ 60)) (show RepB X.K cl H' G' (.fro m) v by unfold RepB; exact rv) h
      rcases h1 with ⟨_, a, C, dx, fs, u, y1, y2, y5, y3, y4⟩ | ⟨y0, _⟩
      case inr => exact absurd (Nat.le_of_ble_eq_true hk : k < 38) (by omega)
      cases o with
      | fro m' =>
        unfold RepB at h2
        have y4' : u = w := y4
        subst y4'
        exact ⟨a, C, dx, fs, u, y1, y2, y5.1, y5.2, y3, z u H' G' e h2⟩
      | _ => exact z.elim
/-! ### calls of what is built in -/
/-- by one value, by two -/
structure GB (X : Cx) (cl : Nat → Addr) (f : Value) (g : OV → (MV → Prop) → Prop) : Prop where
  mo : ∀ m (Q Q' : MV → Prop), (∀ k, Q k → Q' k) → g m Q → g m Q'
  ex : ∃ r, CallR X f r ∧ ∀ m x H G (Q : VK), Same G H → RepB X.K cl H G m x → g m (fun k => ∀ v H' G', Ext H G H' G' → Rep X.K cl G' k v → Q v H') → r [x] H Q
structure GB2 (X : Cx) (cl : Nat → Addr) (f : Value) (g : OV → OV → (MV → Prop) → Prop) : Prop where
  mo : ∀ m n (Q Q' : MV → Prop), (∀ k, Q k → Q' k) → g m n Q → g m n Q'
  ex : ∃ r, CallR X f r ∧ ∀ m n x y H G (Q : VK), Same G H → RepB X.K cl H G m x → RepB X.K cl H G n y → g m n (fun k => ∀ v H' G', Ext H G H' G' → Rep X.K cl G' k v → Q v H') → r [x, y] H Q
def e1 (g : OV → (MV → Prop) → Prop) (qa : QX) : EX := fun env Q => qa env fun m => g m Q
variable {x : Str} {p : Pos} {id T : String} {g : OV → (MV → Prop) → Prop} {g2 : OV → OV → (MV → Prop) → Prop}
theorem one_run {f : Value} (hg : GB X cl f g) (ha : MQ X cl a qa) : ∃ r, CallR X f r ∧ ∀ σ H Q, eOf X.K cl (e1 g qa) σ H Q → tCB r (tCons (qOf X.K cl qa) tNil) σ H Q := by
  obtain ⟨r, hc, h⟩ := hg.ex
  refine ⟨r, hc, fun σ H Q ⟨β, G, env, r0, q⟩ => ⟨β, G, env, r0, ha.mo _ _ _ (fun m z v H' G' e rv => ?_) q⟩⟩
  exact h m v H' G' Q e.gh rv (hg.mo _ _ _ (fun k w v' H2 G2 e2 rk => w v' H2 G2 (e.trans e2) rk) z)
theorem m_callB (hg : GB X cl (.builtin id) g) (gl : Gl X x) (hm : X.mg x = none) (hv : bootBuiltins x = some (.builtin id)) (ha : MQ X cl a qa) (hn : x ≠ "__name__" := by decide) (hdb : (x == ("__debug__" : Str)) = false := by decide)
    (he : starEach [a] X.env = (false, eval a X.env) :: starEach [] X.env := by rfl) : ME X cl (.Call (.Name x p) [a] [] pos) (e1 g qa) := by
  obtain ⟨r, hc, h⟩ := one_run hg ha
  exact ⟨fun env Q Q' k q => ha.mo _ _ _ (fun m z => hg.mo _ _ _ k z) q, PEmono (pe_callB hc gl hm hv (pa_cons ha.pe pa_nil he) hn hdb he rfl) h⟩
theorem m_callT (hg : GB X cl (.type T) g) (gl : Gl X x) (hm : X.mg x = none) (hv : bootBuiltins x = some (.type T)) (ha : MQ X cl a qa) (hn : x ≠ "__name__" := by decide) (hdb : (x == ("__debug__" : Str)) = false := by decide)
    (he : starEach [a] X.env = (false, eval a X.env) :: starEach [] X.env := by rfl) : ME X cl (.Call (.Name x p) [a] [] pos) (e1 g qa) := by
  obtain ⟨r, hc, h⟩ := one_run hg ha
  exact ⟨fun env Q Q' k q => ha.mo _ _ _ (fun m z => hg.mo _ _ _ k z) q, PEmono (pe_callTy hc gl hm hv (pa_cons ha.pe pa_nil he) hn hdb he rfl) h⟩
theorem m_callB2 (hg : GB2 X cl (.builtin id) g2) (gl : Gl X x) (hm : X.mg x = none) (hv : bootBuiltins x = some (.builtin id)) (ha : MQ X cl a qa) (hb : MQ X cl b qb) (hn : x ≠ "__name__" := by decide) (hdb : (x == ("__debug__" : Str)) = false := by decide)
    (he : starEach [a, b] X.env = (false, eval a X.env) :: starEach [b] X.env := by rfl) (he2 : starEach [b] X.env = (false, eval b X.env) :: starEach [] X.env := by rfl) (hpl : (backTo pos (starEach [b] X.env)).any (·.1) = false := by rfl) : ME X cl (.Call (.Name x p) [a, b] [] pos) (eBin g2 qa qb) := by
  obtain ⟨r, hc, h⟩ := hg.ex
  refine ⟨fun env Q Q' k q => ha.mo _ _ _ (fun m z => hb.mo _ _ _ (fun n z => hg.mo _ _ _ _ k z) z) q, PEmono (pe_callB hc gl hm hv (pa_cons ha.pe (pa_cons hb.pe pa_nil he2) he) hn hdb he hpl) fun σ H Q ⟨β, G, env, r0, q⟩ => ?_⟩
  refine ⟨β, G, env, r0, ha.mo _ _ _ (fun m z v H' G' e rv => ?_) q⟩
  refine ⟨β, G', env, r0.ext e, hb.mo _ _ _ (fun n z w H2 G2 e2 rw => ?_) z⟩
  exact h m n v w H2 G2 Q e2.gh (Same.repB rv e2) rw (hg.mo _ _ _ _ (fun k w v' H3 G3 e3 rk => w v' H3 G3 ((e.trans e2).trans e3) rk) z)
end
end C
namespace C
open PySem PySem.Spec PyProof.Rows L2
/-! ### functions -/
abbrev FX := Env → (OV → Env → Prop) → (Int → Prop) → Prop
def FMono (F : FX) : Prop := ∀ ss (Q Q' : OV → Env → Prop) (E E' : Int → Prop), (∀ o e, Q o e → Q' o e) → (∀ n, E n → E' n) → F ss Q E → F ss Q' E'
def sp0 (K : PySem.W.Frag) (cl : Nat → Addr) (n : Nat) (F : FX) : Sp := fun vs H Q _ => vs.length = n ∧ ∃ G Fl ss, R K cl ⟨H, G, Fl, vs.map some⟩ (vs.map some) H G ss [] ∧
  F ss (fun o env' => ∀ v σ' H' G' X, R K cl ⟨H, G, Fl, vs.map some⟩ σ' H' G' env' X → RepO K cl H' G' o v X → Q v H') (fun _ => False)
/-- a def that is ready to be called, at level k -/
structure FB (P : Program) (w : World) (K : PySem.W.Frag) (mg : Str → Option Value) (base : Heap) (cl : Nat → Addr) (k n : Nat) (f : Addr) (F : FX) : Prop where
  ex : ∃ fd ps, FnOk P w K mg base CX0 k f fd ps (sp0 K cl n F) ∧ Binds K fd ps []
  mo : ∀ A : Around, Room k A → FMono F
def noMu : List Ar → Bool
  | [] => true
  | .mu _ _ :: _ => false
  | _ :: as => noMu as
theorem noMu_iff : ∀ {as : List Ar}, noMu as = true → ∀ i p, Ar.mu i p ∉ as
  | [], _, i, p, h => by cases h
  | .v m :: as, e, i, p, h => noMu_iff (as := as) (by simpa [noMu] using e) i p (by simpa using h)
  | .br j q :: as, e, i, p, h => noMu_iff (as := as) (by simpa [noMu] using e) i p (by simpa using h)
  | .mu j q :: as, e, i, p, h => by simp [noMu] at e
/-- a call that lends nothing to be changed; the answer is new or frozen -/
abbrev NX := Env → (OV → Prop) → Prop
def nCall (n : Nat) (F : FX) (ga : AX) : NX := fun env Q => ga env fun as => match arSlots env as with
  | some ss => ((arOk (muS as) as && noMu as) && Nat.beq as.length n) = true ∧ F ss (fun o _ => Q o) (fun _ => False)
  | none => False
section
variable (K : PySem.W.Frag) (cl : Nat → Addr)
def nOf (f : NX) : TE := fun σ H Q => ∃ β G env, R K cl β σ H G env [] ∧ f env fun o => ∀ v H' G' X, Ext H G H' G' → RepO K cl H' G' o v X → (∀ b ∈ X, H b = none ∧ G' b = none ∧ H' b ≠ none) → Q v H'
end
structure MN (X : Cx) (cl : Nat → Addr) (E : Expr) (f : NX) : Prop where
  mo : ∀ env (Q Q' : OV → Prop), (∀ m, Q m → Q' m) → f env Q → f env Q'
  pe : PE X E (nOf X.K cl f)
section
variable {X : Cx} {cl : Nat → Addr} {a b c e : Expr} {es : List Expr} {fa fb fc : EX} {qa qb qc : QX} {ta tb : TX} {ga : AX} {na : NX} {pos : Pos}
theorem frz_rep {K : PySem.W.Frag} {H G : Hp} {o : OV} {v : V} {X : List Addr} {m : MV} (h : RepO K cl H G o v X) (n : ∀ b ∈ X, G b = none) (e : frz o = some m) : Rep K cl (frzG H G X) m v :=
  RepO.frz (frzG_same n) o v X m (fun b hb u hu => by unfold frzG; rw [if_pos hb]; exact hu) h e
/-- a new thing is frozen -/
def eFrz (na : NX) : EX := fun env Q => na env fun o => match frz o with
  | some m => Q m
  | none => False
theorem me_n (h : MN X cl a na) : ME X cl a (eFrz na) := by
  refine ⟨fun env Q Q' k q => h.mo _ _ _ (fun o z => ?_) q, PEmono h.pe fun σ H Q ⟨β, G, env, r0, q⟩ => ⟨β, G, env, r0, h.mo _ _ _ (fun o z v H' G' X e ro hX => ?_) q⟩⟩
  · cases q : frz o with
    | none => rw [q] at z; exact z
    | some m => rw [q] at z; exact k _ z
  · cases q : frz o with
    | none => rw [q] at z; exact z.elim
    | some m =>
      rw [q] at z
      exact z v H' _ (e.frz (fun b hb => (hX b hb).1) fun b hb => (hX b hb).2.1) (frz_rep ro (fun b hb => (hX b hb).2.1) q)
def nE (fa : EX) : NX := fun env Q => fa env fun m => Q (.fro m)
theorem mn_e (h : ME X cl a fa) : MN X cl a (nE fa) := by
  refine ⟨fun env Q Q' k q => h.mo _ _ _ (fun o z => k _ z) q, PEmono h.pe fun σ H Q ⟨β, G, env, r0, q⟩ => ⟨β, G, env, r0, h.mo _ _ _ (fun m z v H' G' e r => ?_) q⟩⟩
  exact z v H' G' [] e (by unfold RepO; exact ⟨rfl, r⟩) (fun b hb => by cases hb)
/-- a list just displayed -/
def nLst (ga : AX) : NX := fun env Q => ga env fun as => match arVs as with
  | some ms => ms.length ≤ sizeLine ∧ Q (.lst ms)
  | none => False
theorem mn_lst (h : MA X cl es ga) : MN X cl (.List es pos) (nLst ga) := by
  refine ⟨fun env Q Q' k q => h.mo _ _ _ (fun as z => ?_) q, PEmono (pe_lst h.pa) fun σ H Q ⟨β, G, env, r0, q⟩ => ⟨β, G, env, r0, h.mo _ _ _ (fun as z vs H' G' e rs => ?_) q⟩⟩
  · cases e : arVs as with
    | none => rw [e] at z; exact z
    | some ms => rw [e] at z; exact ⟨z.1, k _ z.2⟩
  · cases q : arVs as with
    | none => rw [q] at z; exact z.elim
    | some ms =>
      rw [q] at z
      have rr := arVs_rep q rs
      refine ⟨by rw [Reps.len _ _ rr]; exact z.1, fun p hp => z.2 _ _ G' [p] (e.trans (Ext.new0 e.gh hp)) ?_ fun b hb => ?_⟩
      · unfold RepO
        exact ⟨p, vs, rfl, rfl, upd_same, rr⟩
      · have : b = p := by simpa using hb
        subst this
        refine ⟨e.hh.free hp, e.gh.free hp, by rw [upd_same]; simp⟩
/-! ### calls of defs -/
theorem call_in {n : Nat} {F : FX} (mo : FMono F) {σ : L2.St} {β : Bs} {H G : Hp} {env : Env} {as : List Ar} {vs : List V} {ss : Env} {Q : VK} (r0 : R X.K cl β σ H G env []) (ra : ArReps X.K cl σ H G as vs) (hs : arSlots env as = some ss)
    (ok : (arOk (muS as) as && noMu as) = true) (hn : as.length = n) (q : F ss (fun o _ => ∀ v H' G' X', Ext H G H' G' → RepO X.K cl H' G' o v X' → (∀ b ∈ X', H b = none ∧ G' b = none ∧ H' b ≠ none) → Q v H') (fun _ => False)) : sp0 X.K cl n F vs H Q E0 := by
  rw [Bool.and_eq_true] at ok
  obtain ⟨Fl, r1, _, hFl⟩ := r0.callF ra hs ok.1
  have nF : ∀ b, ¬ Fl b := fun b z => by
    obtain ⟨i, p, h⟩ := hFl b z
    exact noMu_iff ok.2 i p h
  refine ⟨by rw [ra.len, hn], G, Fl, ss, r1, mo _ _ _ _ _ (fun o env' z v σ' H' G' X' r2 ro => ?_) (fun _ z => z) q⟩
  obtain ⟨fp, _, _, _, s4⟩ := r2.sl
  refine z v H' G' X' ⟨fun b u h => r2.hk b u h (nF b), r2.g0, r2.gh, fun b hb hg => r2.gk b hb (nF b) hg⟩ ro fun b hb => ?_
  obtain ⟨h1, h2, h3, _⟩ := s4 b hb
  exact ⟨h3.elim id fun z => (nF b z).elim, h2, h1⟩
end
end C
namespace C
open PySem PySem.Spec PyProof.Rows L2
section
variable {X : Cx} {cl : Nat → Addr} {a b c e : Expr} {es : List Expr} {fa fb fc : EX} {qa qb qc : QX} {ta tb : TX} {ga : AX} {na : NX} {pos p : Pos} {x : Str}
theorem nCall_mo {n : Nat} {F : FX} {ga : AX} (hg : ∀ env (Q Q' : List Ar → Prop), (∀ m, Q m → Q' m) → ga env Q → ga env Q') (hF : FMono F) : ∀ env (Q Q' : OV → Prop), (∀ m, Q m → Q' m) → nCall n F ga env Q → nCall n F ga env Q' := fun env Q Q' k q => hg _ _ _ (fun as z => by
  cases h : arSlots env as with
  | none => rw [h] at z; exact z
  | some ss => rw [h] at z; exact ⟨z.1, hF _ _ _ _ _ (fun o e w => k o w) (fun _ w => w) z.2⟩) q
theorem nCall_in {n : Nat} {F : FX} (mo : FMono F) {σ : L2.St} {β : Bs} {H G H' G' : Hp} {env : Env} {as : List Ar} {vs : List V} {Q : VK} (r0 : R X.K cl β σ H G env []) (e : Ext H G H' G') (rs : ArReps X.K cl σ H' G' as vs)
    (z : match arSlots env as with
      | some ss => ((arOk (muS as) as && noMu as) && Nat.beq as.length n) = true ∧ F ss (fun o _ => ∀ v H' G' X, Ext H G H' G' → RepO X_K cl H' G' o v X → (∀ b ∈ X, H b = none ∧ G' b = none ∧ H' b ≠ none) → Q v H') (fun _ => False)
      | none => False) (hK : X_K = X.K) : sp0 X.K cl n F vs H' Q E0 := by
  subst hK
  cases h : arSlots env as with
  | none => rw [h] at z; exact z.elim
  | some ss =>
    rw [h] at z
    have z1 := z.1
    rw [Bool.and_eq_true] at z1
    exact call_in mo (r0.ext e) rs h z1.1 (Nat.eq_of_beq_eq_true z1.2) (mo _ _ _ _ _ (fun o _ w v H2 G2 X2 e2 ro hX => w v H2 G2 X2 (e.trans e2) ro fun b hb => ⟨e.hh.free (hX b hb).1, (hX b hb).2⟩) (fun _ w => w) z.2)
theorem mn_call {k n : Nat} {f : Addr} {F : FX} (hF : FB X.prog X.w X.K X.mg X.base cl k n f F) (hr : Room k X.A) (gl : Gl X x) (hm : X.mg x = some (.ref f)) (hk : PySem.W.keepIn X.K (.ref f) = true) (ha : MA X cl (e :: es) ga) (hdb : (x == ("__debug__" : Str)) = false := by decide)
    (he : starEach (e :: es) X.env = (false, eval e X.env) :: starEach es X.env := by rfl) (hpl : (backTo pos (starEach es X.env)).any (·.1) = false := by rfl) : MN X cl (.Call (.Name x p) (e :: es) [] pos) (nCall n F ga) := by
  obtain ⟨fd, ps, F0, hb⟩ := hF.ex
  refine ⟨nCall_mo ha.mo (hF.mo X.A hr), PEmono (pe_call (E := E0) F0 hr gl hm hk hb .nil pass0 ha.pa hdb he hpl) fun σ H Q ⟨β, G, env, r0, q⟩ => ?_⟩
  refine ⟨β, G, env, r0, ha.mo _ _ _ (fun as z vs H' G' e rs => ?_) q⟩
  simp only [List.append_nil]
  exact nCall_in (hF.mo X.A hr) r0 e rs z rfl
/-! methods: the receiver is the first argument -/
abbrev RX := Env → (Ar → Prop) → Prop
structure MR (X : Cx) (cl : Nat → Addr) (E : Expr) (f : RX) : Prop where
  mo : ∀ env (Q Q' : Ar → Prop), (∀ m, Q m → Q' m) → f env Q → f env Q'
  pe : PE X E fun σ H Q => ∃ β G env, R X.K cl β σ H G env [] ∧ f env fun a => ∀ v H' G', Ext H G H' G' → ArRep X.K cl σ H' G' a v → Q v H'
def rE (fa : EX) : RX := fun env Q => fa env fun m => Q (.v m)
theorem mr_e (h : ME X cl a fa) : MR X cl a (rE fa) := ⟨fun env Q Q' k q => h.mo _ _ _ (fun m z => k _ z) q, PEmono h.pe fun σ H Q ⟨β, G, env, r0, q⟩ => ⟨β, G, env, r0, h.mo _ _ _ (fun m z v H' G' e r => z v H' G' e r) q⟩⟩
def rPl (mk : Ar) (i : Nat) (p : List Nat) : RX := fun env Q => match getP env i p with
  | some _ => Q mk
  | none => False
theorem mr_pl {i : Nat} {p : List Nat} (mk : Ar) (hmk : mk = .mu i p ∨ mk = .br i p) (ha : MP X a i p) (hp : fld38 p = true) : MR X cl a (rPl mk i p) := by
  refine ⟨fun env Q Q' k q => ?_, PEmono ha fun σ H Q ⟨β, G, env, r0, q⟩ => ?_⟩
  · unfold rPl at q ⊢
    cases h : getP env i p with
    | none => rw [h] at q; exact q
    | some o => rw [h] at q; exact k _ q
  · unfold rPl at q
    cases h : getP env i p with
    | none => rw [h] at q; exact q.elim
    | some o =>
      rw [h] at q
      obtain ⟨v0, w, h1, h2, _⟩ := r0.rd (fld38_out hp) h
      refine ⟨v0, w, h1, h2, q w H G (Ext.refl r0.gh) ?_⟩
      rcases hmk with rfl | rfl
      · exact ⟨v0, h1, h2⟩
      · exact ⟨v0, h1, h2⟩
theorem mr_mu {i : Nat} {p : List Nat} (ha : MP X a i p) (hp : fld38 p = true := by rfl) : MR X cl a (rPl (.mu i p) i p) := mr_pl _ (.inl rfl) ha hp
theorem mr_br {i : Nat} {p : List Nat} (ha : MP X a i p) (hp : fld38 p = true := by rfl) : MR X cl a (rPl (.br i p) i p) := mr_pl _ (.inr rfl) ha hp
/-- the class of what is lent -/
def arCls (env : Env) : Ar → Option Nat
  | .v (.obj c _) => some c
  | .mu i p => match getP env i p with
    | some (.obj c _) => some c
    | some (.fro (.obj c _)) => some c
    | _ => none
  | .br i p => match getP env i p with
    | some (.obj c _) => some c
    | some (.fro (.obj c _)) => some c
    | _ => none
  | _ => none
def isC (o : Option Nat) (c : Nat) : Bool := match o with
  | some d => Nat.beq d c
  | none => false
def rcG (c : Nat) (rx : RX) (ga : AX) : AX := fun env Q => rx env fun r => (isC (arCls env r) c && p38 r) = true ∧ ga env fun as => Q (r :: as)
where p38 : Ar → Bool
  | .v _ => true
  | .mu _ p => fld38 p
  | .br _ p => fld38 p
theorem nf_none {c : Nat} {m : Str} {vs : List V} (h : ∀ f ∈ fsOf c, fn f ≠ m) : (nf c vs).lookup m = none := by
  unfold nf
  have : ∀ (l : List Nat) (vs : List V), (∀ f ∈ l, fn f ≠ m) → ((l.map fn).zip vs).lookup m = none := by
    intro l
    induction l with
    | nil => intro vs _; simp
    | cons g r ih =>
      intro vs hl
      cases vs with
      | nil => simp
      | cons v vs =>
        have hb : (m == fn g) = false := beq_eq_false_iff_ne.mpr fun z => hl g List.mem_cons_self z.symm
        simp only [List.map_cons, List.zip_cons_cons, List.lookup_cons, hb]
        exact ih vs fun f hf => hl f (List.mem_cons_of_mem _ hf)
  exact this _ _ h
theorem arCls_rep {K : PySem.W.Frag} {β : Bs} {σ : L2.St} {H G : Hp} {env : Env} {r : Ar} {v : V} {c : Nat} (r0 : R K cl β σ H G env []) (hr : ArRep K cl σ H G r v) (h : (isC (arCls env r) c && rcG.p38 r) = true) : ∃ p dx vs, v = .ref p ∧ H p = some (.ins (cl c) dx (nf c vs)) := by
  rw [Bool.and_eq_true] at h
  have hc : arCls env r = some c := by
    have h1 := h.1
    cases e : arCls env r with
    | none => rw [e] at h1; cases h1
    | some d => rw [e] at h1; rw [Nat.eq_of_beq_eq_true h1]
  have plc : ∀ i p, (∃ v0, σ[i]? = some (some v0) ∧ PAt K H v0 p v) → fld38 p = true → (match getP env i p with
    | some (.obj c _) => some c
    | some (.fro (.obj c _)) => some c
    | _ => none) = some c → ∃ p dx vs, v = .ref p ∧ H p = some (.ins (cl c) dx (nf c vs)) := fun i p ⟨v0, h1, h2⟩ hp hm => by
    cases e : getP env i p with
    | none => rw [e] at hm; cases hm
    | some o =>
      rw [e] at hm
      obtain ⟨v1, w, y1, y2, y3⟩ := r0.rd (fld38_out hp) e
      rw [h1] at y1; cases y1
      have := PAt.uniq h2 y2
      subst this
      cases o with
      | obj c' os =>
        cases hm
        unfold RepB at y3
        obtain ⟨q, dx, vs, rfl, z, _⟩ := y3
        exact ⟨q, dx, vs, rfl, z⟩
      | fro m =>
        cases m with
        | obj c' ms =>
          cases hm
          unfold RepB Rep at y3
          obtain ⟨q, dx, vs, rfl, z, _⟩ := y3
          exact ⟨q, dx, vs, rfl, r0.gh _ _ z⟩
        | _ => cases hm
      | _ => cases hm
  cases r with
  | v m =>
    cases m with
    | obj c' ms =>
      have : c' = c := by simpa [arCls] using hc
      subst this
      have hr' : Rep K cl G (.obj c' ms) v := hr
      unfold Rep at hr'
      obtain ⟨q, dx, vs, rfl, z, _⟩ := hr'
      exact ⟨q, dx, vs, rfl, r0.gh _ _ z⟩
    | _ => simp [arCls] at hc
  | mu i p => exact plc i p hr h.2 hc
  | br i p => exact plc i p hr h.2 hc
theorem rcG_mo {c : Nat} {rx : RX} {ga : AX} (hx : ∀ env (Q Q' : Ar → Prop), (∀ m, Q m → Q' m) → rx env Q → rx env Q') (hg : ∀ env (Q Q' : List Ar → Prop), (∀ m, Q m → Q' m) → ga env Q → ga env Q') : ∀ env (Q Q' : List Ar → Prop), (∀ m, Q m → Q' m) → rcG c rx ga env Q → rcG c rx ga env Q' :=
  fun env Q Q' k q => hx _ _ _ (fun r z => ⟨z.1, hg _ _ _ (fun as w => k _ w) z.2⟩) q
theorem meth_in {c n : Nat} {rx : RX} {o : Expr} {m : Str} {sp : Sp} {E : XK} (hx : MR X cl o rx) (ha : MA X cl es ga) (hno : ∀ f ∈ fsOf c, fn f ≠ m) {σ : L2.St} {H : Hp} {Q : VK} {β : Bs} {G : Hp} {env : Env} (r0 : R X.K cl β σ H G env [])
    (q : rcG c rx ga env fun as => ∀ vs H' G', Ext H G H' G' → ArReps X.K cl σ H' G' as vs → sp vs H' Q E) :
    tMeth (cl c) m sp [] E (fun σ H Q => ∃ β G env, R X.K cl β σ H G env [] ∧ rx env fun a => ∀ v H' G', Ext H G H' G' → ArRep X.K cl σ H' G' a v → Q v H') (aOf X.K cl ga) σ H Q := by
  refine ⟨β, G, env, r0, hx.mo _ _ _ (fun r z v H' G' e rr => ?_) q⟩
  obtain ⟨p, dx, vs, rfl, h2⟩ := arCls_rep (r0.ext e) rr z.1
  refine ⟨p, dx, _, rfl, h2, nf_none hno, β, G', env, r0.ext e, ha.mo _ _ _ (fun as w vs2 H2 G2 e2 rs => ?_) z.2⟩
  simp only [List.append_nil]
  exact w _ H2 G2 (e.trans e2) ⟨_, vs2, rfl, rr.ext e2, rs⟩
/-- o.m(e, ..) that changes nothing -/
theorem mn_meth {k n : Nat} {f : Addr} {F : FX} {rx : RX} {o : Expr} {m : Str} {apos : Pos} {pl : Sem Bool} (c : Nat) (hF : FB X.prog X.w X.K X.mg X.base cl k n f F) (hr : Room k X.A) (hx : MR X cl o rx) (hC : Cls X.K (cl c)) (hM : Meth X.K (cl c) m f) (hno : ∀ f ∈ fsOf c, fn f ≠ m) (ha : MA X cl (e :: es) ga)
    (hst : starEach (e :: es) X.env = (false, eval e X.env) :: starEach es X.env := by rfl) (hpl : (backTo pos (starEach es X.env)).any (·.1) = false := by rfl)
    (ht : eval (.Call (.Attribute o m apos) (e :: es) [] pos) X.env = (do
      let ov ← eval o X.env
      standAt apos.atName
      let (f, first) ← holding [ov] (getMethod ov m pl)
      callWith pos f first (backTo pos (starEach (e :: es) X.env)) (backToKw pos (keywordEach [] X.env))) := by rfl) : MN X cl (.Call (.Attribute o m apos) (e :: es) [] pos) (nCall n F (rcG c rx ga)) := by
  obtain ⟨fd, ps, F0, hb⟩ := hF.ex
  refine ⟨nCall_mo (rcG_mo hx.mo ha.mo) (hF.mo X.A hr), PEmono (pe_meth (E := E0) hx.pe hC hM F0 hr hb .nil pass0 ha.pa hst hpl ht) fun σ H Q ⟨β, G, env, r0, q⟩ => ?_⟩
  exact meth_in (n := n) hx ha hno r0 (rcG_mo hx.mo ha.mo _ _ _ (fun as z vs H' G' e rs => nCall_in (hF.mo X.A hr) r0 e rs z rfl) q)
theorem mn_meth0 {k n : Nat} {f : Addr} {F : FX} {rx : RX} {o : Expr} {m : Str} {apos : Pos} {pl : Sem Bool} (c : Nat) (hF : FB X.prog X.w X.K X.mg X.base cl k n f F) (hr : Room k X.A) (hx : MR X cl o rx) (hC : Cls X.K (cl c)) (hM : Meth X.K (cl c) m f) (hno : ∀ f ∈ fsOf c, fn f ≠ m)
    (ht : eval (.Call (.Attribute o m apos) [] [] pos) X.env = (do
      let ov ← eval o X.env
      standAt apos.atName
      let (f, first) ← holding [ov] (getMethod ov m pl)
      callWith pos f first (backTo pos (starEach [] X.env)) (backToKw pos (keywordEach [] X.env))) := by rfl) : MN X cl (.Call (.Attribute o m apos) [] [] pos) (nCall n F (rcG c rx aN)) := by
  obtain ⟨fd, ps, F0, hb⟩ := hF.ex
  have ha : MA X cl [] aN := ma_nil
  refine ⟨nCall_mo (rcG_mo hx.mo ha.mo) (hF.mo X.A hr), PEmono (pe_meth0 (E := E0) hx.pe hC hM F0 hr hb .nil pass0 ht) fun σ H Q ⟨β, G, env, r0, q⟩ => ?_⟩
  obtain ⟨β', G', env', r1, q1⟩ := meth_in (n := n) (sp := sp0 X.K cl n F) (E := E0) hx ha hno r0 (rcG_mo hx.mo ha.mo _ _ _ (fun as z vs H' G' e rs => nCall_in (hF.mo X.A hr) r0 e rs z rfl) q)
  refine ⟨β', G', env', r1, hx.mo _ _ _ (fun r z v H2 G2 e2 rr => ?_) q1⟩
  obtain ⟨a, dx, fs, h1, h2, h3, β3, G3, env3, r3, h4⟩ := z v H2 G2 e2 rr
  exact ⟨a, dx, fs, h1, h2, h3, h4 [] H2 G3 (Ext.refl r3.gh) rfl⟩
/-! new instances -/
theorem R.consNew {K : PySem.W.Frag} {H H2 G : Hp} {F0 : Addr → Prop} {σ : L2.St} {ss : Env} {o : OV} {v : V} {fp : List Addr} (r : R K cl ⟨H, G, F0, σ⟩ σ H G ss []) (nF : ∀ b, ¬ F0 b) (hs : Same H H2) (hn : ∀ b ∈ fp, H b = none) (ho : RepO K cl H2 G o v fp) :
    R K cl ⟨H2, G, fun b => b ∈ fp, some v :: σ⟩ (some v :: σ) H2 G (.rf o :: ss) [] := by
  obtain ⟨f, s1, s2, s3, s4⟩ := r.sl
  have emp : ∀ i, i < ss.length → f i = [] := fun i hi => by
    cases e : f i with
    | nil => rfl
    | cons b t =>
      have hb : b ∈ f i := by rw [e]; exact List.mem_cons_self
      rcases (s2 i b hi hb).2 with y | y
      · exact absurd y ((s1 i ss[i] (by simp [hi])).there b hb)
      · exact (nF b y).elim
  refine ⟨by simp [r.len], Same.refl _, r.gh.trans hs, fun b u h _ => h, fun b _ _ h => h, fun i => match i with | 0 => fp | _ + 1 => [], fun i s hi => ?_, fun i b hi hb => ?_, fun i j b hi hj h1 h2 => ?_, fun b hb => by cases hb⟩
  · cases i with
    | zero =>
      simp at hi; subst hi
      unfold SRep
      exact ⟨v, rfl, rfl, ho⟩
    | succ i =>
      have hi' : ss[i]? = some s := by simpa using hi
      have hl := (List.getElem?_eq_some_iff.mp hi').1
      have q := s1 i s hi'
      rw [emp i hl] at q
      have e1 : (some v :: σ).getD (i + 1) none = σ.getD i none := rfl
      show SRep K cl _ H2 G (i + 1) ((some v :: σ).getD (i + 1) none) s []
      rw [e1]
      cases s with
      | un => unfold SRep at q ⊢; exact q
      | ow o' => unfold SRep at q ⊢; obtain ⟨w, q1, q2⟩ := q; exact ⟨w, q1, RepO.frame (Same.refl _) _ _ _ (fun b hb => by cases hb) q2⟩
      | rf o' => unfold SRep at q ⊢; obtain ⟨w, q1, q2, q3⟩ := q; exact ⟨w, q1, by simpa using q2, RepO.frame (Same.refl _) _ _ _ (fun b hb => by cases hb) q3⟩
      | bo o' =>
        unfold SRep at q ⊢
        obtain ⟨_, w, q1, q2, Hb, hb, q3⟩ := q
        exact ⟨rfl, w, q1, by simpa using q2, Hb, fun b u h => ⟨hs _ _ (hb b u h).1, fun z => by have y : H b = some u := (hb b u h).1; rw [hn b z] at y; cases y⟩, q3⟩
  · cases i with
    | zero =>
      have hb' : b ∈ fp := hb
      exact ⟨r.gh.free (hn b hb'), .inr hb'⟩
    | succ i => cases hb
  · cases i with
    | zero => cases j with
      | zero => rfl
      | succ j => cases h2
    | succ i => cases h1
def nMake (c n : Nat) (F : FX) (ga : AX) : NX := fun env Q => ga env fun as => match arSlots env as with
  | some ss => ((arOk (muS as) as && noMu as) && Nat.beq (as.length + 1) n) = true ∧ F (.rf (.obj c []) :: ss) (fun o env' => isNon o = true ∧ match env' with
    | .rf o' :: _ => Q o'
    | _ => False) (fun _ => False)
  | none => False
theorem make_in {n c : Nat} {F : FX} (mo : FMono F) (hC : COk X.K cl c 0) {σ : L2.St} {β : Bs} {H G : Hp} {env : Env} {as : List Ar} {vs : List V} {Q : VK} (r0 : R X.K cl β σ H G env []) (rs : ArReps X.K cl σ H G as vs)
    (z : match arSlots env as with
      | some ss => ((arOk (muS as) as && noMu as) && Nat.beq (as.length + 1) n) = true ∧ F (.rf (.obj c []) :: ss) (fun o env' => isNon o = true ∧ match env' with
        | .rf o' :: _ => ∀ v H' G' X_, Ext H G H' G' → RepO X.K cl H' G' o' v X_ → (∀ b ∈ X_, H b = none ∧ G' b = none ∧ H' b ≠ none) → Q v H'
        | _ => False) (fun _ => False)
      | none => False) (xx dx : Addr) (hx : H xx = none) (hdx : H dx = none) (hne : dx ≠ xx) : sp0 X.K cl n F (.ref xx :: vs) (upd (upd H dx (.own xx)) xx (.ins (cl c) dx [])) (fun v H2 => v = .non ∧ Q (.ref xx) H2) E0 := by
  cases h : arSlots env as with
  | none => rw [h] at z; exact z.elim
  | some ss =>
    rw [h] at z
    have z1 := z.1
    rw [Bool.and_eq_true, Bool.and_eq_true] at z1
    obtain ⟨Fl, r1, _, hFl⟩ := r0.callF rs h z1.1.1
    have nF : ∀ b, ¬ Fl b := fun b y => by
      obtain ⟨i, p, hh⟩ := hFl b y
      exact noMu_iff z1.1.2 i p hh
    have hx2 : (upd H dx (.own xx)) xx = none := by rw [upd_ne (Ne.symm hne)]; exact hx
    have hs : Same H (upd (upd H dx (.own xx)) xx (.ins (cl c) dx [])) := (same_upd hdx).trans (same_upd hx2)
    have r2 := R.consNew (fp := [xx]) (o := .obj c []) (v := .ref xx) r1 nF hs (fun b hb => by have y : b = xx := (by simpa using hb); rw [y]; exact hx) (by
      unfold RepO
      exact ⟨xx, dx, [], [], rfl, rfl, by rw [upd_same]; unfold nf; simp, hC, by unfold RepOs; exact ⟨rfl, rfl⟩, by simp⟩)
    refine ⟨by have := Nat.eq_of_beq_eq_true z1.2; rw [List.length_cons, rs.len]; exact this, G, _, _, r2, mo _ _ _ _ _ (fun o env' w v σ' H' G' X' r3 ro => ?_) (fun _ w => w) z.2⟩
    obtain ⟨w1, w2⟩ := w
    refine ⟨?_, ?_⟩
    · cases o with
      | fro m =>
        cases m with
        | non => unfold RepO Rep at ro; exact ro.2
        | _ => cases w1
      | _ => cases w1
    · cases env' with
      | nil => exact w2.elim
      | cons s0 rest =>
        cases s0 with
        | rf o' =>
          obtain ⟨fp, t1, t2, t3, t4⟩ := r3.sl
          have q := t1 0 (.rf o') rfl
          unfold SRep at q
          obtain ⟨v', q1, q2, q3⟩ := q
          have q2' : (some v' : Option V) = some (.ref xx) := by
            have : (some (V.ref xx) :: List.map some vs)[0]? = some (some v') := q2
            simpa using this.symm
          cases q2'
          have hk : ∀ b u, H b = some u → H' b = some u := fun b u hb => r3.hk b u (hs b u hb) fun y => by
            have : b = xx := by simpa using y
            rw [this, hx] at hb; cases hb
          refine w2 (.ref xx) H' G' (fp 0) ⟨hk, r3.g0, r3.gh, fun b hb hg => ?_⟩ q3 fun b hb => ?_
          · obtain ⟨u, hu⟩ := Option.ne_none_iff_exists'.mp hb
            refine r3.gk b (by show (upd (upd H dx (.own xx)) xx (.ins (cl c) dx [])) b ≠ none; rw [hs b u hu]; simp) (fun y => ?_) hg
            have : b = xx := by simpa using y
            rw [this, hx] at hu; cases hu
          · obtain ⟨y1, y2⟩ := t2 0 b (by simp) hb
            refine ⟨?_, y1, RepO.there _ _ _ q3 b hb⟩
            rcases y2 with y | y
            · exact hs.free y
            · have : b = xx := by simpa using y
              rw [this]; exact hx
        | _ => exact w2.elim
theorem nMake_mo {c n : Nat} {F : FX} {ga : AX} (hg : ∀ env (Q Q' : List Ar → Prop), (∀ m, Q m → Q' m) → ga env Q → ga env Q') (hF : FMono F) : ∀ env (Q Q' : OV → Prop), (∀ m, Q m → Q' m) → nMake c n F ga env Q → nMake c n F ga env Q' := fun env Q Q' k q => hg _ _ _ (fun as z => by
  cases h : arSlots env as with
  | none => rw [h] at z; exact z
  | some ss =>
    rw [h] at z
    refine ⟨z.1, hF _ _ _ _ _ (fun o e w => ⟨w.1, ?_⟩) (fun _ w => w) z.2⟩
    have w2 := w.2
    split at w2
    · exact k _ w2
    · exact w2.elim) q
theorem mn_make {k n : Nat} {f : Addr} {F : FX} (c : Nat) (hF : FB X.prog X.w X.K X.mg X.base cl k n f F) (hr : Room (k + 1) X.A) (hM : Mk X.K (cl c) f) (hC : COk X.K cl c 0) (gl : Gl X x) (hm : X.mg x = some (.ref (cl c))) (ha : MA X cl (e :: es) ga) (hdb : (x == ("__debug__" : Str)) = false := by decide)
    (he : starEach (e :: es) X.env = (false, eval e X.env) :: starEach es X.env := by rfl) (hpl : (backTo pos (starEach es X.env)).any (·.1) = false := by rfl) : MN X cl (.Call (.Name x p) (e :: es) [] pos) (nMake c n F ga) := by
  obtain ⟨fd, ps, F0, hb⟩ := hF.ex
  refine ⟨nMake_mo ha.mo (hF.mo X.A (hr.mono (Nat.le_succ k))), PEmono (pe_make (E := E0) hM F0 hr gl hm hb .nil pass0 ha.pa hdb he hpl) fun σ H Q ⟨β, G, env, r0, q⟩ => ?_⟩
  refine ⟨β, G, env, r0, ha.mo _ _ _ (fun as z vs H' G' e rs xx dx hx hdx hne => ?_) q⟩
  rw [List.append_nil]
  refine make_in (hF.mo X.A (hr.mono (Nat.le_succ k))) hC (r0.ext e) rs ?_ xx dx hx hdx hne
  cases h : arSlots env as with
  | none => rw [h] at z; exact z
  | some ss =>
    rw [h] at z
    refine ⟨z.1, hF.mo X.A (hr.mono (Nat.le_succ k)) _ _ _ _ _ (fun o e' w => ⟨w.1, ?_⟩) (fun _ w => w) z.2⟩
    have w2 := w.2
    split at w2
    · exact fun v H2 G2 X2 e2 ro hX => w2 v H2 G2 X2 (e.trans e2) ro fun b hb => ⟨e.hh.free (hX b hb).1, (hX b hb).2⟩
    · exact w2.elim
theorem mn_make0 {k n : Nat} {f : Addr} {F : FX} (c : Nat) (hF : FB X.prog X.w X.K X.mg X.base cl k n f F) (hr : Room (k + 1) X.A) (hM : Mk X.K (cl c) f) (hC : COk X.K cl c 0) (gl : Gl X x) (hm : X.mg x = some (.ref (cl c))) (hdb : (x == ("__debug__" : Str)) = false := by decide) : MN X cl (.Call (.Name x p) [] [] pos) (nMake c n F aN) := by
  obtain ⟨fd, ps, F0, hb⟩ := hF.ex
  refine ⟨nMake_mo (fun _ _ _ k q => k _ q) (hF.mo X.A (hr.mono (Nat.le_succ k))), PEmono (pe_make0 (E := E0) hM F0 hr gl hm hb .nil pass0 hdb) fun σ H Q ⟨β, G, env, r0, q⟩ => ?_⟩
  intro xx dx hx hdx hne
  exact make_in (hF.mo X.A (hr.mono (Nat.le_succ k))) hC r0 (as := []) (vs := []) rfl q xx dx hx hdx hne
end
end C
namespace C
open PySem PySem.Spec PyProof.Rows L2
abbrev XX := Env → (OV → Env → Prop) → (Int → Prop) → Prop
structure KK where
  nx : Env → Prop
  rt : OV → Env → Prop
  bk : Env → Prop
  ct : Env → Prop
  ex : Int → Prop
structure KLe (k k' : KK) : Prop where
  nx : ∀ e, k.nx e → k'.nx e
  rt : ∀ o e, k.rt o e → k'.rt o e
  bk : ∀ e, k.bk e → k'.bk e
  ct : ∀ e, k.ct e → k'.ct e
  ex : ∀ n, k.ex n → k'.ex n
abbrev SX := Env → KK → Prop
/-- the wish of exceptions, by the base -/
abbrev WX := Bs → Int → Prop
section
variable (K : PySem.W.Frag) (cl : Nat → Addr) (W : WX)
def xOf (f : XX) : TE := fun σ H Q => ∃ β G env, R K cl β σ H G env [] ∧ f env (fun o env2 => ∀ v H' G' X, R K cl β σ H' G' env2 X → Same G G' → RepO K cl H' G' o v X → Q v H') (W β)
def kOf (β : Bs) (g : Hp) (D : Ends) : KK where
  nx := fun env => ∀ σ H G, R K cl β σ H G env [] → Same g G → D.nx σ H
  rt := fun o env => ∀ σ H G v X, R K cl β σ H G env X → Same g G → RepO K cl H G o v X → D.rt v H
  bk := fun env => ∀ σ H G, R K cl β σ H G env [] → Same g G → D.bk σ H
  ct := fun env => ∀ σ H G, R K cl β σ H G env [] → Same g G → D.ct σ H
  ex := W β
def sOf (s : SX) : TS := fun D σ H => ∃ β G env, R K cl β σ H G env [] ∧ s env (kOf K cl W β G D)
end
structure MX (X : Cx) (cl : Nat → Addr) (W : WX) (E : Expr) (f : XX) : Prop where
  mo : ∀ env (Q Q' : OV → Env → Prop) (E E' : Int → Prop), (∀ o e, Q o e → Q' o e) → (∀ n, E n → E' n) → f env Q E → f env Q' E'
  pe : PE X E (xOf X.K cl W f)
structure MS (X : Cx) (cl : Nat → Addr) (W : WX) (st : Stmt) (s : SX) : Prop where
  mo : ∀ env k k', KLe k k' → s env k → s env k'
  ps : PS X st (sOf X.K cl W s)
structure MSs (X : Cx) (cl : Nat → Addr) (W : WX) (st : List Stmt) (s : SX) : Prop where
  mo : ∀ env k k', KLe k k' → s env k → s env k'
  ps : PSs X st (sOf X.K cl W s)
theorem kOf_le {K : PySem.W.Frag} {cl : Nat → Addr} {W : WX} {β : Bs} {g g' : Hp} {D : Ends} (h : Same g g') : KLe (kOf K cl W β g D) (kOf K cl W β g' D) :=
  ⟨fun e z σ H G r s => z σ H G r (h.trans s), fun o e z σ H G v X r s => z σ H G v X r (h.trans s), fun e z σ H G r s => z σ H G r (h.trans s), fun e z σ H G r s => z σ H G r (h.trans s), fun n z => z⟩
theorem PSmono {X : Cx} {e : Stmt} {t t' : TS} (h : PS X e t) (k : ∀ D σ H, t' D σ H → t D σ H) : PS X e t' := ⟨fun pins s σ H Q I q => h.run pins s σ H Q I (k Q σ H q)⟩
theorem PSsmono {X : Cx} {e : List Stmt} {t t' : TS} (h : PSs X e t) (k : ∀ D σ H, t' D σ H → t D σ H) : PSs X e t' := ⟨fun pins s σ H Q I q => h.run pins s σ H Q I (k Q σ H q)⟩
section
variable {K : PySem.W.Frag} {cl : Nat → Addr} {H H' G G' : Hp} {β : Bs} {σ : L2.St} {env : Env} {Z : List Addr}
theorem R.extX (r : R K cl β σ H G env []) (e : Ext H G H' G') (hz : ∀ b ∈ Z, H b = none ∧ G' b = none ∧ H' b ≠ none) : R K cl β σ H' G' env Z := by
  have r' := r.ext e
  obtain ⟨fp, s1, s2, s3, _⟩ := r.sl
  obtain ⟨fp', t1, t2, t3, _⟩ := r'.sl
  -- the old footprints serve
  refine ⟨r'.len, r'.g0, r'.gh, r'.hk, r'.gk, fp, fun i s hs => (s1 i s hs).frame e.gg fun b _ u h => e.hh b u h, fun i b hi hb => ?_, s3, fun b hb => ?_⟩
  · have hs : env[i]? = some env[i] := by simp [hi]
    exact ⟨e.gn b ((s1 i _ hs).there b hb) (s2 i b hi hb).1, (s2 i b hi hb).2⟩
  · obtain ⟨h1, h2, h3⟩ := hz b hb
    refine ⟨h3, h2, ?_, fun i hi z => (s1 i env[i] (by simp [hi])).there b z h1⟩
    by_cases n : β.F b
    · exact .inr n
    · left
      cases q : β.H b with
      | none => rfl
      | some u => rw [r.hk b u q n] at h1; cases h1
end
section
variable {X : Cx} {cl : Nat → Addr} {W : WX} {a b c e : Expr} {es : List Expr} {fa fb fc : EX} {qa qb qc : QX} {ta tb : TX} {ga : AX} {na : NX} {xa : XX} {pos p : Pos} {x : Str} {st : Stmt} {sts sts2 : List Stmt} {s t : SX}
def xN (na : NX) : XX := fun env Q _ => na env fun o => Q o env
theorem mx_n (h : MN X cl a na) : MX X cl W a (xN na) := by
  refine ⟨fun env Q Q' E E' k _ q => h.mo _ _ _ (fun o z => k _ _ z) q, PEmono h.pe fun σ H Q ⟨β, G, env, r0, q⟩ => ⟨β, G, env, r0, h.mo _ _ _ (fun o z v H' G' X' e ro hX => ?_) q⟩⟩
  exact z v H' G' X' (r0.extX e hX) e.gg ro
def xE (fa : EX) : XX := fun env Q _ => fa env fun m => Q (.fro m) env
theorem mx_e (h : ME X cl a fa) : MX X cl W a (xE fa) := mx_n (mn_e h)
/-! blocks -/
def skip : SX := fun env k => k.nx env
def sq (s t : SX) : SX := fun env k => s env { k with nx := fun env' => t env' k }
theorem mss_nil : MSs X cl W [] skip := ⟨fun env k k' l q => l.nx _ q, PSsmono pss_nil fun D σ H ⟨β, G, env, r0, q⟩ => q σ H G r0 (Same.refl _)⟩
theorem KLe.sq {t : SX} (ht : ∀ env k k', KLe k k' → t env k → t env k') {k k' : KK} (l : KLe k k') : KLe { k with nx := fun env' => t env' k } { k' with nx := fun env' => t env' k' } := ⟨fun e z => ht _ _ _ l z, l.rt, l.bk, l.ct, l.ex⟩
theorem mss_cons (h1 : MS X cl W st s) (h2 : MSs X cl W sts t) : MSs X cl W (st :: sts) (sq s t) := by
  refine ⟨fun env k k' l q => h1.mo _ _ _ (l.sq h2.mo) q, PSsmono (pss_cons h1.ps h2.ps) fun D σ H ⟨β, G, env, r0, q⟩ => ?_⟩
  exact ⟨β, G, env, r0, h1.mo env { kOf X.K cl W β G D with nx := fun env' => t env' (kOf X.K cl W β G D) } _ ⟨fun e z σ' H' G' r' g => ⟨β, G', e, r', h2.mo _ _ _ (kOf_le g) z⟩, fun o e z => z, fun e z => z, fun e z => z, fun n z => z⟩ q⟩
theorem mss_one (h1 : MS X cl W st s) : MSs X cl W [st] s := ⟨h1.mo, pss_one h1.ps⟩
theorem ms_pass : MS X cl W (.Pass pos) skip := ⟨fun env k k' l q => l.nx _ q, PSmono ps_pass fun D σ H ⟨β, G, env, r0, q⟩ => q σ H G r0 (Same.refl _)⟩
theorem ms_doc {x : Str} {j} {pos' : Pos} : MS X cl W (.Expr (.Constant (.str x) j pos) pos') skip := ⟨fun env k k' l q => l.nx _ q, PSmono ps_doc fun D σ H ⟨β, G, env, r0, q⟩ => q σ H G r0 (Same.refl _)⟩
def brk : SX := fun env k => k.bk env
theorem ms_break : MS X cl W (.Break pos) brk := ⟨fun env k k' l q => l.bk _ q, PSmono ps_break fun D σ H ⟨β, G, env, r0, q⟩ => q σ H G r0 (Same.refl _)⟩
def drop (xa : XX) : SX := fun env k => xa env (fun _ env2 => k.nx env2) k.ex
theorem ms_expr (h : MX X cl W a xa) (hs : swapsWith a none pos.line X.env = pure false := by rfl) : MS X cl W (.Expr a pos) (drop xa) :=
  ⟨fun env k k' l q => h.mo _ _ _ _ _ (fun o e z => l.nx _ z) l.ex q, PSmono (ps_expr h.pe hs) fun D σ H ⟨β, G, env, r0, q⟩ => ⟨β, G, env, r0, h.mo _ _ _ _ _ (fun o e z v H' G' X' r' g _ => z σ H' G' r'.drop g) (fun _ z => z) q⟩⟩
def ret (xa : XX) : SX := fun env k => xa env k.rt k.ex
theorem ms_ret (h : MX X cl W a xa) : MS X cl W (.Return (some a) pos) (ret xa) :=
  ⟨fun env k k' l q => h.mo _ _ _ _ _ l.rt l.ex q, PSmono (ps_ret h.pe) fun D σ H ⟨β, G, env, r0, q⟩ => ⟨β, G, env, r0, h.mo _ _ _ _ _ (fun o e z v H' G' X' r' g ro => z σ H' G' v X' r' g ro) (fun _ z => z) q⟩⟩
def retN : SX := fun env k => k.rt (.fro .non) env
theorem ms_retN : MS X cl W (.Return none pos) retN :=
  ⟨fun env k k' l q => l.rt _ _ q, PSmono ps_retN fun D σ H ⟨β, G, env, r0, q⟩ => q σ H G .non [] r0 (Same.refl _) (by unfold RepO Rep; exact ⟨rfl, rfl⟩)⟩
def isRf : Slot → Bool
  | .rf _ => true
  | _ => false
def setE (env : Env) (i : Nat) (o : OV) : Option Env := match env[i]? with
  | some s => match isRf s with
    | true => none
    | false => some (env.set i (.ow o))
  | none => none
theorem setE_out {env env' : Env} {i : Nat} {o : OV} (h : setE env i o = some env') : i < env.length ∧ env' = env.set i (.ow o) := by
  unfold setE at h
  split at h
  · rename_i s e
    split at h
    · cases h
    · cases h
      exact ⟨(List.getElem?_eq_some_iff.mp e).1, rfl⟩
  · cases h
/-- a slot that may be written -/
theorem setE_go {s : Slot} {E : Env} {P : Env → Prop} (h : isRf s = false) (q : P E) : (match (match isRf s with | true => none | false => some E : Option Env) with | some e => P e | none => False) := by
  rw [h]
  exact q
def set (i : Nat) (xa : XX) : SX := fun env k => xa env (fun o env2 => match setE env2 i o with
  | some env3 => k.nx env3
  | none => False) k.ex
theorem set_mo {i : Nat} (h : MX X cl W a xa) : ∀ env k k', KLe k k' → set i xa env k → set i xa env k' := fun env k k' l q => h.mo _ _ _ _ _ (fun o e z => by
  split at z
  · exact l.nx _ z
  · exact z.elim) l.ex q
theorem ms_set (i : Nat) {pos' : Pos} (hN : X.N.Nodup) (h : MX X cl W e xa) (hi : X.N[i]? = some x := by rfl) (hx : Loc X.env.scope x := by first | exact Or.inl rfl | exact Or.inr rfl) (hs : swapsWith e (some (.Name x pos')) pos.line X.env = pure false := by rfl)
    (hf : X.fn x = true ∨ X.env.scope.names.lookup x = some .local := by first | exact .inl rfl | exact .inr rfl | assumption) : MS X cl W (.Assign [.Name x pos'] e pos) (set i xa) := by
  refine ⟨set_mo h, PSmono (ps_set hN hi hx h.pe hs hf) fun D σ H ⟨β, G, env, r0, q⟩ => ⟨β, G, env, r0, h.mo _ _ _ _ _ (fun o e z v H' G' X' r' gg ro => ?_) (fun _ z => z) q⟩⟩
  cases g : setE e i o with
  | none => rw [g] at z; exact z.elim
  | some e3 =>
    rw [g] at z
    obtain ⟨h1, rfl⟩ := setE_out g
    exact z _ H' G' (r'.setv h1 ro) gg
/-! if, while -/
abbrev UX := Env → (Bool → Env → Prop) → (Int → Prop) → Prop
structure MU (X : Cx) (cl : Nat → Addr) (W : WX) (E : Expr) (f : UX) : Prop where
  mo : ∀ env (Q Q' : Bool → Env → Prop) (E E' : Int → Prop), (∀ o e, Q o e → Q' o e) → (∀ n, E n → E' n) → f env Q E → f env Q' E'
  pt : PT X E fun σ H Q => ∃ β G env, R X.K cl β σ H G env [] ∧ f env (fun k env2 => ∀ H' G', R X.K cl β σ H' G' env2 [] → Same G G' → Q k H') (W β)
def uT (t : TX) : UX := fun env Q _ => t env fun k => Q k env
theorem mu_t (h : MT X cl a ta) : MU X cl W a (uT ta) := ⟨fun env Q Q' E E' k _ q => h.mo _ _ _ (fun b z => k _ _ z) q, PTmono h.pt fun σ H Q ⟨β, G, env, r0, q⟩ => ⟨β, G, env, r0, h.mo _ _ _ (fun k z H' G' e => z H' G' (r0.ext e) e.gg) q⟩⟩
def ifS (t : UX) (s u : SX) : SX := fun env k => t env (fun b env2 => match b with
  | true => s env2 k
  | false => u env2 k) k.ex
theorem ms_if {t : UX} {s u : SX} (hc : MU X cl W c t) (h1 : MSs X cl W sts s) (h2 : MSs X cl W sts2 u) : MS X cl W (.If c sts sts2 pos) (ifS t s u) := by
  refine ⟨fun env k k' l q => hc.mo _ _ _ _ _ (fun b e z => ?_) l.ex q, PSmono (ps_if hc.pt h1.ps h2.ps) fun D σ H ⟨β, G, env, r0, q⟩ => ⟨β, G, env, r0, hc.mo _ _ _ _ _ (fun b e z H' G' r' g => ?_) (fun _ z => z) q⟩⟩
  · cases b with
    | true => exact h1.mo _ _ _ l z
    | false => exact h2.mo _ _ _ l z
  · cases b with
    | true => rw [if_pos rfl]; exact ⟨β, G', e, r', h1.mo _ _ _ (kOf_le g) z⟩
    | false => rw [if_neg Bool.false_ne_true]; exact ⟨β, G', e, r', h2.mo _ _ _ (kOf_le g) z⟩
def whileN (t : TX) (s : SX) : Nat → SX
  | 0 => fun _ _ => False
  | n + 1 => fun env k => t env fun b => match b with
    | true => s env { k with nx := fun e => whileN t s n e k, ct := fun e => whileN t s n e k, bk := k.nx }
    | false => k.nx env
def whileS (t : TX) (s : SX) : SX := fun env k => ∃ n, whileN t s n env k
theorem whileN_mo {t : TX} {s : SX} (ht : ∀ env (Q Q' : Bool → Prop), (∀ m, Q m → Q' m) → t env Q → t env Q') (hs : ∀ env k k', KLe k k' → s env k → s env k') : ∀ n env k k', KLe k k' → whileN t s n env k → whileN t s n env k'
  | 0, _, _, _, _, q => q
  | n + 1, env, k, k', l, q => ht _ _ _ (fun b z => by
    cases b with
    | true => exact hs env { k with nx := fun e => whileN t s n e k, ct := fun e => whileN t s n e k, bk := k.nx } _ ⟨fun e w => whileN_mo ht hs n e k k' l w, l.rt, l.nx, fun e w => whileN_mo ht hs n e k k' l w, l.ex⟩ z
    | false => exact l.nx _ z) q
theorem ms_while (hc : MT X cl c ta) (hb : MSs X cl W sts s) (hp : PassesOwn (model X.prog X.w) X.A X.env X.xe) : MS X cl W (.While c sts [] pos) (whileS ta s) := by
  refine ⟨fun env k k' l ⟨n, q⟩ => ⟨n, whileN_mo hc.mo hb.mo n _ _ _ l q⟩, PSmono (ps_while hp hc.pt hb.ps) fun D σ H ⟨β, G, env, r0, n, q⟩ => ?_⟩
  refine ⟨fun m σ H => ∃ G2 env, R X.K cl β σ H G2 env [] ∧ Same G G2 ∧ whileN ta s m env (kOf X.K cl W β G D), ⟨n, G, env, r0, Same.refl _, q⟩, ?_⟩
  rintro m σ H ⟨G2, env, r0, g0, q⟩
  cases m with
  | zero => exact q.elim
  | succ m =>
    refine ⟨β, G2, env, r0, hc.mo _ _ _ (fun b z H' G' e => ?_) q⟩
    cases b with
    | true =>
      refine ⟨fun σ' H' => ∃ G2 env, R X.K cl β σ' H' G2 env [] ∧ Same G G2 ∧ whileN ta s m env (kOf X.K cl W β G D), fun σ' H' h => ⟨m, Nat.lt_succ_self _, h⟩, β, G', env, r0.ext e, hb.mo env { kOf X.K cl W β G D with nx := fun e => whileN ta s m e (kOf X.K cl W β G D), ct := fun e => whileN ta s m e (kOf X.K cl W β G D), bk := (kOf X.K cl W β G D).nx } _ ⟨fun e' w σ' H2 G3 r2 g => ⟨G3, e', r2, (g0.trans e.gg).trans g, w⟩, fun o e' w σ' H2 G3 v X r2 g => w σ' H2 G3 v X r2 ((g0.trans e.gg).trans g), fun e' w σ' H2 G3 r2 g => w σ' H2 G3 r2 ((g0.trans e.gg).trans g), fun e' w σ' H2 G3 r2 g => ⟨G3, e', r2, (g0.trans e.gg).trans g, w⟩, fun n w => w⟩ z⟩
    | false => exact z σ H' G' (r0.ext e) (g0.trans e.gg)
end
end C
namespace C
open PySem PySem.Spec PyProof.Rows L2
/-! ### targets -/
abbrev GX := MV → Env → (Env → Prop) → Prop
abbrev GXs := List MV → Env → (Env → Prop) → Prop
section
variable (K : PySem.W.Frag) (cl : Nat → Addr)
/-- only slots of vs are stored -/
def Agr (vs : List Nat) (σ σ' : L2.St) : Prop := σ'.length = σ.length ∧ ∀ j, j ∉ vs → σ'[j]? = σ[j]?
def gOf (g : GX) (vs : List Nat) : TG := fun v σ H Q => ∃ β G env m, R K cl β σ H G env [] ∧ Rep K cl G m v ∧ g m env fun env' => ∀ σ', R K cl β σ' H G env' [] → Agr vs σ σ' → Q σ' H
def gsOf (g : GXs) (is : List Nat) : TGs := fun vs σ H Q => ∃ β G env ms, R K cl β σ H G env [] ∧ Reps K cl G ms vs ∧ g ms env fun env' => ∀ σ', R K cl β σ' H G env' [] → Agr is σ σ' → Q σ' H
end
structure MG (X : Cx) (cl : Nat → Addr) (E : Expr) (g : GX) (vs : List Nat) : Prop where
  mo : ∀ m env (Q Q' : Env → Prop), (∀ e, Q e → Q' e) → g m env Q → g m env Q'
  pg : PG X E (gOf X.K cl g vs)
structure MGs (X : Cx) (cl : Nat → Addr) (E : List Expr) (g : GXs) (vs : List Nat) : Prop where
  mo : ∀ m env (Q Q' : Env → Prop), (∀ e, Q e → Q' e) → g m env Q → g m env Q'
  pg : PGs X E (gsOf X.K cl g vs)
theorem PGmono {X : Cx} {e : Expr} {t t' : TG} (h : PG X e t) (k : ∀ v σ H Q, t' v σ H Q → t v σ H Q) : PG X e t' := ⟨fun pins s σ H v u Q I r q => h.run pins s σ H v u Q I r (k v σ H Q q)⟩
theorem PGsmono {X : Cx} {e : List Expr} {t t' : TGs} (h : PGs X e t) (k : ∀ v σ H Q, t' v σ H Q → t v σ H Q) : PGs X e t' := ⟨fun pins s σ H v u Q I r q => h.run pins s σ H v u Q I r (k v σ H Q q)⟩
section
variable {X : Cx} {cl : Nat → Addr} {W : WX} {a b c e : Expr} {es : List Expr} {fa fb fc : EX} {qa qb qc : QX} {ta tb : TX} {ga : AX} {na : NX} {xa : XX} {pos p : Pos} {x : Str} {st : Stmt} {sts sts2 : List Stmt} {s t : SX} {g : GX} {gs : GXs} {vs us : List Nat}
theorem Agr.refl {σ : L2.St} : Agr vs σ σ := ⟨rfl, fun _ _ => rfl⟩
theorem Agr.set {σ : L2.St} {i : Nat} {o : Option V} : Agr [i] σ (σ.set i o) := ⟨List.length_set, fun j hj => List.getElem?_set_ne (by simp at hj; omega)⟩
theorem Agr.trans {σ σ1 σ2 : L2.St} (a : Agr vs σ σ1) (b : Agr us σ1 σ2) : Agr (vs ++ us) σ σ2 := ⟨b.1.trans a.1, fun j hj => (b.2 j fun z => hj (List.mem_append_right _ z)).trans (a.2 j fun z => hj (List.mem_append_left _ z))⟩
def gNm (i : Nat) : GX := fun m env Q => match setE env i (.fro m) with
  | some e => Q e
  | none => False
theorem mg_name (i : Nat) (hN : X.N.Nodup) (hi : X.N[i]? = some x := by rfl) (hx : Loc X.env.scope x := by first | exact Or.inl rfl | exact Or.inr rfl) (hf : X.fn x = true ∨ X.env.scope.names.lookup x = some .local := by first | exact .inl rfl | exact .inr rfl | assumption) : MG X cl (.Name x pos) (gNm i) [i] := by
  refine ⟨fun m env Q Q' k q => ?_, PGmono (pg_name hN hi hx hf) fun v σ H Q ⟨β, G, env, m, r0, rv, q⟩ => ?_⟩
  · unfold gNm at q ⊢
    split at q
    · exact k _ q
    · exact q.elim
  · unfold gNm at q
    cases h : setE env i (.fro m) with
    | none => rw [h] at q; exact q.elim
    | some e =>
      rw [h] at q
      obtain ⟨h1, rfl⟩ := setE_out h
      exact q _ (r0.setv h1 (by unfold RepO; exact ⟨rfl, rv⟩)) Agr.set
def gsNil : GXs := fun ms env Q => match ms with
  | [] => Q env
  | _ => False
def gsCons (g : GX) (gs : GXs) : GXs := fun ms env Q => match ms with
  | m :: ms => g m env fun e => gs ms e Q
  | [] => False
theorem mgs_nil : MGs X cl [] gsNil [] := by
  refine ⟨fun ms env Q Q' k q => ?_, PGsmono pgs_nil fun v σ H Q ⟨β, G, env, ms, r0, rv, q⟩ => ?_⟩
  · cases ms with
    | nil => exact k _ q
    | cons => exact q.elim
  · cases ms with
    | nil => unfold Reps at rv; exact ⟨rv, q σ r0 Agr.refl⟩
    | cons => exact q.elim
theorem mgs_cons (h1 : MG X cl e g vs) (h2 : MGs X cl es gs us) (hs : (assignEach (e :: es) X.env).map (·.2) = assign e X.env :: (assignEach es X.env).map (·.2) := by rfl) : MGs X cl (e :: es) (gsCons g gs) (vs ++ us) := by
  refine ⟨fun ms env Q Q' k q => ?_, PGsmono (pgs_cons h1.pg h2.pg hs) fun v σ H Q ⟨β, G, env, ms, r0, rv, q⟩ => ?_⟩
  · cases ms with
    | nil => exact q.elim
    | cons m ms => exact h1.mo _ _ _ _ (fun e z => h2.mo _ _ _ _ k z) q
  · cases ms with
    | nil => exact q.elim
    | cons m ms =>
      unfold Reps at rv
      obtain ⟨v, ws, rfl, y1, y2⟩ := rv
      exact ⟨v, ws, rfl, β, G, env, m, r0, y1, h1.mo _ _ _ _ (fun e z σ' r' ag => ⟨β, G, e, ms, r', y2, h2.mo _ _ _ _ (fun e2 w σ2 r2 ag2 => w σ2 r2 (ag.trans ag2)) z⟩) q⟩
def gTupX (gs : GXs) : GX := fun m env Q => match m with
  | .tup ms => gs ms env Q
  | _ => False
/-- the number of targets is that of the items -/
def gLen (n : Nat) (gs : GXs) : GXs := fun ms env Q => Nat.beq ms.length n = true ∧ gs ms env Q
theorem mg_tup {k n : Nat} (hc : X.calm = true) (h : MGs X cl es gs vs) (hn : (assignEach es X.env).length = n := by rfl) (hst : (assignEach es X.env).findIdx? (·.1) = none := by rfl) : MG X cl (.Tuple es k pos) (gTupX (gLen n gs)) vs := by
  refine ⟨fun m env Q Q' k q => ?_, PGmono (pg_tup hc h.pg hn hst) fun v σ H Q ⟨β, G, env, m, r0, rv, q⟩ => ?_⟩
  · cases m with
    | tup ms => exact ⟨q.1, h.mo _ _ _ _ k q.2⟩
    | _ => exact q.elim
  · cases m with
    | tup ms =>
      unfold Rep at rv
      obtain ⟨a, vs, rfl, y1, y2⟩ := rv
      exact ⟨a, vs, rfl, sqT_same r0.gh y1, by rw [Reps.len _ _ y2]; exact Nat.eq_of_beq_eq_true q.1, β, G, env, ms, r0, y2, q.2⟩
    | _ => exact q.elim
def asg (g : GX) (xa : XX) : SX := fun env k => xa env (fun o env2 => asFro o fun m => g m env2 k.nx) k.ex
theorem ms_asg {tg : Expr} (h : MX X cl W e xa) (hg : MG X cl tg g vs) (hs : swapsWithSole [tg] e pos.line X.env = pure false := by rfl) (hw : swappedStores [tg] e X.env = pure none := by rfl) (h1 : (assignEach [tg] X.env).map (·.2) = [assign tg X.env] := by rfl) : MS X cl W (.Assign [tg] e pos) (asg g xa) := by
  refine ⟨fun env k k' l q => h.mo _ _ _ _ _ (fun o e z => asFro_mo (fun m z => hg.mo _ _ _ _ l.nx z) z) l.ex q, PSmono (ps_asg h.pe hg.pg hs hw h1) fun D σ H ⟨β, G, env, r0, q⟩ => ⟨β, G, env, r0, h.mo _ _ _ _ _ (fun o e z v H' G' X' r' gg ro => ?_) (fun _ z => z) q⟩⟩
  cases o with
  | fro m =>
    unfold RepO at ro
    exact ⟨β, G', e, m, r'.drop, ro.2, hg.mo _ _ _ _ (fun e2 z σ' r2 _ => z σ' H' G' r2 gg) z⟩
  | _ => exact z.elim
/-- a, b = x, y -/
def par (i j : Nat) (ga : AX) : SX := fun env k => ga env fun as => match as with
  | [.v m, .v n] => match setE env i (.fro m) with
    | some e => match setE e j (.fro n) with
      | some e2 => k.nx e2
      | none => False
    | none => False
  | _ => False
theorem ms_par (i j : Nat) {y : Str} {px py pt : Pos} {kt k2 pt2} (hc : X.calm = true) (hN : X.N.Nodup) (ha : MA X cl [a, b] ga) (hw : swappedStores [.Tuple [.Name x px, .Name y py] kt pt] (.Tuple [a, b] k2 pt2) X.env = pure (some [x, y])) (hi : X.N[i]? = some x := by rfl) (hj : X.N[j]? = some y := by rfl) (hij : i ≠ j := by decide)
    (hx : X.env.scope.names.lookup x = some .local := by rfl) (hy : X.env.scope.names.lookup y = some .local := by rfl)
    (hs : swapsWithSole [.Tuple [.Name x px, .Name y py] kt pt] (.Tuple [a, b] k2 pt2) pos.line X.env = pure false := by rfl) : MS X cl W (.Assign [.Tuple [.Name x px, .Name y py] kt pt] (.Tuple [a, b] k2 pt2) pos) (par i j ga) := by
  refine ⟨fun env k k' l q => ha.mo _ _ _ (fun as z => ?_) q, PSmono (ps_par hc hN hi hj hij hx hy ha.pa hw hs) fun D σ H ⟨β, G, env, r0, q⟩ => ⟨β, G, env, r0, ha.mo _ _ _ (fun as z vs H' G' e rs => ?_) q⟩⟩
  · split at z
    · split at z
      · split at z
        · exact l.nx _ z
        · exact z.elim
      · exact z.elim
    · exact z.elim
  · split at z
    · rename_i m n
      unfold ArReps at rs
      obtain ⟨v, ws, rfl, y1, y2⟩ := rs
      unfold ArReps at y2
      obtain ⟨w, ws, rfl, y3, y4⟩ := y2
      unfold ArReps at y4
      subst y4
      have y1' : Rep X.K cl G' m v := y1
      have y3' : Rep X.K cl G' n w := y3
      refine ⟨v, w, rfl, ?_⟩
      cases h : setE env i (.fro m) with
      | none => rw [h] at z; exact z.elim
      | some e1 =>
        rw [h] at z
        cases h2 : setE e1 j (.fro n) with
        | none => simp only [h2] at z
        | some e2 =>
          simp only [h2] at z
          obtain ⟨t1, rfl⟩ := setE_out h
          obtain ⟨t2, rfl⟩ := setE_out h2
          exact z _ H' G' (((r0.ext e).setv t1 (by unfold RepO; exact ⟨rfl, y1'⟩)).setv t2 (by unfold RepO; exact ⟨rfl, y3'⟩)) e.gg
    · exact z.elim

/-! ### what is walked -/
def ItOk (K : PySem.W.Frag) (cl : Nat → Addr) (J : It) (ms : List MV) (G KH : Hp) : Prop := ∃ Y, Walk J ms.length (fun H => Same KH H) Y ∧
  ∀ i H G1 x H', i < ms.length → Same KH H → Same G G1 → Same G1 H → Y i H x H' → ∃ G2 m, Ext H G1 H' G2 ∧ ms[i]? = some m ∧ Rep K cl G2 m x
abbrev LX := Env → (List MV → Prop) → Prop
/-- by value: what is walked stands frozen -/
structure MI (X : Cx) (cl : Nat → Addr) (tg E : Expr) (f : LX) : Prop where
  mo : ∀ env (Q Q' : List MV → Prop), (∀ m, Q m → Q' m) → f env Q → f env Q'
  pi : PI X tg E fun σ H Q => ∃ β G env, R X.K cl β σ H G env [] ∧ f env fun ms => ∀ J H' G' KH, Ext H G H' G' → Same KH G' → ItOk X.K cl J ms G' KH → Q J H'
/-- for a comprehension: what is walked stands -/
structure MJ (X : Cx) (cl : Nat → Addr) (tg E : Expr) (f : LX) : Prop where
  mo : ∀ env (Q Q' : List MV → Prop), (∀ m, Q m → Q' m) → f env Q → f env Q'
  pi : PI X tg E fun σ H Q => ∃ β G env, R X.K cl β σ H G env [] ∧ f env fun ms => ∀ J H' G' KH, Ext H G H' G' → Same KH H' → ItOk X.K cl J ms G' KH → Q J H'
theorem PImono {X : Cx} {tg e : Expr} {t t' : TI} (h : PI X tg e t) (k : ∀ σ H Q, t' σ H Q → t σ H Q) : PI X tg e t' := ⟨fun pins s σ H Q I q => h.run pins s σ H Q I (k σ H Q q)⟩
theorem mj_i {tg : Expr} {f : LX} (h : MI X cl tg a f) : MJ X cl tg a f :=
  ⟨h.mo, PImono h.pi fun σ H Q ⟨β, G, env, r0, q⟩ => ⟨β, G, env, r0, h.mo _ _ _ (fun ms z J H' G' KH e s i => z J H' G' KH e (s.trans e.gh) i) q⟩⟩
theorem it_list {K : PySem.W.Frag} {G KH : Hp} {p : Addr} {ms : List MV} {vs : List V} (h : KH p = some (.lst vs)) (r : Reps K cl G ms vs) : ItOk K cl (Itl K p) ms G KH := by
  have l := Reps.len _ _ r
  refine ⟨YAt vs, ?_, fun i H G1 x H' hi hk hg hh y => ?_⟩
  · have w := walk_list (K := K) (a := p) (xs := vs)
    rw [l] at w
    exact w.mono (fun H k => SqL.of (k _ _ h)) fun i H x H' _ _ y => y
  · obtain ⟨rfl, y⟩ := y
    obtain ⟨m, hm⟩ : ∃ m, ms[i]? = some m := ⟨ms[i], by simp [hi]⟩
    obtain ⟨v, h1, h2⟩ := Reps.get _ _ i m r hm
    rw [h1] at y; cases y
    exact ⟨G1, m, Ext.refl hh, hm, Rep.same hg _ _ h2⟩
/-- a list's value -/
def lV (fa : EX) : LX := fun env Q => fa env fun m => match m with
  | .lst ms => Q ms
  | _ => False
theorem lV_mo {m : MV} {Q Q' : List MV → Prop} (k : ∀ ms, Q ms → Q' ms) : (match m with | .lst ms => Q ms | _ => False) → (match m with | .lst ms => Q' ms | _ => False) := by
  cases m <;> first | exact k _ | exact fun z => z
theorem mi_list {tg : Expr} (h : ME X cl a fa) : MI X cl tg a (lV fa) := by
  refine ⟨fun env Q Q' k q => h.mo _ _ _ (fun m z => lV_mo k z) q, PImono (pi_list h.pe) fun σ H Q ⟨β, G, env, r0, q⟩ => ⟨β, G, env, r0, h.mo _ _ _ (fun m z v H' G' e rv => ?_) q⟩⟩
  cases m with
  | lst ms =>
    unfold Rep at rv
    obtain ⟨p, vs, rfl, y1, y2⟩ := rv
    exact ⟨p, rfl, ⟨vs, SqL.of (e.gh _ _ y1)⟩, z _ H' G' G' e (Same.refl _) (it_list y1 y2)⟩
  | _ => exact z.elim
/-- any list that is read, for a comprehension -/
def lQ (qa : QX) : LX := fun env Q => qa env fun o => asL o Q
theorem mj_list {tg : Expr} (h : MQ X cl a qa) : MJ X cl tg a (lQ qa) := by
  refine ⟨fun env Q Q' k q => h.mo _ _ _ (fun m z => asL_mo k z) q, PImono (pi_list h.pe) fun σ H Q ⟨β, G, env, r0, q⟩ => ⟨β, G, env, r0, h.mo _ _ _ (fun o z v H' G' e rv => ?_) q⟩⟩
  obtain ⟨ms, p, vs, rfl, y1, y2, z⟩ := asL_rep e.gh z rv
  exact ⟨p, rfl, ⟨vs, SqL.of y1⟩, z _ H' G' H' e (Same.refl _) (it_list y1 y2)⟩
/-- a tuple's value -/
def lT (fa : EX) : LX := fun env Q => fa env fun m => match m with
  | .tup ms => Q ms
  | _ => False
theorem it_tup {K : PySem.W.Frag} {G KH : Hp} {p : Addr} {ms : List MV} {vs : List V} (h : SqT K KH p vs) (r : Reps K cl G ms vs) : ItOk K cl (Itt K p) ms G KH := by
  have l := Reps.len _ _ r
  refine ⟨YAt vs, ?_, fun i H G1 x H' hi hk hg hh y => ?_⟩
  · have w := walk_tup (K := K) (a := p) (xs := vs)
    rw [l] at w
    exact w.mono (fun H k => sqT_same k h) fun i H x H' _ _ y => y
  · obtain ⟨rfl, y⟩ := y
    obtain ⟨m, hm⟩ : ∃ m, ms[i]? = some m := ⟨ms[i], by simp [hi]⟩
    obtain ⟨v, h1, h2⟩ := Reps.get _ _ i m r hm
    rw [h1] at y; cases y
    exact ⟨G1, m, Ext.refl hh, hm, Rep.same hg _ _ h2⟩
theorem mi_tup {tg : Expr} (h : ME X cl a fa) : MI X cl tg a (lT fa) := by
  refine ⟨fun env Q Q' k q => h.mo _ _ _ (fun m z => ?_) q, PImono (pi_tup h.pe) fun σ H Q ⟨β, G, env, r0, q⟩ => ⟨β, G, env, r0, h.mo _ _ _ (fun m z v H' G' e rv => ?_) q⟩⟩
  · cases m <;> first | exact k _ z | exact z
  · cases m with
    | tup ms =>
      unfold Rep at rv
      obtain ⟨p, vs, rfl, y1, y2⟩ := rv
      exact ⟨p, rfl, ⟨vs, sqT_same e.gh y1⟩, z _ H' G' G' e (Same.refl _) (it_tup y1 y2)⟩
    | _ => exact z.elim
/-! range -/
@[irreducible] def rgM (lo : Int) (n : Nat) : List MV := (List.range n).map fun i => .int (lo + (i : Nat))
theorem it_range {K : PySem.W.Frag} {G KH : Hp} {lo : Int} {n : Nat} : ItOk K cl (Itr lo n) (rgM lo n) G KH := by
  have l : (rgM lo n).length = n := by unfold rgM; simp
  refine ⟨YFn fun i => .int (lo + (i : Nat)), ?_, fun i H G1 x H' hi hk hg hh y => ?_⟩
  · rw [l]
    exact (walk_range (lo := lo) (n := n)).mono (fun _ _ => trivial) fun i H x H' _ _ y => y
  · obtain ⟨rfl, y⟩ := y
    subst y
    rw [l] at hi
    exact ⟨G1, .int (lo + (i : Nat)), Ext.refl hh, by unfold rgM; simp [hi], rep_int⟩
def small (i : Int) : Prop := -(2 ^ 62) ≤ i ∧ i < 2 ^ 62
def lR1 (qa : QX) : LX := fun env Q => qa env fun m => asFro m fun m => asInt m fun j => small j ∧ Q (rgM 0 j.toNat)
def lR2 (qa qb : QX) : LX := fun env Q => qa env fun m => qb env fun n => asFro m fun m => asFro n fun n => asInt m fun i => asInt n fun j => (small i ∧ small j) ∧ Q (rgM i (j - i).toNat)
theorem mi_range1 {tg : Expr} (hg : Gl X "range") (hm : X.mg "range" = none) (ha : MQ X cl a qa) (hs : starEach [a] X.env = (false, eval a X.env) :: starEach [] X.env := by rfl) (hs2 : starEach [a] X.env = [(false, eval a X.env)] := by rfl) : MI X cl tg (.Call (.Name "range" p) [a] [] pos) (lR1 qa) := by
  refine ⟨fun env Q Q' k q => ha.mo _ _ _ (fun m z => asFro_mo (fun _ z => asInt_mo (fun _ z => ⟨z.1, k _ z.2⟩) z) z) q, PImono (pi_range1 hg hm (pa_cons ha.pe pa_nil hs) hs2) fun σ H Q ⟨β, G, env, r0, q⟩ => ⟨β, G, env, r0, ha.mo _ _ _ (fun m z v H' G' e rv => ?_) q⟩⟩
  cases m with
  | fro m =>
    unfold RepB at rv
    obtain ⟨j, rfl, rfl, z⟩ := asInt_rep (show asInt m _ from z) rv
    exact ⟨j, rfl, z.1.1, z.1.2, z.2 _ H' G' G' e (Same.refl _) it_range⟩
  | _ => exact z.elim
theorem mi_range2 {tg : Expr} (hg : Gl X "range") (hm : X.mg "range" = none) (ha : MQ X cl a qa) (hb : MQ X cl b qb) (hs : starEach [a, b] X.env = (false, eval a X.env) :: starEach [b] X.env := by rfl) (hsb : starEach [b] X.env = (false, eval b X.env) :: starEach [] X.env := by rfl)
    (hs2 : starEach [a, b] X.env = [(false, eval a X.env), (false, eval b X.env)] := by rfl) (hs3 : starEach [b] X.env = [(false, eval b X.env)] := by rfl) : MI X cl tg (.Call (.Name "range" p) [a, b] [] pos) (lR2 qa qb) := by
  refine ⟨fun env Q Q' k q => ha.mo _ _ _ (fun m z => hb.mo _ _ _ (fun n z => asFro_mo (fun _ z => asFro_mo (fun _ z => asInt_mo (fun _ z => asInt_mo (fun _ z => ⟨z.1, k _ z.2⟩) z) z) z) z) z) q, PImono (pi_range2 hg hm (pa_cons ha.pe (pa_cons hb.pe pa_nil hsb) hs) hs2 hs3) fun σ H Q ⟨β, G, env, r0, q⟩ => ?_⟩
  refine ⟨β, G, env, r0, ha.mo _ _ _ (fun m z v H' G' e rv => ?_) q⟩
  refine ⟨β, G', env, r0.ext e, hb.mo _ _ _ (fun n z w H2 G2 e2 rw => ?_) z⟩
  have rv' := Same.repB rv e2
  cases m with
  | fro m =>
    cases n with
    | fro n =>
      unfold RepB at rv' rw
      obtain ⟨i, rfl, rfl, z⟩ := asInt_rep (show asInt m _ from z) rv'
      obtain ⟨j, rfl, rfl, z⟩ := asInt_rep z rw
      exact ⟨i, j, rfl, ⟨z.1.1.1, z.1.1.2, z.1.2.1, z.1.2.2⟩, z.2 _ H2 G2 G2 (e.trans e2) (Same.refl _) it_range⟩
    | _ => exact (asFro_mo (Q' := fun _ => False) (fun _ z => z) z).elim
  | _ => exact z.elim
/-! enumerate(list) -/
@[irreducible] def enM (ms : List MV) : List MV := ms.mapIdx fun i m => .tup [.int (i : Nat), m]
theorem it_enum {K : PySem.W.Frag} {G KH : Hp} {p : Addr} {ms : List MV} {vs : List V} (h : KH p = some (.lst vs)) (r : Reps K cl G ms vs) : ItOk K cl (Ite K p) (enM ms) G KH := by
  have l := Reps.len _ _ r
  have le : (enM ms).length = ms.length := by unfold enM; simp
  refine ⟨fun i H v H' => ∃ T x, v = .ref T ∧ H T = none ∧ H' = upd H T (.tup [.int (i : Nat), x]) ∧ vs[i]? = some x, ?_, fun i H G1 x H' hi hk hg hh y => ?_⟩
  · rw [le, ← l]
    refine ⟨fun i H hi k => ⟨vs, vs[i], SqL.of (k _ _ h), by simp [hi]⟩, fun H k => ⟨vs, SqL.of (k _ _ h), Nat.le_refl _⟩, fun i H x H' hi k y => ?_⟩
    obtain ⟨T, x', y1, y2, y3, y4⟩ := y
    exact ⟨T, x', y1, y2, y3, y4 vs (SqL.of (k _ _ h))⟩
  · obtain ⟨T, x', rfl, y2, rfl, y4⟩ := y
    rw [le] at hi
    obtain ⟨m, hm⟩ : ∃ m, ms[i]? = some m := ⟨ms[i], by simp [hi]⟩
    obtain ⟨v, h1, h2⟩ := Reps.get _ _ i m r hm
    rw [h1] at y4; cases y4
    refine ⟨_, .tup [.int (i : Nat), m], Ext.new hh y2, by unfold enM; simp [List.getElem?_mapIdx, hm], new_tup hh y2 (Reps.cons rep_int (Reps.one (Rep.same hg _ _ h2)))⟩
def lEn (fa : EX) : LX := fun env Q => fa env fun m => match m with
  | .lst ms => Q (enM ms)
  | _ => False
theorem mi_enum {elts : List Expr} {kk : Nat} {tpos : Pos} (hg : Gl X "enumerate") (hm : X.mg "enumerate" = none) (ha : ME X cl a fa) (hs : starEach [a] X.env = (false, eval a X.env) :: starEach [] X.env := by rfl) (hs2 : starEach [a] X.env = [(false, eval a X.env)] := by rfl) : MI X cl (.Tuple elts kk tpos) (.Call (.Name "enumerate" p) [a] [] pos) (lEn fa) := by
  refine ⟨fun env Q Q' k q => ha.mo _ _ _ (fun m z => ?_) q, PImono (pi_enum hg hm (pa_cons ha.pe pa_nil hs) hs2) fun σ H Q ⟨β, G, env, r0, q⟩ => ⟨β, G, env, r0, ha.mo _ _ _ (fun m z v H' G' e rv => ?_) q⟩⟩
  · cases m <;> first | exact k _ z | exact z
  · cases m with
    | lst ms =>
      unfold Rep at rv
      obtain ⟨p, vs, rfl, y1, y2⟩ := rv
      exact ⟨p, vs, rfl, SqL.of (e.gh _ _ y1), z _ H' G' G' e (Same.refl _) (it_enum y1 y2)⟩
    | _ => exact z.elim
def lEnQ (qa : QX) : LX := fun env Q => qa env fun o => asL o fun ms => Q (enM ms)
theorem mj_enum {elts : List Expr} {kk : Nat} {tpos : Pos} (hg : Gl X "enumerate") (hm : X.mg "enumerate" = none) (ha : MQ X cl a qa) (hs : starEach [a] X.env = (false, eval a X.env) :: starEach [] X.env := by rfl) (hs2 : starEach [a] X.env = [(false, eval a X.env)] := by rfl) : MJ X cl (.Tuple elts kk tpos) (.Call (.Name "enumerate" p) [a] [] pos) (lEnQ qa) := by
  refine ⟨fun env Q Q' k q => ha.mo _ _ _ (fun m z => asL_mo (fun _ z => k _ z) z) q, PImono (pi_enum hg hm (pa_cons ha.pe pa_nil hs) hs2) fun σ H Q ⟨β, G, env, r0, q⟩ => ⟨β, G, env, r0, ha.mo _ _ _ (fun o z v H' G' e rv => ?_) q⟩⟩
  obtain ⟨ms, p, vs, rfl, y1, y2, z⟩ := asL_rep e.gh z rv
  exact ⟨p, vs, rfl, SqL.of y1, z _ H' G' H' e (Same.refl _) (it_enum y1 y2)⟩
/-! ### for -/
def forN (g : GX) (s : SX) : List MV → SX
  | [] => fun env k => k.nx env
  | m :: ms => fun env k => g m env fun e => s e { k with nx := fun e => forN g s ms e k, ct := fun e => forN g s ms e k, bk := k.nx }
def forS (f : LX) (g : GX) (s : SX) : SX := fun env k => f env fun ms => forN g s ms env k
theorem forN_mo (hg : ∀ m env (Q Q' : Env → Prop), (∀ e, Q e → Q' e) → g m env Q → g m env Q') (hs : ∀ env k k', KLe k k' → s env k → s env k') : ∀ ms env k k', KLe k k' → forN g s ms env k → forN g s ms env k'
  | [], env, k, k', l, q => l.nx _ q
  | m :: ms, env, k, k', l, q => hg _ _ _ _ (fun e z => hs e { k with nx := fun e => forN g s ms e k, ct := fun e => forN g s ms e k, bk := k.nx } _ ⟨fun e w => forN_mo hg hs ms e k k' l w, l.rt, l.nx, fun e w => forN_mo hg hs ms e k k' l w, l.ex⟩ z) q
/-- the turns of a for over what stands -/
theorem for_turns {tg : Expr} (hg : MG X cl tg g vs) (hb : MSs X cl W sts s) {J : It} {ms : List MV} {G0 KH H1 : Hp} {D : Ends} {σ : L2.St} {β : Bs} {k : KK} {env : Env} (it : ItOk X.K cl J ms G0 KH) (G1 : Hp) (r0 : R X.K cl β σ H1 G1 env []) (g01 : Same G0 G1)
    (keep : ∀ σ H G env, R X.K cl β σ H G env [] → Same G0 G → Same KH H) (hk : KLe k (kOf X.K cl W β G1 D)) (q : forN g s ms env k) :
    ∃ W' : Nat → Nat → L2.St → Hp → Prop, (∃ m, W' 0 m σ H1) ∧ ∀ i m σ H, W' i m σ H → (J.stop i H ∧ D.nx σ H) ∨ (J.go i H ∧ ∃ N : L2.St → Hp → Prop, (∀ σ' H', N σ' H' → ∃ m', m' < m ∧ W' (i + 1) m' σ' H') ∧ ∀ x H', J.yld i H x H' → gOf X.K cl g vs x σ H' fun σ2 H2 => sOf X.K cl W s { D with nx := N, ct := N, bk := D.nx } σ2 H2) := by
  obtain ⟨Y, w, hy⟩ := it
  refine for_it w (fun i σ H => ∃ G env, R X.K cl β σ H G env [] ∧ Same G1 G ∧ forN g s (ms.drop i) env k) ⟨G1, env, r0, Same.refl _, q⟩ (fun i σ H _ ⟨G, env, r, gg, _⟩ => keep σ H G env r (g01.trans gg)) (fun i x σ H H' hi ⟨G, env, r, gg, q⟩ y => ?_) fun σ H ⟨G, env, r, gg, q⟩ => ?_
  · obtain ⟨G2, m, e, hm, rm⟩ := hy i H G x H' hi (keep σ H G env r (g01.trans gg)) (g01.trans gg) r.gh y
    have hd : ms.drop i = m :: ms.drop (i + 1) := by
      rw [List.drop_eq_getElem_cons hi]
      congr 1
      rw [List.getElem?_eq_getElem hi] at hm
      exact Option.some.inj hm
    rw [hd] at q
    refine ⟨β, G2, env, m, r.ext e, rm, hg.mo _ _ _ _ (fun e2 z σ' r' _ => ⟨β, G2, e2, r', ?_⟩) q⟩
    have g2 : Same G1 G2 := gg.trans e.gg
    refine hb.mo e2 { k with nx := fun e => forN g s (ms.drop (i + 1)) e k, ct := fun e => forN g s (ms.drop (i + 1)) e k, bk := k.nx } _ ⟨fun e3 z σ3 H3 G3 r3 g3 => ⟨G3, e3, r3, g2.trans g3, z⟩, fun o e3 z σ3 H3 G3 v X3 r3 g3 => hk.rt _ _ z σ3 H3 G3 v X3 r3 (g2.trans g3), fun e3 z σ3 H3 G3 r3 g3 => hk.nx _ z σ3 H3 G3 r3 (g2.trans g3), fun e3 z σ3 H3 G3 r3 g3 => ⟨G3, e3, r3, g2.trans g3, z⟩, fun n z => hk.ex n z⟩ z
  · rw [List.drop_length] at q
    exact hk.nx _ q σ H G r gg
theorem ms_for {tg : Expr} {f : LX} (hp : PassesOwn (model X.prog X.w) X.A X.env X.xe) (hc : X.calm = true) (hi : MI X cl tg a f) (hg : MG X cl tg g vs) (hb : MSs X cl W sts s) (hs : ∀ x, foldedSetIterable a X.env x = pure x := by intro _; rfl) : MS X cl W (.For tg a sts [] pos) (forS f g s) := by
  refine ⟨fun env k k' l q => hi.mo _ _ _ (fun ms z => forN_mo hg.mo hb.mo ms _ _ _ l z) q, PSmono (ps_for hp hc hi.pi hg.pg hb.ps hs) fun D σ H ⟨β, G, env, r0, q⟩ => ?_⟩
  refine ⟨β, G, env, r0, hi.mo _ _ _ (fun ms z J H' G' KH e hk it => ?_) q⟩
  exact for_turns hg hb it G' (r0.ext e) (Same.refl _) (fun σ H G env r gg => (hk.trans gg).trans r.gh) (kOf_le e.gg) z
end
end C
namespace C
open PySem PySem.Spec PyProof.Rows L2
section
variable {X : Cx} {cl : Nat → Addr} {a b c e : Expr} {es : List Expr} {fa fb fc : EX} {qa qb qc : QX} {pos p : Pos} {x : Str}
/-! ### built-in functions, by values -/
def onInt (f : Int → (MV → Prop) → Prop) (o : OV) (Q : MV → Prop) : Prop := asFro o fun m => asInt m fun i => f i Q
theorem onInt_rep {K : PySem.W.Frag} {H G : Hp} {o : OV} {v : V} {f : Int → (MV → Prop) → Prop} {Q : MV → Prop} (q : onInt f o Q) (r : RepB K cl H G o v) : ∃ i, v = .int i ∧ f i Q := by
  unfold onInt at q
  cases o with
  | fro m =>
    unfold RepB at r
    obtain ⟨i, rfl, rfl, q⟩ := asInt_rep (show asInt m _ from q) r
    exact ⟨i, rfl, q⟩
  | _ => exact q.elim
theorem onInt_mo {f : Int → (MV → Prop) → Prop} (hf : ∀ i (Q Q' : MV → Prop), (∀ k, Q k → Q' k) → f i Q → f i Q') : ∀ o (Q Q' : MV → Prop), (∀ k, Q k → Q' k) → onInt f o Q → onInt f o Q' := fun o Q Q' k q => asFro_mo (fun _ z => asInt_mo (fun _ z => hf _ _ _ k z) z) q
def gAbs : OV → (MV → Prop) → Prop := onInt fun i Q => Q (.int (i.natAbs : Nat))
theorem gb_abs : GB X cl (.builtin "abs") gAbs := by
  refine ⟨onInt_mo fun i Q Q' k q => k _ q, _, call_abs, fun m x H G Q g r q => ?_⟩
  obtain ⟨i, rfl, q⟩ := onInt_rep q r
  refine ⟨i, rfl, ?_⟩
  have e : (if i < 0 then -i else i) = ((i.natAbs : Nat) : Int) := by split <;> omega
  rw [e]
  exact q _ H G (Ext.refl g) rep_int
/-- int(x): an int, a truth value, a text -/
def gInt (o : OV) (Q : MV → Prop) : Prop := match o with
  | .fro (.int i) => Q (.int i)
  | .fro (.bl b) => Q (.int (if b then 1 else 0))
  | .fro (.str x) => x.length ≤ 640 ∧ match PySem.intText? x with
    | some n => Q (.int n)
    | none => False
  | _ => False
theorem gb_int : GB X cl (.type "int") gInt := by
  refine ⟨fun o Q Q' k q => ?_, _, call_int1.or call_int_str, fun m x H G Q g r q => ?_⟩
  · unfold gInt at q ⊢
    split at q
    · exact k _ q
    · exact k _ q
    · refine ⟨q.1, ?_⟩
      have q2 := q.2
      split at q2
      · exact k _ q2
      · exact q2
    · exact q
  · unfold gInt at q
    split at q
    · unfold RepB Rep at r; subst r
      exact .inl (.inl ⟨_, rfl, q _ H G (Ext.refl g) rep_int⟩)
    · unfold RepB Rep at r; subst r
      exact .inl (.inr ⟨_, rfl, q _ H G (Ext.refl g) rep_int⟩)
    · unfold RepB Rep at r; subst r
      have q2 := q.2
      split at q2
      · rename_i n hn
        exact .inr ⟨_, n, rfl, hn, q.1, q2 _ H G (Ext.refl g) rep_int⟩
      · exact q2.elim
    · exact q.elim
def gLenV (o : OV) (Q : MV → Prop) : Prop := match o with
  | .fro (.str x) => x.length ≤ sizeLine ∧ Q (.int x.length)
  | .fro (.tup ms) => Q (.int ms.length)
  | .fro (.lst ms) => Q (.int ms.length)
  | .lst ms => Q (.int ms.length)
  | .scr ms => Q (.int ms.length)
  | _ => False
theorem gb_len : GB X cl (.builtin "len") gLenV := by
  refine ⟨fun o Q Q' k q => ?_, _, call_len, fun m x H G Q g r q => ?_⟩
  · unfold gLenV at q ⊢
    split at q <;> first | exact k _ q | exact ⟨q.1, k _ q.2⟩ | exact q
  · unfold gLenV at q
    split at q
    · unfold RepB Rep at r; subst r
      exact ⟨_, _, rfl, ⟨q.1, rfl⟩, q.2 _ H G (Ext.refl g) rep_int⟩
    · unfold RepB Rep at r; obtain ⟨p, vs, rfl, h2, h3⟩ := r
      exact ⟨_, _, rfl, .inr ⟨vs, sqT_same g h2, (Reps.len _ _ h3).symm⟩, q _ H G (Ext.refl g) rep_int⟩
    · unfold RepB Rep at r; obtain ⟨p, vs, rfl, h2, h3⟩ := r
      exact ⟨_, _, rfl, .inl ⟨vs, SqL.of (g _ _ h2), (Reps.len _ _ h3).symm⟩, q _ H G (Ext.refl g) rep_int⟩
    · unfold RepB at r; obtain ⟨p, vs, rfl, h2, h3⟩ := r
      exact ⟨_, _, rfl, .inl ⟨vs, SqL.of h2, (Reps.len _ _ h3).symm⟩, q _ H G (Ext.refl g) rep_int⟩
    · unfold RepB at r; obtain ⟨p, vs, rfl, h2, h3⟩ := r
      exact ⟨_, _, rfl, .inl ⟨vs, h2, (Reps.len _ _ h3).symm⟩, q _ H G (Ext.refl g) rep_int⟩
    · exact q.elim
/-- list(x) -/
def gList (o : OV) (Q : MV → Prop) : Prop := match o with
  | .fro (.tup ms) => Q (.lst ms)
  | o => asL o fun ms => Q (.lst ms)
theorem gb_list : GB X cl (.type "list") gList := by
  refine ⟨fun o Q Q' k q => ?_, _, call_list_of, fun m x H G Q g r q => ?_⟩
  · unfold gList at q ⊢
    split at q
    · exact k _ q
    · exact asL_mo (fun _ z => k _ z) q
  · unfold gList at q
    split at q
    · unfold RepB Rep at r; obtain ⟨p, vs, rfl, h2, h3⟩ := r
      exact ⟨p, vs, rfl, .inr (sqT_same g h2), fun l hl => q _ _ _ (Ext.new g hl) (new_lst g hl h3)⟩
    · obtain ⟨ms, p, vs, rfl, h2, h3, q⟩ := asL_rep g q r
      exact ⟨p, vs, rfl, .inl (SqL.of h2), fun l hl => q _ _ _ (Ext.new g hl) (new_lst g hl h3)⟩
/-! lists of numbers, of truth values -/
def intsL : List MV → Option (List Int)
  | [] => some []
  | .int i :: ms => match intsL ms with
    | some is => some (i :: is)
    | none => none
  | _ :: _ => none
def boolsL : List MV → Option (List Bool)
  | [] => some []
  | .bl i :: ms => match boolsL ms with
    | some is => some (i :: is)
    | none => none
  | _ :: _ => none
theorem ints_map {α : Type} (f : α → Int) : ∀ l : List α, intsL (l.map fun a => .int (f a)) = some (l.map f)
  | [] => rfl
  | a :: l => by simp [intsL, ints_map f l]
theorem bools_map {α : Type} (f : α → Bool) : ∀ l : List α, boolsL (l.map fun a => .bl (f a)) = some (l.map f)
  | [] => rfl
  | a :: l => by simp [boolsL, bools_map f l]
theorem ints_rep {K : PySem.W.Frag} {G : Hp} : ∀ {ms : List MV} {is : List Int} {vs : List V}, intsL ms = some is → Reps K cl G ms vs → vs = is.map V.int
  | [], is, vs, e, r => by cases e; unfold Reps at r; exact r
  | .int i :: ms, is, vs, e, r => by
    unfold intsL at e
    cases q : intsL ms with
    | none => rw [q] at e; cases e
    | some is' =>
      rw [q] at e; cases e
      unfold Reps at r
      obtain ⟨v, ws, rfl, h1, h2⟩ := r
      unfold Rep at h1
      rw [h1, ints_rep q h2]
      rfl
  | .non :: _, _, _, e, _ | .bl _ :: _, _, _, e, _ | .str _ :: _, _, _, e, _ | .tup _ :: _, _, _, e, _ | .lst _ :: _, _, _, e, _ | .obj _ _ :: _, _, _, e, _ | .fn _ :: _, _, _, e, _ | .dct _ _ :: _, _, _, e, _ => by cases e
theorem bools_rep {K : PySem.W.Frag} {G : Hp} : ∀ {ms : List MV} {is : List Bool} {vs : List V}, boolsL ms = some is → Reps K cl G ms vs → vs = is.map V.bl
  | [], is, vs, e, r => by cases e; unfold Reps at r; exact r
  | .bl i :: ms, is, vs, e, r => by
    unfold boolsL at e
    cases q : boolsL ms with
    | none => rw [q] at e; cases e
    | some is' =>
      rw [q] at e; cases e
      unfold Reps at r
      obtain ⟨v, ws, rfl, h1, h2⟩ := r
      unfold Rep at h1
      rw [h1, bools_rep q h2]
      rfl
  | .non :: _, _, _, e, _ | .int _ :: _, _, _, e, _ | .str _ :: _, _, _, e, _ | .tup _ :: _, _, _, e, _ | .lst _ :: _, _, _, e, _ | .obj _ _ :: _, _, _, e, _ | .fn _ :: _, _, _, e, _ | .dct _ _ :: _, _, _, e, _ => by cases e
def onBls (f : List Bool → (MV → Prop) → Prop) (o : OV) (Q : MV → Prop) : Prop := asL o fun ms => match boolsL ms with
  | some bs => f bs Q
  | none => False
def onInts (f : List Int → (MV → Prop) → Prop) (o : OV) (Q : MV → Prop) : Prop := asL o fun ms => match intsL ms with
  | some bs => f bs Q
  | none => False
theorem onBls_mo {f : List Bool → (MV → Prop) → Prop} (hf : ∀ i (Q Q' : MV → Prop), (∀ k, Q k → Q' k) → f i Q → f i Q') : ∀ o (Q Q' : MV → Prop), (∀ k, Q k → Q' k) → onBls f o Q → onBls f o Q' := fun o Q Q' k q => asL_mo (fun ms z => by
  split at z
  · exact hf _ _ _ k z
  · exact z.elim) q
theorem onInts_mo {f : List Int → (MV → Prop) → Prop} (hf : ∀ i (Q Q' : MV → Prop), (∀ k, Q k → Q' k) → f i Q → f i Q') : ∀ o (Q Q' : MV → Prop), (∀ k, Q k → Q' k) → onInts f o Q → onInts f o Q' := fun o Q Q' k q => asL_mo (fun ms z => by
  split at z
  · exact hf _ _ _ k z
  · exact z.elim) q
theorem onBls_rep {K : PySem.W.Frag} {H G : Hp} {o : OV} {v : V} {f : List Bool → (MV → Prop) → Prop} {Q : MV → Prop} (g : Same G H) (q : onBls f o Q) (r : RepB K cl H G o v) : ∃ a bs, v = .ref a ∧ SqL K H a (bs.map V.bl) ∧ f bs Q := by
  obtain ⟨ms, p, vs, rfl, h2, h3, q⟩ := asL_rep g q r
  split at q
  · rename_i bs e
    rw [bools_rep e h3] at h2
    exact ⟨p, bs, rfl, SqL.of h2, q⟩
  · exact q.elim
theorem onInts_rep {K : PySem.W.Frag} {H G : Hp} {o : OV} {v : V} {f : List Int → (MV → Prop) → Prop} {Q : MV → Prop} (g : Same G H) (q : onInts f o Q) (r : RepB K cl H G o v) : ∃ a bs, v = .ref a ∧ SqL K H a (bs.map V.int) ∧ f bs Q := by
  obtain ⟨ms, p, vs, rfl, h2, h3, q⟩ := asL_rep g q r
  split at q
  · rename_i bs e
    rw [ints_rep e h3] at h2
    exact ⟨p, bs, rfl, SqL.of h2, q⟩
  · exact q.elim
def gAll := onBls fun bs Q => Q (.bl (bs.all id))
def gAny := onBls fun bs Q => Q (.bl (bs.any id))
def gSum := onInts fun bs Q => Q (.int bs.sum)
/-- the greatest, the least -/
def maxL : List Int → Int
  | [] => 0
  | i :: is => is.foldl max i
def minL : List Int → Int
  | [] => 0
  | i :: is => is.foldl min i
def gMax := onInts fun bs Q => bs ≠ [] ∧ Q (.int (maxL bs))
def gMin := onInts fun bs Q => bs ≠ [] ∧ Q (.int (minL bs))
theorem foldl_max (l : List Int) : ∀ i, (l.foldl max i ∈ i :: l) ∧ ∀ y ∈ i :: l, y ≤ l.foldl max i := by
  induction l with
  | nil => intro i; simp
  | cons x l ih =>
    intro i
    obtain ⟨h1, h2⟩ := ih (max i x)
    refine ⟨?_, fun y hy => ?_⟩
    · rcases List.mem_cons.mp h1 with e | e
      · rw [List.foldl_cons, e]
        by_cases h : i ≤ x
        · rw [Int.max_eq_right h]; simp
        · rw [Int.max_eq_left (by omega)]; simp
      · exact List.mem_cons_of_mem _ (List.mem_cons_of_mem _ e)
    · have h3 := h2 (max i x) List.mem_cons_self
      rw [List.foldl_cons]
      rcases List.mem_cons.mp hy with rfl | hy
      · omega
      · rcases List.mem_cons.mp hy with rfl | hy
        · omega
        · exact h2 y (List.mem_cons_of_mem _ hy)
theorem foldl_min (l : List Int) : ∀ i, (l.foldl min i ∈ i :: l) ∧ ∀ y ∈ i :: l, l.foldl min i ≤ y := by
  induction l with
  | nil => intro i; simp
  | cons x l ih =>
    intro i
    obtain ⟨h1, h2⟩ := ih (min i x)
    refine ⟨?_, fun y hy => ?_⟩
    · rcases List.mem_cons.mp h1 with e | e
      · rw [List.foldl_cons, e]
        by_cases h : i ≤ x
        · rw [Int.min_eq_left h]; simp
        · rw [Int.min_eq_right (by omega)]; simp
      · exact List.mem_cons_of_mem _ (List.mem_cons_of_mem _ e)
    · have h3 := h2 (min i x) List.mem_cons_self
      rw [List.foldl_cons]
      rcases List.mem_cons.mp hy with rfl | hy
      · omega
      · rcases List.mem_cons.mp hy with rfl | hy
        · omega
        · exact h2 y (List.mem_cons_of_mem _ hy)
theorem maxL_mem {l : List Int} (h : l ≠ []) : maxL l ∈ l := by
  cases l with
  | nil => exact absurd rfl h
  | cons i l => exact (foldl_max l i).1
theorem maxL_ge {l : List Int} {y : Int} (h : y ∈ l) : y ≤ maxL l := by
  cases l with
  | nil => cases h
  | cons i l => exact (foldl_max l i).2 y h
theorem minL_mem {l : List Int} (h : l ≠ []) : minL l ∈ l := by
  cases l with
  | nil => exact absurd rfl h
  | cons i l => exact (foldl_min l i).1
theorem minL_le {l : List Int} {y : Int} (h : y ∈ l) : minL l ≤ y := by
  cases l with
  | nil => cases h
  | cons i l => exact (foldl_min l i).2 y h
theorem gb_all (hc : X.calm = true) : GB X cl (.builtin "all") gAll := by
  refine ⟨onBls_mo fun i Q Q' k q => k _ q, _, cr_all hc, fun m x H G Q g r q => ?_⟩
  obtain ⟨p, bs, rfl, h, q⟩ := onBls_rep g q r
  exact ⟨p, bs, rfl, h, q _ H G (Ext.refl g) rep_bl⟩
theorem gb_any (hc : X.calm = true) : GB X cl (.builtin "any") gAny := by
  refine ⟨onBls_mo fun i Q Q' k q => k _ q, _, cr_any hc, fun m x H G Q g r q => ?_⟩
  obtain ⟨p, bs, rfl, h, q⟩ := onBls_rep g q r
  exact ⟨p, bs, rfl, h, q _ H G (Ext.refl g) rep_bl⟩
theorem gb_sum (hc : X.calm = true) : GB X cl (.builtin "sum") gSum := by
  refine ⟨onInts_mo fun i Q Q' k q => k _ q, _, cr_sum hc, fun m x H G Q g r q => ?_⟩
  obtain ⟨p, bs, rfl, h, q⟩ := onInts_rep g q r
  exact ⟨p, bs, rfl, h, q _ H G (Ext.refl g) rep_int⟩
theorem gb_max (hc : X.calm = true) : GB X cl (.builtin "max") gMax := by
  refine ⟨onInts_mo fun i Q Q' k q => ⟨q.1, k _ q.2⟩, _, cr_max hc, fun m x H G Q g r q => ?_⟩
  obtain ⟨p, bs, rfl, h, q⟩ := onInts_rep g q r
  refine ⟨p, bs, rfl, h, by cases bs with | nil => exact absurd rfl q.1 | cons => simp, fun m hm hy => ?_⟩
  have e : m = maxL bs := Int.le_antisymm (maxL_ge hm) (hy _ (maxL_mem q.1))
  subst e
  exact q.2 _ H G (Ext.refl g) rep_int
theorem gb_min (hc : X.calm = true) : GB X cl (.builtin "min") gMin := by
  refine ⟨onInts_mo fun i Q Q' k q => ⟨q.1, k _ q.2⟩, _, cr_min hc, fun m x H G Q g r q => ?_⟩
  obtain ⟨p, bs, rfl, h, q⟩ := onInts_rep g q r
  refine ⟨p, bs, rfl, h, by cases bs with | nil => exact absurd rfl q.1 | cons => simp, fun m hm hy => ?_⟩
  have e : m = minL bs := Int.le_antisymm (hy _ (minL_mem q.1)) (minL_le hm)
  subst e
  exact q.2 _ H G (Ext.refl g) rep_int
def gMax2 := gI0 fun i j => .int (max i j)
def gMin2 := gI0 fun i j => .int (min i j)
theorem gb_max2 (hc : X.calm = true) : GB2 X cl (.builtin "max") gMax2 := by
  refine ⟨gI0_mo, _, call_max2 hc, fun m n x y H G Q g rx ry q => ?_⟩
  obtain ⟨i, j, rfl, rfl, q⟩ := gI0_out rx ry q
  refine ⟨i, j, rfl, ?_⟩
  have e : (if j > i then j else i) = max i j := by split <;> omega
  rw [e]
  exact q _ H G (Ext.refl g) rep_int
theorem gb_min2 (hc : X.calm = true) : GB2 X cl (.builtin "min") gMin2 := by
  refine ⟨gI0_mo, _, call_min2 hc, fun m n x y H G Q g rx ry q => ?_⟩
  obtain ⟨i, j, rfl, rfl, q⟩ := gI0_out rx ry q
  refine ⟨i, j, rfl, ?_⟩
  have e : (if j < i then j else i) = min i j := by split <;> omega
  rw [e]
  exact q _ H G (Ext.refl g) rep_int
/-- str(n) -/
def gStr := onInt fun i Q => i.natAbs.log2 < 1920 ∧ Q (.str (toString i : Str))
theorem gb_str : GB X cl (.type "str") gStr := by
  refine ⟨onInt_mo fun i Q Q' k q => ⟨q.1, k _ q.2⟩, _, call_str_int, fun m x H G Q g r q => ?_⟩
  obtain ⟨i, rfl, q⟩ := onInt_rep q r
  exact ⟨i, rfl, q.1, q.2 _ H G (Ext.refl g) rep_str⟩
/-! isinstance(x, T), T built in -/
def tyN : OV → Option String
  | .fro .non => some "NoneType"
  | .fro (.bl _) => some "bool"
  | .fro (.int _) => some "int"
  | .fro (.str _) => some "str"
  | .fro (.tup _) => some "tuple"
  | .fro (.lst _) => some "list"
  | .lst _ => some "list"
  | _ => none
/-- 0 bool, 1 int, 2 tuple, 3 list -/
def isTy (k : Nat) : OV → Option Bool
  | .fro .non => some false
  | .fro (.bl _) => some (Nat.ble k 1)
  | .fro (.int _) => some (Nat.beq k 1)
  | .fro (.str _) => some false
  | .fro (.tup _) => some (Nat.beq k 2)
  | .fro (.lst _) => some (Nat.beq k 3)
  | .lst _ => some (Nat.beq k 3)
  | _ => none
def tyS (k : Nat) : String := match k with
  | 0 => "bool"
  | 1 => "int"
  | 2 => "tuple"
  | _ => "list"
theorem isTy_ok : ∀ k, k < 4 → ∀ (o : OV) (n : String) (b : Bool), tyN o = some n → isTy k o = some b → kitB n (tyS k) = some b := by
  intro k hk o n b h1 h2
  have hk' : k = 0 ∨ k = 1 ∨ k = 2 ∨ k = 3 := by omega
  rcases hk' with rfl | rfl | rfl | rfl
  all_goals
    cases o with
    | fro m => cases m <;> first | (cases h1; cases h2; decide +kernel) | cases h1
    | lst ms => cases h1; cases h2; decide +kernel
    | _ => cases h1
theorem tyN_rep {K : PySem.W.Frag} {H G : Hp} {o : OV} {v : V} {n : String} (g : Same G H) (e : tyN o = some n) (r : RepB K cl H G o v) : TyX K H v (.type n) := by
  have tup : ∀ (p : Addr) (vs : List V), SqT K H p vs → TyX K H (.ref p) (.type "tuple") := fun p vs h => by
    rcases h with (h | ⟨o, h⟩) | ⟨o, its, k, h1, h2, _⟩
    · exact .base (.tup h)
    · exact .fTuple h
    · exact .kTuple h1 h2
  cases o with
  | fro m =>
    cases m with
    | non => cases e; unfold RepB Rep at r; subst r; exact .base .non
    | bl b => cases e; unfold RepB Rep at r; subst r; exact .base (.bl b)
    | int b => cases e; unfold RepB Rep at r; subst r; exact .base (.int b)
    | str b => cases e; unfold RepB Rep at r; subst r; exact .base (.str b)
    | tup ms => cases e; unfold RepB Rep at r; obtain ⟨p, vs, rfl, h2, _⟩ := r; exact tup p vs (sqT_same g h2)
    | lst ms => cases e; unfold RepB Rep at r; obtain ⟨p, vs, rfl, h2, _⟩ := r; exact .base (.lst (g _ _ h2))
    | obj c ms => cases e
    | fn c => cases e
    | dct _ _ => cases e
  | lst ms => cases e; unfold RepB at r; obtain ⟨p, vs, rfl, h2, _⟩ := r; exact .base (.lst h2)
  | _ => cases e
def eIsi (k : Nat) (qa : QX) : EX := fun env Q => qa env fun o => match isTy k o with
  | some b => Q (.bl b)
  | none => False
theorem isTy_tyN {k : Nat} {o : OV} {b : Bool} (h : isTy k o = some b) : ∃ n, tyN o = some n := by
  cases o with
  | fro m => cases m <;> first | exact ⟨_, rfl⟩ | cases h
  | lst ms => exact ⟨_, rfl⟩
  | _ => cases h
theorem m_isi (k : Nat) {pT : Pos} {tn : Str} (ha : MQ X cl a qa) (gl : Gl X "isinstance") (hm : X.mg "isinstance" = none) (glT : Gl X tn) (hmT : X.mg tn = none) (hvT : bootBuiltins tn = some (.type (tyS k)) := by decide +kernel) (hk : k < 4 := by decide) (hnT : tn ≠ "__name__" := by decide) (hdT : (tn == ("__debug__" : Str)) = false := by decide)
    (he : starEach [a, .Name tn pT] X.env = (false, eval a X.env) :: starEach [.Name tn pT] X.env := by rfl) (he2 : starEach [.Name tn pT] X.env = (false, eval (.Name tn pT) X.env) :: starEach [] X.env := by rfl) (hpl : (backTo pos (starEach [.Name tn pT] X.env)).any (·.1) = false := by rfl) : ME X cl (.Call (.Name "isinstance" p) [a, .Name tn pT] [] pos) (eIsi k qa) := by
  refine ⟨fun env Q Q' k q => ha.mo _ _ _ (fun m z => ?_) q, PEmono (pe_callB call_isi gl hm (by decide +kernel) (pa_cons ha.pe (pa_cons (pe_bltn (v := .ty (tyS k)) glT hmT hvT rfl hnT hdT) pa_nil he2) he) (by decide) (by decide) he hpl) fun σ H Q ⟨β, G, env, r0, q⟩ => ⟨β, G, env, r0, ha.mo _ _ _ (fun o z v H' G' e rv => ?_) q⟩⟩
  · split at z
    · exact k _ z
    · exact z.elim
  · split at z
    · rename_i b hb
      obtain ⟨n, hn⟩ := isTy_tyN hb
      exact ⟨v, .ty (tyS k), .type n, .type (tyS k), b, rfl, .ty _, tyN_rep e.gh hn rv, kit_ty (isTy_ok k hk o n b hn hb), z _ H' G' e rep_bl⟩
    · exact z.elim
end
/-! ### a def by its body -/
def fDef (nN : Nat) (n : Nat) (s : SX) : FX := fun ss Q E => s (ss ++ List.replicate (nN - n) .un) ⟨fun e => Q (.fro .non) e, Q, fun _ => False, fun _ => False, E⟩
theorem fDef_mo {nN n : Nat} {s : SX} (hs : ∀ env k k', KLe k k' → s env k → s env k') : FMono (fDef nN n s) := fun ss Q Q' E E' k ke q => hs _ ⟨fun e => Q (.fro .non) e, Q, fun _ => False, fun _ => False, E⟩ _ ⟨fun e z => k _ e z, k, fun _ z => z, fun _ z => z, ke⟩ q
theorem R.pad {K : PySem.W.Frag} {cl : Nat → Addr} {β : Bs} {σ : L2.St} {H G : Hp} {ss : Env} (r : R K cl β σ H G ss []) (k : Nat) : R K cl β (σ ++ List.replicate k none) H G (ss ++ List.replicate k .un) [] := by
  obtain ⟨fp, s1, s2, s3, _⟩ := r.sl
  have hl := r.len
  refine ⟨by simp [r.len], r.g0, r.gh, r.hk, r.gk, fun i => if i < ss.length then fp i else [], fun i s hs => ?_, fun i b hi hb => ?_, fun i j b hi hj h1 h2 => ?_, fun b hb => by cases hb⟩
  · dsimp only
    by_cases h : i < ss.length
    · rw [if_pos h]
      rw [List.getElem?_append_left h] at hs
      have e : (σ ++ List.replicate k none).getD i none = σ.getD i none := by rw [List.getD_eq_getElem?_getD, List.getD_eq_getElem?_getD, List.getElem?_append_left (by omega)]
      rw [e]
      exact s1 i s hs
    · rw [if_neg h]
      rw [List.getElem?_append_right (by omega)] at hs
      have : s = .un := by
        have := List.mem_of_getElem? hs
        exact List.eq_of_mem_replicate this
      subst this
      unfold SRep
      rfl
  · dsimp only at hb
    by_cases h : i < ss.length
    · rw [if_pos h] at hb; exact s2 i b h hb
    · rw [if_neg h] at hb; cases hb
  · dsimp only at h1 h2
    by_cases h : i < ss.length
    · by_cases h' : j < ss.length
      · rw [if_pos h] at h1; rw [if_pos h'] at h2; exact s3 i j b h h' h1 h2
      · rw [if_neg h'] at h2; cases h2
    · rw [if_neg h] at h1; cases h1
theorem fn_mk {P : Program} {w : World} {K : PySem.W.Frag} {mg : Str → Option Value} {base : Heap} {cl : Nat → Addr} {x qual : Str} {st : Stmt} {f : Addr} {fd : FuncData} {N ps : List Str} {k : Nat} {s : SX} (F : Fun K x qual st f fd) (S : FnScope N ps (defScope st))
    (body : ∀ (cdv : Value) (A : Around) (outer : List PySem.Env) (sh : Shared) (H : Hp) (E : XK), Room k (A.deeper (envOfC qual (defScope st) sh.heap.objs.size f cdv)) → MSs (cxOf CX0 P w K mg base N qual (defScope st) f cdv A outer sh H E).nox cl (fun _ _ => False) (defBody st) s) :
    FnOk P w K mg base CX0 (k + 1) f fd ps (sp0 K cl ps.length (fDef N.length ps.length s)) ∧ ∀ A : Around, Room (k + 1) A → FMono (fDef N.length ps.length s) := by
  refine ⟨F.ok S (fun vs H Q E h => h.1) fun cdv A outer sh H vs Q E hr h => ?_, fun A hr => fDef_mo (body .none A [] {} (fun _ => none) E0 (hr.deeper _)).mo⟩
  obtain ⟨hl, G, Fl, ss, r, q⟩ := h
  refine ⟨_, (body cdv A outer sh H E hr).ps, ⟨H, G, Fl, vs.map some⟩, G, ss ++ List.replicate (N.length - ps.length) .un, ?_, ?_⟩
  · have := r.pad (N.length - ps.length)
    unfold L2.start
    rw [hl]
    exact this
  · exact (body cdv A outer sh H E hr).mo _ ⟨fun e => ∀ v σ' H' G' X, R K cl ⟨H, G, Fl, vs.map some⟩ σ' H' G' e X → RepO K cl H' G' (.fro .non) v X → Q v H', fun o e => ∀ v σ' H' G' X, R K cl ⟨H, G, Fl, vs.map some⟩ σ' H' G' e X → RepO K cl H' G' o v X → Q v H', fun _ => False, fun _ => False, fun _ => False⟩ _ ⟨fun e z σ' H' G' r' _ => z _ _ _ _ _ r' (by unfold RepO Rep; exact ⟨rfl, rfl⟩), fun o e z σ' H' G' v X' r' _ ro => z _ _ _ _ _ r' ro, fun e z => z.elim, fun e z => z.elim, fun n z => z⟩ q
theorem fb_mk {P : Program} {w : World} {K : PySem.W.Frag} {mg : Str → Option Value} {base : Heap} {cl : Nat → Addr} {x qual : Str} {st : Stmt} {f : Addr} {fd : FuncData} {N ps : List Str} {k : Nat} {s : SX} (F : Fun K x qual st f fd) (S : FnScope N ps (defScope st)) (B : Binds K fd ps [])
    (body : ∀ (cdv : Value) (A : Around) (outer : List PySem.Env) (sh : Shared) (H : Hp) (E : XK), Room k (A.deeper (envOfC qual (defScope st) sh.heap.objs.size f cdv)) → MSs (cxOf CX0 P w K mg base N qual (defScope st) f cdv A outer sh H E).nox cl (fun _ _ => False) (defBody st) s) :
    FB P w K mg base cl (k + 1) ps.length f (fDef N.length ps.length s) := ⟨⟨fd, ps, (fn_mk F S body).1, B⟩, (fn_mk F S body).2⟩
theorem cok_mk {K : PySem.W.Frag} {cl : Nat → Addr} {c : Nat} (h : Cls K (cl c)) (hf : ∀ f ∈ fsOf c, NoAttr K (cl c) (fn f)) : COk K cl c 0 := ⟨Nat.zero_le _, h, hf⟩
/-! ### the law -/
def spLaw (K : PySem.W.Frag) : Sp := fun vs H Q _ => ∃ (a : Addr) (ns : List Int), vs = [.ref a] ∧ SqL K H a (ns.map V.int) ∧ ns.length ≤ 63 ∧ ∀ H', Q (.bl true) H'
def scrOf (ns : List Int) : List MV := ns.map .int
theorem reps_ints {K : PySem.W.Frag} {cl : Nat → Addr} {G : Hp} : ∀ ns : List Int, Reps K cl G (scrOf ns) (ns.map V.int)
  | [] => Reps.nil
  | i :: ns => Reps.cons rep_int (reps_ints ns)
theorem law_fn {P : Program} {w : World} {K : PySem.W.Frag} {mg : Str → Option Value} {base : Heap} {cl : Nat → Addr} {k : Nat} {f : Addr} {fd : FuncData} {x : Str} {F : FX} (h : FnOk P w K mg base CX0 k f fd [x] (sp0 K cl 1 F)) (mo : FMono F)
    (hF : ∀ ns : List Int, ns.length ≤ 63 → F [.bo (.scr (scrOf ns))] (fun o _ => o = .fro (.bl true)) (fun _ => False)) : FnOk P w K mg base CX0 k f fd [x] (spLaw K) := by
  refine h.imp fun vs H Q E ⟨a, ns, e1, h1, h2, h3⟩ => ?_
  subst e1
  refine ⟨rfl, fun _ => none, fun _ => False, [.bo (.scr (scrOf ns))], ⟨rfl, Same.refl _, fun b u z => (by cases z), fun b u z _ => z, fun b _ _ _ => rfl, fun _ => [], fun i s hs => ?_, fun i b _ hb => (by cases hb), fun i j b _ _ hb => (by cases hb), fun b hb => (by cases hb)⟩, mo _ _ _ _ _ (fun o e z v σ' H' G' X' r ro => ?_) (fun _ z => z) (hF ns h2)⟩
  · cases i with
    | zero =>
      simp at hs; subst hs
      unfold SRep
      refine ⟨rfl, .ref a, rfl, rfl, H, fun b u z => ⟨z, fun q => q⟩, ?_⟩
      unfold RepB
      exact ⟨a, _, rfl, h1, reps_ints ns⟩
    | succ i => simp at hs
  · subst z
    unfold RepO Rep at ro
    rw [ro.2]
    exact h3 H'
end C
namespace C
open PySem PySem.Spec PyProof.Rows L2
section
variable {X : Cx} {cl : Nat → Addr} {W : WX} {a b c e : Expr} {es : List Expr} {fa fb fc : EX} {qa qb qc : QX} {ta tb : TX} {ga : AX} {na : NX} {xa : XX} {pos p : Pos} {x : Str} {st : Stmt} {sts sts2 : List Stmt} {s t : SX} {g : GX} {gs : GXs}
/-! ### list comprehensions -/
def wipeE (env : Env) : List Nat → Env
  | [] => env
  | v :: vs => (wipeE env vs).set v .un
theorem R.wipe {K : PySem.W.Frag} {β : Bs} {σ : L2.St} {H G : Hp} {env : Env} {Z : List Addr} (r : R K cl β σ H G env Z) : ∀ vs, R K cl β (L2.wipe σ vs) H G (wipeE env vs) Z
  | [] => r
  | v :: vs => (R.wipe r vs).unset v
theorem wipe_at {σ : L2.St} {i : Nat} : ∀ {vs : List Nat}, i < σ.length → (L2.wipe σ vs)[i]? = if i ∈ vs then some none else σ[i]?
  | [], h => by simp [L2.wipe]
  | v :: vs, h => by
    unfold L2.wipe
    by_cases e : i = v
    · subst e
      rw [List.getElem?_set_self (by rw [wipe_length]; exact h)]
      simp
    · rw [List.getElem?_set_ne (Ne.symm e), wipe_at h]
      simp [e]
theorem wipe_agr {σ σ2 : L2.St} {is vs : List Nat} (h : Agr is (L2.wipe σ vs) σ2) (hs : ∀ j ∈ is, j ∈ vs) : L2.wipe σ2 vs = L2.wipe σ vs := by
  have hl : σ2.length = σ.length := by rw [h.1, wipe_length]
  refine List.ext_getElem? fun i => ?_
  by_cases hi : i < σ.length
  · rw [wipe_at (by rw [hl]; exact hi), wipe_at hi]
    by_cases hv : i ∈ vs
    · rw [if_pos hv, if_pos hv]
    · rw [if_neg hv, if_neg hv, h.2 i (fun z => hv (hs i z)), wipe_at hi, if_neg hv]
  · rw [List.getElem?_eq_none (by rw [wipe_length]; omega), List.getElem?_eq_none (by rw [wipe_length]; omega)]
/-- the items' values, from the left -/
def lcN (g : GX) (t : TX) (fe : EX) (env0 : Env) : List MV → List MV → (List MV → Prop) → Prop
  | [], acc, Q => Q acc
  | m :: ms, acc, Q => g m env0 fun e => t e fun b => match b with
    | true => fe e fun y => acc.length < sizeLine ∧ lcN g t fe env0 ms (acc ++ [y]) Q
    | false => lcN g t fe env0 ms acc Q
def lcX (vs : List Nat) (f : LX) (g : GX) (t : TX) (fe : EX) : LX := fun env Q => f env fun ms => lcN g t fe (wipeE env vs) ms [] Q
theorem lcN_mo {env0 : Env} (hg : ∀ m env (Q Q' : Env → Prop), (∀ e, Q e → Q' e) → g m env Q → g m env Q') (ht : ∀ env (Q Q' : Bool → Prop), (∀ m, Q m → Q' m) → ta env Q → ta env Q') (hf : ∀ env (Q Q' : MV → Prop), (∀ m, Q m → Q' m) → fa env Q → fa env Q') :
    ∀ ms acc (Q Q' : List MV → Prop), (∀ m, Q m → Q' m) → lcN g ta fa env0 ms acc Q → lcN g ta fa env0 ms acc Q'
  | [], acc, Q, Q', k, q => k _ q
  | m :: ms, acc, Q, Q', k, q => hg _ _ _ _ (fun e z => ht _ _ _ (fun b z => by
    cases b with
    | true => exact hf _ _ _ (fun y z => ⟨z.1, lcN_mo hg ht hf ms _ Q Q' k z.2⟩) z
    | false => exact lcN_mo hg ht hf ms _ Q Q' k z) z) q
structure MTs (X : Cx) (cl : Nat → Addr) (cs : List Expr) (f : TX) : Prop where
  mo : ∀ env (Q Q' : Bool → Prop), (∀ m, Q m → Q' m) → f env Q → f env Q'
  pt : PTs X cs (tOf X.K cl f)
def tYesX : TX := fun _ Q => Q true
theorem PTsmono {X : Cx} {e : List Expr} {t t' : TT} (h : PTs X e t) (k : ∀ σ H Q, t' σ H Q → t σ H Q) : PTs X e t' := ⟨fun pins s σ H Q I q => h.run pins s σ H Q I (k σ H Q q)⟩
theorem mts_nil : MTs X cl [] tYesX := ⟨fun _ _ _ k q => k _ q, PTsmono pts_nil fun σ H Q ⟨β, G, env, r0, q⟩ => q H G (Ext.refl r0.gh)⟩
theorem mts_one (h : MT X cl a ta) : MTs X cl [a] ta := ⟨h.mo, pts_one h.pt⟩
abbrev BlkX (X : Cx) (scope : Scope) (s : Shared) (H : Hp) (C : Addr) (cl' : List (Str × Addr)) (fp : List Addr) : Cx := X.blk s H scope (compEnvC scope cl' C X.env) fp
/-- the block's text, whatever its frame -/
structure MLC (X : Cx) (cl : Nat → Addr) (scope : Scope) (tg iter elt : Expr) (ifs : List Expr) (own : List (Str × Nat)) (f : LX) (g : GX) (t : TX) (fe : EX) : Prop where
  hi : MJ X cl tg iter f
  ok : BlkOk X.N X.env.scope scope own
  hg : ∃ is, (∀ j ∈ is, j ∈ own.map (·.2)) ∧ ∀ (s : Shared) (H : Hp) (C : Addr) (cl' : List (Str × Addr)) (fp : List Addr), MG (BlkX X scope s H C cl' fp) cl tg g is
  ht : ∀ (s : Shared) (H : Hp) (C : Addr) (cl' : List (Str × Addr)) (fp : List Addr), MTs (BlkX X scope s H C cl' fp) cl ifs t
  he : ∀ (s : Shared) (H : Hp) (C : Addr) (cl' : List (Str × Addr)) (fp : List Addr), ME (BlkX X scope s H C cl' fp) cl elt fe
  m0 : Nonempty (Shared × Hp)
def nLc (f : LX) : NX := fun env Q => f env fun ms => Q (.lst ms)
theorem lc_run {scope : Scope} {tg iter elt : Expr} {ifs : List Expr} {own : List (Str × Nat)} {f : LX} {fe : EX} (h : MLC X cl scope tg iter elt ifs own f g ta fe) {is : List Nat} (his : ∀ j ∈ is, j ∈ own.map (·.2)) (hg : ∀ (s : Shared) (H : Hp) (C : Addr) (cl' : List (Str × Addr)) (fp : List Addr), MG (BlkX X scope s H C cl' fp) cl tg g is) (s0 : Shared) {σ : L2.St} {H : Hp} {Q : VK}
    (q : nOf X.K cl (nLc (lcX (own.map (·.2)) f g ta fe)) σ H Q) :
    tLc (fun σ H Q => ∃ β G env, R X.K cl β σ H G env [] ∧ f env fun ms => ∀ J H' G' KH, Ext H G H' G' → Same KH H' → ItOk X.K cl J ms G' KH → Q J H') (gOf X.K cl g is) (tOf X.K cl ta) (eOf X.K cl fe) (own.map (·.2)) σ H Q := by
  obtain ⟨β, G, env, r0, q⟩ := q
  have gmo := (hg s0 H 0 [] []).mo
  have tmo := (h.ht s0 H 0 [] []).mo
  have emo := (h.he s0 H 0 [] []).mo
  refine ⟨β, G, env, r0, h.hi.mo _ _ _ (fun ms z J H1 G1 KH e1 hk it D hD => ?_) q⟩
  obtain ⟨Y, w, hy⟩ := it
  generalize own.map (·.2) = vs at *
  refine lc_it w (fun i H2 => ∃ G2 acc us, Ext H1 G1 H2 G2 ∧ H2 D = some (.lst us) ∧ G2 D = none ∧ Reps X.K cl G2 acc us ∧ lcN g ta fe (wipeE env vs) (ms.drop i) acc fun ms => ∀ v H' G' X_, Ext H G H' G' → RepO X.K cl H' G' (.lst ms) v X_ → (∀ b ∈ X_, H b = none ∧ G' b = none ∧ H' b ≠ none) → Q v H')
    ⟨G1, [], [], Ext.new0 e1.gh hD, upd_same, e1.gh.free hD, Reps.nil, z⟩ (fun i H2 _ ⟨G2, _, _, e2, _⟩ => hk.trans e2.hh) (fun i x H2 H3 hi ⟨G2, acc, us, e2, hd, gd, ra, q⟩ y => ?_) fun H2 ⟨G2, acc, us, e2, hd, gd, ra, q⟩ => ?_
  · obtain ⟨G3, m, e3, hm, rm⟩ := hy i H2 G2 x H3 hi (hk.trans e2.hh) e2.gg e2.gh y
    have hdr : ms.drop i = m :: ms.drop (i + 1) := by
      rw [List.drop_eq_getElem_cons hi]
      congr 1
      rw [List.getElem?_eq_getElem hi] at hm
      exact Option.some.inj hm
    rw [hdr] at q
    have e13 := e2.trans e3
    have r3 := (r0.ext (e1.trans e13)).wipe vs
    have hd3 := e3.hh _ _ hd
    have gd3 := e3.gn D (by rw [hd]; simp) gd
    refine ⟨β, G3, _, m, r3, rm, gmo _ _ _ _ (fun en z σ2 r4 ag => ⟨wipe_agr ag his, β, G3, en, r4, tmo _ _ _ (fun b z H5 G5 e5 => ?_) z⟩) q⟩
    cases b with
    | false =>
      rw [if_neg Bool.false_ne_true]
      exact ⟨G5, acc, us, e13.trans e5, e5.hh _ _ hd3, e5.gn D (by rw [hd3]; simp) gd3, Reps.same (e3.gg.trans e5.gg) _ _ ra, z⟩
    | true =>
      rw [if_pos rfl]
      refine ⟨β, G5, en, r4.ext e5, emo _ _ _ (fun y z v H6 G6 e6 rv => ?_) z⟩
      have e56 := e5.trans e6
      have hd6 := e56.hh _ _ hd3
      have gd6 := e56.gn D (by rw [hd3]; simp) gd3
      have e16 := e13.trans e56
      refine ⟨us, hd6, by rw [Reps.len _ _ ra]; exact z.1, G6, acc ++ [y], us ++ [v], ⟨fun b u hb => ?_, e16.gg, fun b u hb => ?_, e16.gn⟩, upd_same, gd6, Reps.app _ _ _ _ (Reps.same (e3.gg.trans e56.gg) _ _ ra) (Reps.one rv), z.2⟩
      · rw [upd_ne (ne_of_none hb hD)]; exact e16.hh b u hb
      · rw [upd_ne (ne_of_none hb gd6)]; exact e16.gh b u hb
  · rw [List.drop_length] at q
    have q' : ∀ v H' G' X_, Ext H G H' G' → RepO X.K cl H' G' (.lst acc) v X_ → (∀ b ∈ X_, H b = none ∧ G' b = none ∧ H' b ≠ none) → Q v H' := q
    refine q' (.ref D) H2 G2 [D] (e1.trans e2) ?_ fun b hb => ?_
    · unfold RepO; exact ⟨D, us, rfl, rfl, hd, ra⟩
    · have : b = D := by simpa using hb
      subst this
      exact ⟨e1.hh.free hD, gd, by rw [hd]; simp⟩
theorem nLc_mo {vs : List Nat} {f : LX} {fe : EX} (hi : ∀ env (Q Q' : List MV → Prop), (∀ m, Q m → Q' m) → f env Q → f env Q') (hg : ∀ m env (Q Q' : Env → Prop), (∀ e, Q e → Q' e) → g m env Q → g m env Q') (ht : ∀ env (Q Q' : Bool → Prop), (∀ m, Q m → Q' m) → ta env Q → ta env Q')
    (hf : ∀ env (Q Q' : MV → Prop), (∀ m, Q m → Q' m) → fe env Q → fe env Q') : ∀ env (Q Q' : OV → Prop), (∀ m, Q m → Q' m) → nLc (lcX vs f g ta fe) env Q → nLc (lcX vs f g ta fe) env Q' :=
  fun env Q Q' k q => hi _ _ _ (fun ms z => lcN_mo hg ht hf ms _ _ _ (fun _ w => k _ w) z) q
theorem mn_lc {scope : Scope} {tg iter elt : Expr} {ifs : List Expr} {own : List (Str × Nat)} {f : LX} {fe : EX} (hc : X.calm = true) (hN : X.N.Nodup) (h : MLC X cl scope tg iter elt ifs own f g ta fe) (hs : ∀ x, foldedSetIterable iter X.env x = pure x := by intro _; rfl) :
    MN X cl (.ListComp elt [⟨tg, iter, ifs, 0⟩] scope pos) (nLc (lcX (own.map (·.2)) f g ta fe)) := by
  obtain ⟨is, his, hg⟩ := h.hg
  obtain ⟨s0, H0⟩ := h.m0
  refine ⟨nLc_mo h.hi.mo (hg s0 H0 0 [] []).mo (h.ht s0 H0 0 [] []).mo (h.he s0 H0 0 [] []).mo, PEmono (pe_lc hc hN h.hi.pi h.ok (fun s H C cl' fp => (hg s H C cl' fp).pg) (fun s H C cl' fp => (h.ht s H C cl' fp).pt) (fun s H C cl' fp => (h.he s H C cl' fp).pe) hs) fun σ H Q q => lc_run h his hg s0 q⟩
/-- name = [..] on one line, the name a local -/
theorem ms_setLc (i : Nat) {y : Str} {py spos : Pos} {scope : Scope} {tg iter elt : Expr} {ifs : List Expr} {own : List (Str × Nat)} {f : LX} {fe : EX} (hc : X.calm = true) (hN : X.N.Nodup) (h : MLC X cl scope tg iter elt ifs own f g ta fe) (hsw : swapsWith (.ListComp elt [⟨tg, iter, ifs, 0⟩] scope pos) (some (.Name y py)) spos.line X.env = pure true)
    (hy : X.N[i]? = some y := by rfl) (hyl : X.env.scope.names.lookup y = some .local := by rfl) (hs : ∀ x, foldedSetIterable iter X.env x = pure x := by intro _; rfl) : MS X cl W (.Assign [.Name y py] (.ListComp elt [⟨tg, iter, ifs, 0⟩] scope pos) spos) (set i (xN (nLc (lcX (own.map (·.2)) f g ta fe)))) := by
  obtain ⟨is, his, hg⟩ := h.hg
  obtain ⟨s0, H0⟩ := h.m0
  have mo := nLc_mo (vs := own.map (·.2)) h.hi.mo (hg s0 H0 0 [] []).mo (h.ht s0 H0 0 [] []).mo (h.he s0 H0 0 [] []).mo
  refine ⟨set_mo (W := W) (mx_n (mn_lc (pos := pos) hc hN h hs)), PSmono (ps_setLc (te := eOf X.K cl fe) (tt := tOf X.K cl ta) (g := gOf X.K cl g is) hc hN hy hyl hsw h.hi.pi h.ok (fun s H C cl' fp => (hg s H C cl' fp).pg) (fun s H C cl' fp => (h.ht s H C cl' fp).pt) (fun s H C cl' fp => (h.he s H C cl' fp).pe) hs) fun D σ H ⟨β, G, env, r0, q⟩ => ?_⟩
  · refine lc_run h his hg s0 ⟨β, G, env, r0, mo env (fun o => match setE env i o with
      | some e => (kOf X.K cl W β G D).nx e
      | none => False) _ (fun o z v H' G' X' e ro hX => ?_) q⟩
    cases g : setE env i o with
    | none => rw [g] at z; exact z.elim
    | some e3 =>
      rw [g] at z
      obtain ⟨h1, rfl⟩ := setE_out g
      exact z _ H' G' ((r0.extX e hX).setv h1 ro) e.gg
/-- the same, the list frozen at once -/
theorem ms_setLcF (i : Nat) {y : Str} {py spos : Pos} {scope : Scope} {tg iter elt : Expr} {ifs : List Expr} {own : List (Str × Nat)} {f : LX} {fe : EX} (hc : X.calm = true) (hN : X.N.Nodup) (h : MLC X cl scope tg iter elt ifs own f g ta fe) (hsw : swapsWith (.ListComp elt [⟨tg, iter, ifs, 0⟩] scope pos) (some (.Name y py)) spos.line X.env = pure true)
    (hy : X.N[i]? = some y := by rfl) (hyl : X.env.scope.names.lookup y = some .local := by rfl) (hs : ∀ x, foldedSetIterable iter X.env x = pure x := by intro _; rfl) : MS X cl W (.Assign [.Name y py] (.ListComp elt [⟨tg, iter, ifs, 0⟩] scope pos) spos) (set i (xE (eFrz (nLc (lcX (own.map (·.2)) f g ta fe))))) := by
  obtain ⟨is, his, hg⟩ := h.hg
  obtain ⟨s0, H0⟩ := h.m0
  have mo := nLc_mo (vs := own.map (·.2)) h.hi.mo (hg s0 H0 0 [] []).mo (h.ht s0 H0 0 [] []).mo (h.he s0 H0 0 [] []).mo
  refine ⟨set_mo (W := W) (mx_e (me_n (mn_lc (pos := pos) hc hN h hs))), PSmono (ps_setLc (te := eOf X.K cl fe) (tt := tOf X.K cl ta) (g := gOf X.K cl g is) hc hN hy hyl hsw h.hi.pi h.ok (fun s H C cl' fp => (hg s H C cl' fp).pg) (fun s H C cl' fp => (h.ht s H C cl' fp).pt) (fun s H C cl' fp => (h.he s H C cl' fp).pe) hs) fun D σ H ⟨β, G, env, r0, q⟩ => ?_⟩
  · refine lc_run h his hg s0 ⟨β, G, env, r0, mo env (fun o => match frz o with
      | some m => match setE env i (.fro m) with
        | some e => (kOf X.K cl W β G D).nx e
        | none => False
      | none => False) _ (fun o z v H' G' X' e ro hX => ?_) q⟩
    cases hq : frz o with
    | none => rw [hq] at z; exact z.elim
    | some m =>
      rw [hq] at z
      dsimp only at z
      have rr := (r0.extX e hX).frz
      have rp := frz_rep ro (fun b hb => (hX b hb).2.1) hq
      cases g : setE env i (.fro m) with
      | none => rw [g] at z; exact z.elim
      | some e3 =>
        rw [g] at z
        obtain ⟨h1, rfl⟩ := setE_out g
        exact z _ H' _ (rr.setv h1 (by unfold RepO; exact ⟨rfl, rp⟩)) (e.gg.trans (frzG_same fun b hb => (hX b hb).2.1))
end
end C
namespace C
open PySem PySem.Spec PyProof.Rows L2
section
variable {K : PySem.W.Frag} {cl : Nat → Addr} {H H' G G' : Hp} {β : Bs} {σ : L2.St} {env : Env} {Z : List Addr}
/-- an owned local is taken out of its slot -/
theorem R.take (r : R K cl β σ H G env []) {i : Nat} {o : OV} (e : env[i]? = some (.ow o)) : ∃ v X, σ[i]? = some (some v) ∧ RepO K cl H G o v X ∧ R K cl β σ H G (env.set i .un) X := by
  obtain ⟨fp, s1, s2, s3, _⟩ := r.sl
  have hi := (List.getElem?_eq_some_iff.mp e).1
  have q := s1 i _ e
  unfold SRep at q
  obtain ⟨v, q1, q2⟩ := q
  refine ⟨v, fp i, getD_some q1, q2, by rw [List.length_set, r.len], r.g0, r.gh, r.hk, r.gk, fun j => if j = i then [] else fp j, fun j s hs => ?_, fun j b hj hb => ?_, fun j k b hj hk h1 h2 => ?_, fun b hb => ?_⟩
  · dsimp only
    by_cases ej : j = i
    · subst ej
      rw [if_pos rfl]
      rw [List.getElem?_set_self hi] at hs
      cases hs
      unfold SRep
      rfl
    · rw [if_neg ej]
      rw [List.getElem?_set_ne (Ne.symm ej)] at hs
      exact s1 j s hs
  · dsimp only at hb
    rw [List.length_set] at hj
    by_cases ej : j = i
    · rw [if_pos ej] at hb; cases hb
    · rw [if_neg ej] at hb; exact s2 j b hj hb
  · dsimp only at h1 h2
    rw [List.length_set] at hj hk
    by_cases ej : j = i
    · rw [if_pos ej] at h1; cases h1
    · by_cases ek : k = i
      · rw [if_pos ek] at h2; cases h2
      · rw [if_neg ej] at h1; rw [if_neg ek] at h2; exact s3 j k b hj hk h1 h2
  · refine ⟨RepO.there _ _ _ q2 b hb, (s2 i b hi hb).1, (s2 i b hi hb).2, fun j hj z => ?_⟩
    dsimp only at z
    rw [List.length_set] at hj
    by_cases ej : j = i
    · rw [if_pos ej] at z; cases z
    · rw [if_neg ej] at z; exact ej (s3 j i b hj hi z hb)
theorem set_same {α : Type} {l : List α} {i : Nat} {x y : α} : (l.set i x).set i y = l.set i y := List.set_set ..
theorem R.setAt (r : R K cl β σ H G env Z) {i : Nat} {o : OV} {v : V} (hi : i < env.length) (hv : σ[i]? = some (some v)) (hr : RepO K cl H G o v Z) : R K cl β σ H G (env.set i (.ow o)) [] := by
  have := r.setv hi hr
  rw [set_self hv] at this
  exact this
/-- an owned local is frozen -/
def fzE (env : Env) (i : Nat) : Option Env := match env[i]? with
  | some (.ow o) => match frz o with
    | some m => some (env.set i (.ow (.fro m)))
    | none => none
  | _ => none
theorem R.fz (r : R K cl β σ H G env []) {i : Nat} {env' : Env} (h : fzE env i = some env') : ∃ G', R K cl β σ H G' env' [] ∧ Same G G' := by
  unfold fzE at h
  split at h
  · rename_i o e
    split at h
    · rename_i m hm
      cases h
      have hi := (List.getElem?_eq_some_iff.mp e).1
      obtain ⟨v, X, hv, ro, r'⟩ := r.take e
      have rr := r'.frz
      have n := r'.xn
      have := rr.setAt (o := .fro m) (v := v) (i := i) (by rw [List.length_set]; exact hi) hv (by unfold RepO; exact ⟨rfl, frz_rep ro n hm⟩)
      rw [set_same] at this
      exact ⟨_, this, frzG_same n⟩
    · cases h
  · cases h
end
section
variable {X : Cx} {cl : Nat → Addr} {W : WX} {a b c e : Expr} {es : List Expr} {fa fb fc : EX} {qa qb qc : QX} {ta tb : TX} {ga : AX} {na : NX} {xa : XX} {pos p : Pos} {x : Str} {st : Stmt} {sts sts2 : List Stmt} {s t : SX} {g : GX} {gs : GXs}
def fz (i : Nat) (s : SX) : SX := fun env k => match fzE env i with
  | some e => s e k
  | none => False
theorem ms_fz (i : Nat) (h : MS X cl W st s) : MS X cl W st (fz i s) := by
  refine ⟨fun env k k' l q => ?_, PSmono h.ps fun D σ H ⟨β, G, env, r0, q⟩ => ?_⟩
  · unfold fz at q ⊢
    split at q
    · exact h.mo _ _ _ l q
    · exact q.elim
  · unfold fz at q
    split at q
    · rename_i e he
      obtain ⟨G', r', g⟩ := r0.fz he
      exact ⟨β, G', e, r', h.mo _ _ _ (kOf_le g) q⟩
    · exact q.elim
/-- a local handed over -/
def xMv (i : Nat) : XX := fun env Q _ => match env[i]? with
  | some (.ow o) => Q o (env.set i .un)
  | _ => False
theorem mx_mv (i : Nat) {x : Str} {pos : Pos} (hN : X.N[i]? = some x := by rfl) (hv : Vis X.env.scope x := by first | exact Or.inl rfl | exact Or.inr (Or.inl rfl) | exact Or.inr (Or.inr rfl)) (hd : (x == ("__debug__" : Str)) = false := by decide)
    (hcd : (x == ("__classdict__" : Str)) = false := by decide) : MX X cl W (.Name x pos) (xMv i) := by
  refine ⟨fun env Q Q' E E' k _ q => ?_, PEmono (pe_var hN hv hd hcd) fun σ H Q ⟨β, G, env, r0, q⟩ => ?_⟩
  · unfold xMv at q ⊢
    split at q
    · exact k _ _ q
    · exact q.elim
  · unfold xMv at q
    split at q
    · rename_i o e
      obtain ⟨v, X', hv, ro, r'⟩ := r0.take e
      exact ⟨v, hv, q v H G X' r' (Same.refl _) ro⟩
    · exact q.elim
/-! ### lists changed in place -/
theorem upd_off {H : Hp} {p : Addr} {o : HO} {b : Addr} (h : b ≠ p) {u : HO} (e : H b = some u) : upd H p o b = some u := by rw [upd_ne h]; exact e
/-- the list at an owned place gets new items -/
theorem lst_write {K : PySem.W.Frag} {β : Bs} {σ : L2.St} {H G : Hp} {env : Env} {i : Nat} {p : List Nat} {ms : List MV} (r : R K cl β σ H G env []) (hp : ∀ f ∈ p, f < 60) (h : ownP env i p = some (.lst ms)) :
    ∃ v0 l vs, σ[i]? = some (some v0) ∧ PAt K H v0 p (.ref l) ∧ H l = some (.lst vs) ∧ Reps K cl G ms vs ∧ ∀ ms' vs', Reps K cl G ms' vs' → R K cl β σ (upd H l (.lst vs')) G (setP env i p (.lst ms')) [] := by
  obtain ⟨v0, w, f1, h1, h2, h3, h4, _, h6⟩ := r.write hp h
  unfold RepO at h3
  obtain ⟨l, vs, rfl, rfl, y1, y2⟩ := h3
  refine ⟨v0, l, vs, h1, h2, y1, y2, fun ms' vs' rs => h6 _ G (.lst ms') [l] (Same.refl _) (fun b u q => ?_) (fun b hb u q => upd_off (by simpa using hb) q) (fun b _ q => q) ?_ (fun b hb => .inl hb) (fun b hb => h4 b hb)⟩
  · refine upd_off (fun z => ?_) (r.gh b u q)
    subst z
    rw [h4 b (by simp)] at q; cases q
  · unfold RepO
    exact ⟨l, vs', rfl, rfl, upd_same, rs⟩
def xApp (i : Nat) (p : List Nat) (fa : EX) : XX := fun env Q _ => match ownP env i p with
  | some (.lst ms) => fa env fun m => ms.length < sizeLine ∧ Q (.fro .non) (setP env i p (.lst (ms ++ [m])))
  | _ => False
theorem rn {K : PySem.W.Frag} {cl : Nat → Addr} {H G : Hp} : RepO K cl H G (.fro .non) .non [] := by unfold RepO Rep; exact ⟨rfl, rfl⟩
theorem mx_app {o : Expr} {i : Nat} {pl : List Nat} {apos cpos : Pos} (ho : MP X o i pl) (ha : ME X cl e fa) (hp : fld38 pl = true := by rfl) (he : starEach [e] X.env = (false, eval e X.env) :: starEach [] X.env := by rfl)
    (hbase : attributeBase o "append" X.env (eval o X.env) = eval o X.env := by rfl)
    (hfew : ((backTo cpos (starEach [e] X.env)).all (fun x => !x.1) && (backToKw cpos (keywordEach [] X.env)).all (fun x => x.1.isSome) && decide ([e].length + ([] : List Keyword).length + (if ([] : List Keyword).isEmpty then 0 else 1) < 30)) = true := by rfl)
    (hline : (apos.endLine == cpos.line) = true := by rfl) : MX X cl W (.Call (.Attribute o "append" apos) [e] [] cpos) (xApp i pl fa) := by
  refine ⟨fun env Q Q' E E' k _ q => ?_, PEmono (pe_bm PySem.F.plainAttrs_list PySem.F.slot_list_append PySem.F.type_list_append mt_append ho (pa_cons ha.pe pa_nil he) hbase hfew hline he rfl) fun σ H Q ⟨β, G, env, r0, q⟩ => ?_⟩
  · unfold xApp at q ⊢
    split at q
    · exact ha.mo _ _ _ (fun m z => ⟨z.1, k _ _ z.2⟩) q
    · exact q.elim
  · unfold xApp at q
    split at q
    · rename_i ms h
      obtain ⟨v0, l, vs, h1, h2, h3, _, _⟩ := lst_write r0 (fld38_out hp) h
      refine ⟨v0, .ref l, h1, h2, .inl ⟨rfl, vs, SqL.of h3⟩, β, G, env, r0, ha.mo _ _ _ (fun m z v H' G' e rv => ?_) q⟩
      have r1 := r0.ext e
      obtain ⟨v0', l', vs', g1, g2, g3, g4, g5⟩ := lst_write r1 (fld38_out hp) h
      rw [h1] at g1; cases g1
      have := PAt.uniq (PAt.same e.hh h2) g2
      cases this
      refine ⟨l, vs', v, rfl, rfl, g3, by rw [Reps.len _ _ g4]; exact z.1, ?_⟩
      exact z.2 .non _ G' [] (g5 _ _ (Reps.app _ _ _ _ g4 (Reps.one rv))) e.gg rn
    · exact q.elim
def xPop (i : Nat) (p : List Nat) : XX := fun env Q _ => match ownP env i p with
  | some (.lst ms) => match ms.getLast? with
    | some m => Q (.fro m) (setP env i p (.lst ms.dropLast))
    | none => False
  | _ => False
theorem Reps.dropLast {K : PySem.W.Frag} {G : Hp} {ms : List MV} {vs : List V} (r : Reps K cl G ms vs) : Reps K cl G ms.dropLast vs.dropLast := by
  rw [List.dropLast_eq_take, List.dropLast_eq_take, Reps.len _ _ r]
  exact Reps.take _ _ _ r
theorem mx_pop {o : Expr} {i : Nat} {pl : List Nat} {apos cpos : Pos} (ho : MP X o i pl) (hp : fld38 pl = true := by rfl) (hbase : attributeBase o "pop" X.env (eval o X.env) = eval o X.env := by rfl)
    (hline : (apos.endLine == cpos.line) = true := by rfl) : MX X cl W (.Call (.Attribute o "pop" apos) [] [] cpos) (xPop i pl) := by
  refine ⟨fun env Q Q' E E' k _ q => ?_, PEmono (pe_bm0 PySem.F.plainAttrs_list PySem.F.slot_list_pop PySem.F.type_list_pop mt_pop ho hbase hline) fun σ H Q ⟨β, G, env, r0, q⟩ => ?_⟩
  · unfold xPop at q ⊢
    split at q
    · split at q
      · exact k _ _ q
      · exact q.elim
    · exact q.elim
  · unfold xPop at q
    split at q
    · rename_i ms h
      split at q
      · rename_i m hm
        obtain ⟨v0, l, vs, h1, h2, h3, h4, h5⟩ := lst_write r0 (fld38_out hp) h
        have hm' : ms[ms.length - 1]? = some m := by rw [← List.getLast?_eq_getElem?]; exact hm
        obtain ⟨v, y1, y2⟩ := Reps.get _ _ _ m h4 hm'
        refine ⟨v0, .ref l, h1, h2, .inl ⟨rfl, vs, SqL.of h3⟩, l, vs, v, rfl, rfl, h3, by rw [Reps.len _ _ h4]; exact y1, ?_⟩
        exact q v _ G [] (h5 _ _ (Reps.dropLast h4)) (Same.refl _) (by unfold RepO; exact ⟨rfl, y2⟩)
      · exact q.elim
    · exact q.elim
def xExt (i : Nat) (p : List Nat) (qa : QX) : XX := fun env Q _ => match ownP env i p with
  | some (.lst ms) => qa env fun o => asL o fun ns => ms.length + ns.length ≤ sizeLine ∧ Q (.fro .non) (setP env i p (.lst (ms ++ ns)))
  | _ => False
theorem mx_ext {o : Expr} {i : Nat} {pl : List Nat} {apos cpos : Pos} (ho : MP X o i pl) (ha : MQ X cl e qa) (hp : fld38 pl = true := by rfl) (he : starEach [e] X.env = (false, eval e X.env) :: starEach [] X.env := by rfl)
    (hbase : attributeBase o "extend" X.env (eval o X.env) = eval o X.env := by rfl)
    (hfew : ((backTo cpos (starEach [e] X.env)).all (fun x => !x.1) && (backToKw cpos (keywordEach [] X.env)).all (fun x => x.1.isSome) && decide ([e].length + ([] : List Keyword).length + (if ([] : List Keyword).isEmpty then 0 else 1) < 30)) = true := by rfl)
    (hline : (apos.endLine == cpos.line) = true := by rfl) : MX X cl W (.Call (.Attribute o "extend" apos) [e] [] cpos) (xExt i pl qa) := by
  refine ⟨fun env Q Q' E E' k _ q => ?_, PEmono (pe_bm PySem.F.plainAttrs_list PySem.F.slot_list_extend PySem.F.type_list_extend mt_extend ho (pa_cons ha.pe pa_nil he) hbase hfew hline he rfl) fun σ H Q ⟨β, G, env, r0, q⟩ => ?_⟩
  · unfold xExt at q ⊢
    split at q
    · exact ha.mo _ _ _ (fun m z => asL_mo (fun _ z => ⟨z.1, k _ _ z.2⟩) z) q
    · exact q.elim
  · unfold xExt at q
    split at q
    · rename_i ms h
      obtain ⟨v0, l, vs, h1, h2, h3, _, _⟩ := lst_write r0 (fld38_out hp) h
      refine ⟨v0, .ref l, h1, h2, .inl ⟨rfl, vs, SqL.of h3⟩, β, G, env, r0, ha.mo _ _ _ (fun o z v H' G' e rv => ?_) q⟩
      have r1 := r0.ext e
      obtain ⟨v0', l', vs', g1, g2, g3, g4, g5⟩ := lst_write r1 (fld38_out hp) h
      rw [h1] at g1; cases g1
      have := PAt.uniq (PAt.same e.hh h2) g2
      cases this
      obtain ⟨ns, b, us, rfl, y1, y2, z⟩ := asL_rep e.gh z rv
      refine ⟨l, b, vs', us, rfl, rfl, g3, y1, by rw [Reps.len _ _ g4, Reps.len _ _ y2]; exact z.1, ?_⟩
      exact z.2 .non _ G' [] (g5 _ _ (Reps.app _ _ _ _ g4 y2)) e.gg rn
    · exact q.elim
/-! x op= e -/
/-- an operator stored at once, by values -/
structure GI (X : Cx) (cl : Nat → Addr) (op : Operator) (g : OV → OV → (MV → Prop) → Prop) : Prop where
  mo : ∀ m n (Q Q' : MV → Prop), (∀ k, Q k → Q' k) → g m n Q → g m n Q'
  ex : ∃ r : R2, OpR X (inplaceOp op) r ∧ ∀ m n x y H G (Q : VK), Same G H → Rep X.K cl G m x → RepB X.K cl H G n y → g (.fro m) n (fun k => ∀ v H' G', Ext H G H' G' → Rep X.K cl G' k v → Q v H') → r x y H Q
theorem fro_rep {K : PySem.W.Frag} {H G : Hp} {m : MV} {x : V} (r : Rep K cl G m x) : RepB K cl H G (.fro m) x := by unfold RepB; exact r
def gAddS (m n : OV) (Q : MV → Prop) : Prop := match m, n with
  | .fro (.int i), .fro (.int j) => Q (.int (i + j))
  | .fro (.str x), .fro (.str y) => x.length + y.length ≤ sizeLine ∧ Q (.str (x ++ y))
  | _, _ => False
theorem gi_iadd : GI X cl .Add gAddS := by
  refine ⟨fun m n Q Q' k q => ?_, _, iop_add.or iop_add_str, fun m n x y H G Q g rx ry q => ?_⟩
  · unfold gAddS at q ⊢
    split at q
    · exact k _ q
    · exact ⟨q.1, k _ q.2⟩
    · exact q.elim
  · unfold gAddS at q
    split at q
    · rename_i i j e
      cases e
      unfold Rep at rx; unfold RepB Rep at ry; subst rx; subst ry
      exact .inl ⟨_, _, rfl, rfl, q _ H G (Ext.refl g) rep_int⟩
    · rename_i i j e
      cases e
      unfold Rep at rx; unfold RepB Rep at ry; subst rx; subst ry
      exact .inr ⟨_, _, rfl, rfl, q.1, q.2 _ H G (Ext.refl g) rep_str⟩
    · exact q.elim
theorem gi_isub : GI X cl .Sub gSubI := ⟨gI0_mo, _, iop_sub, fun m n x y H G Q g rx ry q => by obtain ⟨i, j, rfl, rfl, q⟩ := gI0_out (fro_rep (H := H) rx) ry q; exact ⟨i, j, rfl, rfl, q _ H G (Ext.refl g) rep_int⟩⟩
theorem gi_imul : GI X cl .Mult gMulI := ⟨gI_mo, _, iop_mulX, fun m n x y H G Q g rx ry q => by obtain ⟨i, j, rfl, rfl, c, q⟩ := gI_out (fro_rep (H := H) rx) ry q; exact ⟨i, j, rfl, rfl, c, q _ H G (Ext.refl g) rep_int⟩⟩
theorem gi_idiv : GI X cl .FloorDiv gDivI := ⟨gI_mo, _, iop_fdivW, fun m n x y H G Q g rx ry q => by obtain ⟨i, j, rfl, rfl, c, q⟩ := gI_out (fro_rep (H := H) rx) ry q; exact ⟨i, j, rfl, rfl, c, q _ H G (Ext.refl g) rep_int⟩⟩
theorem gi_imod : GI X cl .Mod gModI := ⟨gI_mo, _, iop_mod, fun m n x y H G Q g rx ry q => by obtain ⟨i, j, rfl, rfl, c, q⟩ := gI_out (fro_rep (H := H) rx) ry q; exact ⟨i, j, rfl, rfl, c, q _ H G (Ext.refl g) rep_int⟩⟩
def aug (i : Nat) (g : OV → OV → (MV → Prop) → Prop) (qa : QX) : SX := fun env k => match env[i]? with
  | some (.ow (.fro m)) => qa env fun n => g (.fro m) n fun r => k.nx (env.set i (.ow (.fro r)))
  | _ => False
theorem ms_aug (i : Nat) {op : Operator} {gg : OV → OV → (MV → Prop) → Prop} (hg : GI X cl op gg) {pos' : Pos} (hN : X.N.Nodup) (ha : MQ X cl e qa) (hi : X.N[i]? = some x := by rfl) (hx : Loc X.env.scope x := by first | exact Or.inl rfl | exact Or.inr rfl)
    (hf : X.fn x = true ∨ X.env.scope.names.lookup x = some .local := by first | exact .inl rfl | exact .inr rfl | assumption) : MS X cl W (.AugAssign (.Name x pos') op e pos) (aug i gg qa) := by
  obtain ⟨r, ho, h⟩ := hg.ex
  refine ⟨fun env k k' l q => ?_, PSmono (ps_aug hN hi hx ha.pe ho hf) fun D σ H ⟨β, G, env, r0, q⟩ => ?_⟩
  · unfold aug at q ⊢
    split at q
    · exact ha.mo _ _ _ (fun n z => hg.mo _ _ _ _ (fun r w => l.nx _ w) z) q
    · exact q.elim
  · unfold aug at q
    split at q
    · rename_i m e1
      have hil := (List.getElem?_eq_some_iff.mp e1).1
      obtain ⟨v, X', hv, ro, _⟩ := r0.take e1
      unfold RepO at ro
      refine ⟨v, hv, β, G, env, r0, ha.mo _ _ _ (fun n z w H' G' e rw => ?_) q⟩
      exact h m n v w H' G' _ e.gh (Rep.same e.gg _ _ ro.2) rw (hg.mo _ _ _ _ (fun r w' v' H2 G2 e2 rr => w' _ H2 G2 (((r0.ext e).ext e2).setv hil (by unfold RepO; exact ⟨rfl, rr⟩)) (e.gg.trans e2.gg)) z)
    · exact q.elim
/-! isinstance(x, C), C an own class whose instance x is -/
def eIsC (c : Nat) (qa : QX) : EX := fun env Q => qa env fun o => match o with
  | .obj d _ => Nat.beq d c = true ∧ Q (.bl true)
  | .fro (.obj d _) => Nat.beq d c = true ∧ Q (.bl true)
  | _ => False
theorem m_isC (c : Nat) {pT : Pos} {tn : Str} (ha : MQ X cl a qa) (gl : Gl X "isinstance") (hm : X.mg "isinstance" = none) (glT : Gl X tn) (hmT : X.mg tn = some (.ref (cl c))) (hC : Cls X.K (cl c)) (h1 : PySem.W.findIn X.K (.ref (cl c)) "__class__" = some (some (.builtin "object.__class__")))
    (h2 : PySem.W.specialIn X.K (.builtin "object.__class__") "__get__" = some (some (.builtin "getset_descriptor.__get__"))) (h3 : PySem.W.takesIn X.K (.builtin "object.__class__") = some true) (h4 : PySem.W.mroIn X.K (cl c) (.type "object") = some true) (h5 : PySem.W.kitOne X.K (.ref (cl c)) (.ref (cl c)) = some true)
    (hdT : (tn == ("__debug__" : Str)) = false := by decide)
    (he : starEach [a, .Name tn pT] X.env = (false, eval a X.env) :: starEach [.Name tn pT] X.env := by rfl) (he2 : starEach [.Name tn pT] X.env = (false, eval (.Name tn pT) X.env) :: starEach [] X.env := by rfl) (hpl : (backTo pos (starEach [.Name tn pT] X.env)).any (·.1) = false := by rfl) : ME X cl (.Call (.Name "isinstance" p) [a, .Name tn pT] [] pos) (eIsC c qa) := by
  refine ⟨fun env Q Q' k q => ha.mo _ _ _ (fun m z => ?_) q, PEmono (pe_callB call_isi gl hm (by decide +kernel) (pa_cons ha.pe (pa_cons (pe_glob (v := .ref (cl c)) glT hmT rfl hdT) pa_nil he2) he) (by decide) (by decide) he hpl) fun σ H Q ⟨β, G, env, r0, q⟩ => ⟨β, G, env, r0, ha.mo _ _ _ (fun o z v H' G' e rv => ?_) q⟩⟩
  · split at z
    · exact ⟨z.1, k _ z.2⟩
    · exact ⟨z.1, k _ z.2⟩
    · exact z.elim
  · have fin : ∀ d, (∃ q dx vs, v = V.ref q ∧ H' q = some (.ins (cl d) dx (nf d vs))) → Nat.beq d c = true → (∀ v H' G', Ext H G H' G' → Rep X.K cl G' (.bl true) v → Q v H') → rIsi X.K [v, .ref (cl c)] H' Q := fun d ⟨q, dx, vs, e1, e2⟩ hd k => by
      have := Nat.eq_of_beq_eq_true hd
      subst this
      exact ⟨v, .ref (cl d), .ref (cl d), .ref (cl d), true, rfl, .own _, by subst e1; exact .base (.ins e2 hC h1 h2 h3 h4), h5, k _ H' G' e rep_bl⟩
    split at z
    · unfold RepB at rv
      obtain ⟨q, dx, vs, e1, e2, _⟩ := rv
      exact fin _ ⟨q, dx, vs, e1, e2⟩ z.1 z.2
    · unfold RepB Rep at rv
      obtain ⟨q, dx, vs, e1, e2, _⟩ := rv
      exact fin _ ⟨q, dx, vs, e1, e.gh _ _ e2⟩ z.1 z.2
    · exact z.elim
end
end C
namespace C
open PySem PySem.Spec PyProof.Rows L2
/-- a field's new content -/
def putO (c : Nat) (k : Nat) (os : List OV) (o : OV) : Option (List OV) := match ixOf (fsOf c) k with
  | some j => match Nat.blt j os.length with
    | true => some (os.set j o)
    | false => match Nat.beq j os.length with
      | true => some (os ++ [o])
      | false => none
  | none => none
theorem fs_small (c : Nat) : (fsOf c).length < 900 := by
  have : ∀ l ∈ fsT, l.length < 900 := by decide
  unfold fsOf
  by_cases h : c < fsT.length
  · rw [List.getD_eq_getElem?_getD, List.getElem?_eq_getElem h]
    exact this _ (List.getElem_mem h)
  · rw [List.getD_eq_getElem?_getD, List.getElem?_eq_none (by omega)]
    simp
theorem nf_len {c : Nat} {vs : List V} : (nf c vs).length < 1000 := by
  unfold nf
  rw [List.length_zip, List.length_map]
  have := fs_small c
  omega
section
variable {K : PySem.W.Frag} {cl : Nat → Addr} {H H' G G' : Hp} {β : Bs} {σ : L2.St} {env : Env} {Z : List Addr}
theorem RepOs.len : ∀ {os : List OV} {vs : List V} {fp : List Addr}, RepOs K cl H G os vs fp → vs.length = os.length
  | [], _, _, h => by unfold RepOs at h; rw [h.1]; rfl
  | o :: os, vs, fp, h => by
    unfold RepOs at h
    obtain ⟨v, ws, f1, f2, h1, _, _, h3, _⟩ := h
    rw [h1, List.length_cons, List.length_cons, RepOs.len h3]
theorem RepOs.snoc {o : OV} {v : V} {fx : List Addr} (ho : RepO K cl H G o v fx) : ∀ {os : List OV} {vs : List V} {fp : List Addr}, RepOs K cl H G os vs fp → (∀ b ∈ fx, b ∉ fp) → ∃ fq, RepOs K cl H G (os ++ [o]) (vs ++ [v]) fq ∧ ∀ b ∈ fq, b ∈ fp ∨ b ∈ fx
  | [], vs, fp, h, d => by
    unfold RepOs at h
    rw [h.1]
    refine ⟨fx ++ [], ?_, fun b hb => .inr (by simpa using hb)⟩
    show RepOs K cl H G [o] [v] _
    unfold RepOs
    exact ⟨v, [], fx, [], rfl, rfl, ho, by unfold RepOs; exact ⟨rfl, rfl⟩, fun _ _ z => by cases z⟩
  | o1 :: os, vs, fp, h, d => by
    unfold RepOs at h
    obtain ⟨w, ws, f1, f2, h1, h5, h2, h3, h4⟩ := h
    subst h1; subst h5
    obtain ⟨fq, r1, r2⟩ := RepOs.snoc ho h3 fun b hb z => d b hb (List.mem_append_right _ z)
    refine ⟨f1 ++ fq, ?_, fun b hb => ?_⟩
    · show RepOs K cl H G (o1 :: (os ++ [o])) (w :: (ws ++ [v])) _
      unfold RepOs
      refine ⟨w, _, f1, fq, rfl, rfl, h2, r1, fun b hb z => ?_⟩
      rcases r2 b z with y | y
      · exact h4 b hb y
      · exact d b y (List.mem_append_left _ hb)
    · rcases List.mem_append.mp hb with y | y
      · exact .inl (List.mem_append_left _ y)
      · rcases r2 b y with z | z
        · exact .inl (List.mem_append_right _ z)
        · exact .inr z
/-- a field of the object at an owned place is stored -/
theorem fld_write {c k : Nat} {os os' : List OV} {o : OV} {v : V} {i : Nat} {p : List Nat} (r : R K cl β σ H G env Z) (hp : ∀ f ∈ p, f < 60) (hk : k < 38) (h : ownP env i p = some (.obj c os)) (hv : RepO K cl H G o v Z) (hput : putO c k os o = some os') :
    ∃ v0 a dx vs, σ[i]? = some (some v0) ∧ PAt K H v0 p (.ref a) ∧ H a = some (.ins (cl c) dx (nf c vs)) ∧ (Cls K (cl c) ∧ NoAttr K (cl c) (fn k)) ∧ (∀ o1, os[(ixOf (fsOf c) k).getD 0]? = some o1 → ∃ u fu, (nf c vs).lookup (fn k) = some u ∧ RepO K cl H G o1 u fu) ∧
      R K cl β σ (upd H a (.ins (cl c) dx (putF (fn k) v (nf c vs)))) G (setP env i p (.obj c os')) [] := by
  obtain ⟨v0, w, f1, h1, h2, h3, h4, h5, h6⟩ := r.write hp h
  unfold RepO at h3
  obtain ⟨a, dx, vs, fq, rfl, rfl, y1, y2, y3, y4⟩ := h3
  have ga : G a = none := h4 a List.mem_cons_self
  have gk : Same G (upd H a (.ins (cl c) dx (putF (fn k) v (nf c vs)))) := fun b u q => upd_off (fun z => by subst z; rw [ga] at q; cases q) (r.gh b u q)
  have hl := RepOs.len y3
  unfold putO at hput
  cases e : ixOf (fsOf c) k with
  | none => rw [e] at hput; cases hput
  | some j =>
    rw [e] at hput
    have zx : ∀ b ∈ Z, b ∉ fq := fun b hb z => h5 b (List.mem_cons_of_mem _ z) hb
    have az : a ∉ Z := fun z => h5 a List.mem_cons_self z
    have others : ∀ b, b ∉ a :: fq → ∀ u, H b = some u → upd H a (.ins (cl c) dx (putF (fn k) v (nf c vs))) b = some u := fun b hb u q => upd_off (fun z => hb (by rw [z]; exact List.mem_cons_self)) q
    have fqn : ∀ b ∈ fq, b ≠ a := fun b hb z => y4 (z ▸ hb)
    cases hb : Nat.blt j os.length with
    | true =>
      simp only [hb] at hput; cases hput
      have hj : j < os.length := Nat.le_of_ble_eq_true hb
      obtain ⟨u, fk, u1, u2, u3, u4⟩ := RepOs.get y3 (show os[j]? = some os[j] by simp [hj])
      have hputF : putF (fn k) v (nf c vs) = nf c (vs.set j v) := put_zip hk _ _ _ (fs_lt c) e (by omega)
      refine ⟨v0, a, dx, vs, h1, h2, y1, y2.at e, fun o1 ho1 => ⟨u, fk, nf_look e u1, ?_⟩, ?_⟩
      · have ho1' : os[j]? = some o1 := ho1
        rw [show os[j]? = some os[j] by simp [hj]] at ho1'
        cases ho1'
        exact u2
      · -- the stored field replaces the old one
        obtain ⟨fq', t1, t2⟩ := u4 (upd H a (.ins (cl c) dx (putF (fn k) v (nf c vs)))) G o Z v (Same.refl _) (fun b hb hn u hu => upd_off (fqn b hb) hu) (RepO.frame (Same.refl _) _ _ _ (fun b hb u hu => upd_off (fun z => az (by rw [← z]; exact hb)) hu) hv) fun b hb z => absurd z (zx b hb)
        have ia : a ∉ fq' := fun z => by
          rcases t2 a z with y | y
          · exact az y
          · exact y4 y.1
        refine h6 _ G (.obj c (os.set j o)) (a :: fq') (Same.refl _) gk others (fun b _ q => q) ?_ (fun b hb => ?_) (fun b hb => ?_)
        · unfold RepO
          refine ⟨a, dx, vs.set j v, fq', rfl, rfl, by rw [upd_same, hputF], by rw [List.length_set]; exact y2, t1, ia⟩
        · rcases List.mem_cons.mp hb with rfl | hb
          · exact .inl List.mem_cons_self
          · rcases t2 b hb with y | y
            · exact .inr (.inl y)
            · exact .inl (List.mem_cons_of_mem _ y.1)
        · rcases List.mem_cons.mp hb with rfl | hb
          · exact ga
          · rcases t2 b hb with y | y
            · exact r.xn b y
            · exact h4 b (List.mem_cons_of_mem _ y.1)
    | false =>
      simp only [hb] at hput
      cases hb2 : Nat.beq j os.length with
      | false => simp only [hb2] at hput; cases hput
      | true =>
        simp only [hb2] at hput; cases hput
        have hj : j = os.length := Nat.eq_of_beq_eq_true hb2
        have hputF : putF (fn k) v (nf c vs) = nf c (vs ++ [v]) := put_new hk _ _ (fs_lt c) (by rw [e, hl, hj])
        refine ⟨v0, a, dx, vs, h1, h2, y1, y2.at e, fun o1 ho1 => ?_, ?_⟩
        · have ho1' : os[j]? = some o1 := ho1
          rw [hj] at ho1'
          simp at ho1'
        · have y3' : RepOs K cl (upd H a (.ins (cl c) dx (putF (fn k) v (nf c vs)))) G os vs fq := RepOs.frame (Same.refl _) _ _ _ (fun b hb u hu => upd_off (fqn b hb) hu) y3
          obtain ⟨fq', t1, t2⟩ := RepOs.snoc (RepO.frame (Same.refl _) _ _ _ (fun b hb u hu => upd_off (fun z => az (by rw [← z]; exact hb)) hu) hv) y3' zx
          have ia : a ∉ fq' := fun z => by
            rcases t2 a z with y | y
            · exact y4 y
            · exact az y
          refine h6 _ G (.obj c (os ++ [o])) (a :: fq') (Same.refl _) gk others (fun b _ q => q) ?_ (fun b hb => ?_) (fun b hb => ?_)
          · unfold RepO
            refine ⟨a, dx, vs ++ [v], fq', rfl, rfl, by rw [upd_same, hputF], ⟨?_, y2.2⟩, t1, ia⟩
            have := ixOf_lt e
            simp only [List.length_append, List.length_cons, List.length_nil]
            omega
          · rcases List.mem_cons.mp hb with rfl | hb
            · exact .inl List.mem_cons_self
            · rcases t2 b hb with y | y
              · exact .inl (List.mem_cons_of_mem _ y)
              · exact .inr (.inl y)
          · rcases List.mem_cons.mp hb with rfl | hb
            · exact ga
            · rcases t2 b hb with y | y
              · exact h4 b (List.mem_cons_of_mem _ y)
              · exact r.xn b y
end
section
variable {X : Cx} {cl : Nat → Addr} {W : WX} {a b c e : Expr} {es : List Expr} {fa fb fc : EX} {qa qb qc : QX} {ta tb : TX} {ga : AX} {na : NX} {xa : XX} {pos p : Pos} {x : Str} {st : Stmt} {sts sts2 : List Stmt} {s t : SX} {g : GX} {gs : GXs}
def setF (i : Nat) (p : List Nat) (k : Nat) (xa : XX) : SX := fun env kk => xa env (fun o env2 => match ownP env2 i p with
  | some (.obj c os) => match putO c k os o with
    | some os' => kk.nx (setP env2 i p (.obj c os'))
    | none => False
  | _ => False) kk.ex
theorem ms_setF (k : Nat) {o value : Expr} {f : Str} {i : Nat} {pl : List Nat} {pos' : Pos} (ho : MP X o i pl) (hv : MX X cl W value xa) (hf : fn k = f := by rfl) (hk : Nat.blt k 38 = true := by rfl) (hp : fld38 pl = true := by rfl) (hs : swapsWith value (some (.Attribute o f pos')) pos.line X.env = pure false := by rfl) :
    MS X cl W (.Assign [.Attribute o f pos'] value pos) (setF i pl k xa) := by
  refine ⟨fun env kk kk' l q => hv.mo _ _ _ _ _ (fun o e z => ?_) l.ex q, PSmono (ps_fld ho hv.pe hs) fun D σ H ⟨β, G, env, r0, q⟩ => ?_⟩
  · split at z
    · split at z
      · exact l.nx _ z
      · exact z.elim
    · exact z.elim
  · refine ⟨β, G, env, r0, hv.mo _ _ _ _ _ (fun o e z v H' G' X' r' gg ro => ?_) (fun _ z => z) q⟩
    split at z
    · rename_i c os hown
      split at z
      · rename_i os' hput
        subst hf
        obtain ⟨v0, a, dx, vs, y1, y2, y3, y4, _, y6⟩ := fld_write r' (fld38_out hp) (Nat.le_of_ble_eq_true hk) hown ro hput
        exact ⟨v0, .ref a, y1, y2, a, cl c, dx, _, rfl, y3, y4.1, y4.2, nf_len, z _ _ G' y6 gg⟩
      · exact z.elim
    · exact z.elim
def augF (i : Nat) (p : List Nat) (k : Nat) (gg : OV → OV → (MV → Prop) → Prop) (qa : QX) : SX := fun env kk => match ownP env i p with
  | some (.obj c os) => match ixOf (fsOf c) k with
    | some j => match os[j]? with
      | some (.fro m) => qa env fun n => gg (.fro m) n fun r => match putO c k os (.fro r) with
        | some os' => kk.nx (setP env i p (.obj c os'))
        | none => False
      | _ => False
    | none => False
  | _ => False
theorem ms_augF (k : Nat) {op : Operator} {gg : OV → OV → (MV → Prop) → Prop} (hg : GI X cl op gg) {o value : Expr} {f : Str} {i : Nat} {pl : List Nat} {tpos : Pos} (ho : MP X o i pl) (hv : MQ X cl value qa) (hf : fn k = f := by rfl) (hk : Nat.blt k 38 = true := by rfl) (hp : fld38 pl = true := by rfl) :
    MS X cl W (.AugAssign (.Attribute o f tpos) op value pos) (augF i pl k gg qa) := by
  obtain ⟨rr, hop, h⟩ := hg.ex
  refine ⟨fun env kk kk' l q => ?_, PSmono (ps_fldaug ho hv.pe (fun pins s σ H x y u v Q I rx ry q => hop pins s σ H x y u v Q I rx ry q)) fun D σ H ⟨β, G, env, r0, q⟩ => ?_⟩
  · unfold augF at q ⊢
    split at q
    · split at q
      · split at q
        · refine hv.mo _ _ _ (fun n z => hg.mo _ _ _ _ (fun r w => ?_) z) q
          split at w
          · exact l.nx _ w
          · exact w.elim
        · exact q.elim
      · exact q.elim
    · exact q.elim
  · unfold augF at q
    split at q
    · rename_i c os hown
      split at q
      · rename_i j hj
        split at q
        · rename_i m hm
          subst hf
          have hk' := Nat.le_of_ble_eq_true hk
          have hjl : j < os.length := (List.getElem?_eq_some_iff.mp hm).1
          have hput : ∀ r, putO c k os (.fro r) = some (os.set j (.fro r)) := fun r => by
            unfold putO
            rw [hj]
            have : Nat.blt j os.length = true := Nat.ble_eq_true_of_le hjl
            simp only [this]
          obtain ⟨v0, a, dx, vs, y1, y2, y3, y4, y5, _⟩ := fld_write (Z := []) r0 (fld38_out hp) hk' hown (show RepO X.K cl H G (.fro .non) .non [] from rn) (hput _)
          obtain ⟨u, fu, z1, z2⟩ := y5 (.fro m) (by rw [hj]; exact hm)
          unfold RepO at z2
          refine ⟨v0, .ref a, y1, y2, a, cl c, dx, _, u, rfl, y3, y4.1, y4.2, z1, β, G, env, r0, hv.mo _ _ _ (fun n z w H' G' e rw => ?_) q⟩
          refine h m n u w H' G' _ e.gh (Rep.same e.gg _ _ z2.2) rw (hg.mo _ _ _ _ (fun r w' v' H2 G2 e2 r3 => ?_) z)
          have r2 := (r0.ext e).ext e2
          rw [hput r] at w'
          obtain ⟨v0', a', dx', vs', x1, x2, x3, x4, _, x6⟩ := fld_write (Z := []) r2 (fld38_out hp) hk' hown (show RepO X.K cl H2 G2 (.fro r) v' [] by unfold RepO; exact ⟨rfl, r3⟩) (hput r)
          rw [y1] at x1; cases x1
          have := PAt.uniq (PAt.same (e.hh.trans e2.hh) y2) x2
          cases this
          exact ⟨dx', _, x3, nf_len, w' _ _ G2 x6 (e.gg.trans e2.gg)⟩
        · exact q.elim
      · exact q.elim
    · exact q.elim
/-! ### calls that change what is lent -/
def xCall (n : Nat) (F : FX) (ga : AX) : XX := fun env Q _ => ga env fun as => match arSlots env as with
  | some ss => (arOk (muS as) as && Nat.beq as.length n) = true ∧ F ss (fun o env' => match backE env as env' with
    | some env2 => Q o env2
    | none => False) (fun _ => False)
  | none => False
theorem xCall_mo {n : Nat} {F : FX} {ga : AX} (hg : ∀ env (Q Q' : List Ar → Prop), (∀ m, Q m → Q' m) → ga env Q → ga env Q') (hF : FMono F) : ∀ env (Q Q' : OV → Env → Prop) (E E' : Int → Prop), (∀ o e, Q o e → Q' o e) → (∀ n, E n → E' n) → xCall n F ga env Q E → xCall n F ga env Q' E' := fun env Q Q' E E' k _ q => hg _ _ _ (fun as z => by
  cases h : arSlots env as with
  | none => rw [h] at z; exact z
  | some ss =>
    rw [h] at z
    refine ⟨z.1, hF _ _ _ _ _ (fun o e w => ?_) (fun _ w => w) z.2⟩
    split at w
    · exact k _ _ w
    · exact w.elim) q
theorem xCall_in {n : Nat} {F : FX} (mo : FMono F) {σ : L2.St} {β : Bs} {H G H' G' : Hp} {env : Env} {as : List Ar} {vs : List V} {Q : VK} (r0 : R X.K cl β σ H G env []) (e : Ext H G H' G') (rs : ArReps X.K cl σ H' G' as vs)
    (z : match arSlots env as with
      | some ss => (arOk (muS as) as && Nat.beq as.length n) = true ∧ F ss (fun o env' => match backE env as env' with
        | some env2 => ∀ v H' G' X_, R X.K cl β σ H' G' env2 X_ → Same G G' → RepO X.K cl H' G' o v X_ → Q v H'
        | none => False) (fun _ => False)
      | none => False) : sp0 X.K cl n F vs H' Q E0 := by
  cases h : arSlots env as with
  | none => rw [h] at z; exact z.elim
  | some ss =>
    rw [h] at z
    have z1 := z.1
    rw [Bool.and_eq_true] at z1
    obtain ⟨Fl, r1, back, _⟩ := (r0.ext e).callF rs h z1.1
    refine ⟨by rw [rs.len]; exact Nat.eq_of_beq_eq_true z1.2, G', Fl, ss, r1, mo _ _ _ _ _ (fun o env' w v σ' H2 G2 X2 r2 ro => ?_) (fun _ w => w) z.2⟩
    split at w
    · rename_i env2 hb
      exact w v H2 G2 X2 (back _ _ _ _ _ _ r2 hb) (e.gg.trans r2.g0) ro
    · exact w.elim
theorem mx_call {k n : Nat} {f : Addr} {F : FX} (hF : FB X.prog X.w X.K X.mg X.base cl k n f F) (hr : Room k X.A) (gl : Gl X x) (hm : X.mg x = some (.ref f)) (hk : PySem.W.keepIn X.K (.ref f) = true) (ha : MA X cl (e :: es) ga) (hdb : (x == ("__debug__" : Str)) = false := by decide)
    (he : starEach (e :: es) X.env = (false, eval e X.env) :: starEach es X.env := by rfl) (hpl : (backTo pos (starEach es X.env)).any (·.1) = false := by rfl) : MX X cl W (.Call (.Name x p) (e :: es) [] pos) (xCall n F ga) := by
  obtain ⟨fd, ps, F0, hb⟩ := hF.ex
  refine ⟨xCall_mo ha.mo (hF.mo X.A hr), PEmono (pe_call (E := E0) F0 hr gl hm hk hb .nil pass0 ha.pa hdb he hpl) fun σ H Q ⟨β, G, env, r0, q⟩ => ?_⟩
  refine ⟨β, G, env, r0, ha.mo _ _ _ (fun as z vs H' G' e rs => ?_) q⟩
  simp only [List.append_nil]
  exact xCall_in (hF.mo X.A hr) r0 e rs z
theorem mx_meth {k n : Nat} {f : Addr} {F : FX} {rx : RX} {o : Expr} {m : Str} {apos : Pos} {pl : Sem Bool} (c : Nat) (hF : FB X.prog X.w X.K X.mg X.base cl k n f F) (hr : Room k X.A) (hx : MR X cl o rx) (hC : Cls X.K (cl c)) (hM : Meth X.K (cl c) m f) (hno : ∀ f ∈ fsOf c, fn f ≠ m) (ha : MA X cl (e :: es) ga)
    (hst : starEach (e :: es) X.env = (false, eval e X.env) :: starEach es X.env := by rfl) (hpl : (backTo pos (starEach es X.env)).any (·.1) = false := by rfl)
    (ht : eval (.Call (.Attribute o m apos) (e :: es) [] pos) X.env = (do
      let ov ← eval o X.env
      standAt apos.atName
      let (f, first) ← holding [ov] (getMethod ov m pl)
      callWith pos f first (backTo pos (starEach (e :: es) X.env)) (backToKw pos (keywordEach [] X.env))) := by rfl) : MX X cl W (.Call (.Attribute o m apos) (e :: es) [] pos) (xCall n F (rcG c rx ga)) := by
  obtain ⟨fd, ps, F0, hb⟩ := hF.ex
  refine ⟨xCall_mo (rcG_mo hx.mo ha.mo) (hF.mo X.A hr), PEmono (pe_meth (E := E0) hx.pe hC hM F0 hr hb .nil pass0 ha.pa hst hpl ht) fun σ H Q ⟨β, G, env, r0, q⟩ => ?_⟩
  exact meth_in (n := n) hx ha hno r0 (rcG_mo hx.mo ha.mo _ _ _ (fun as z vs H' G' e rs => xCall_in (hF.mo X.A hr) r0 e rs z) q)
theorem mx_meth0 {k n : Nat} {f : Addr} {F : FX} {rx : RX} {o : Expr} {m : Str} {apos : Pos} {pl : Sem Bool} (c : Nat) (hF : FB X.prog X.w X.K X.mg X.base cl k n f F) (hr : Room k X.A) (hx : MR X cl o rx) (hC : Cls X.K (cl c)) (hM : Meth X.K (cl c) m f) (hno : ∀ f ∈ fsOf c, fn f ≠ m)
    (ht : eval (.Call (.Attribute o m apos) [] [] pos) X.env = (do
      let ov ← eval o X.env
      standAt apos.atName
      let (f, first) ← holding [ov] (getMethod ov m pl)
      callWith pos f first (backTo pos (starEach [] X.env)) (backToKw pos (keywordEach [] X.env))) := by rfl) : MX X cl W (.Call (.Attribute o m apos) [] [] pos) (xCall n F (rcG c rx aN)) := by
  obtain ⟨fd, ps, F0, hb⟩ := hF.ex
  have ha : MA X cl [] aN := ma_nil
  refine ⟨xCall_mo (rcG_mo hx.mo ha.mo) (hF.mo X.A hr), PEmono (pe_meth0 (E := E0) hx.pe hC hM F0 hr hb .nil pass0 ht) fun σ H Q ⟨β, G, env, r0, q⟩ => ?_⟩
  obtain ⟨β', G', env', r1, q1⟩ := meth_in (n := n) (sp := sp0 X.K cl n F) (E := E0) hx ha hno r0 (rcG_mo hx.mo ha.mo _ _ _ (fun as z vs H' G' e rs => xCall_in (hF.mo X.A hr) r0 e rs z) q)
  refine ⟨β', G', env', r1, hx.mo _ _ _ (fun r z v H2 G2 e2 rr => ?_) q1⟩
  obtain ⟨a, dx, fs, h1, h2, h3, β3, G3, env3, r3, h4⟩ := z v H2 G2 e2 rr
  exact ⟨a, dx, fs, h1, h2, h3, h4 [] H2 G3 (Ext.refl r3.gh) rfl⟩
/-! tests and comparisons with a call that changes -/
def uX (xa : XX) : UX := fun env Q E => xa env (fun o env2 => truQ o fun k => Q k env2) E
theorem mu_x (ha : MX X cl W a xa) (he : ∀ whole, isTrue a X.env whole = (do let v ← whole; standAt a.pos; holding [v] (truthy v)) := by intro _; rfl) : MU X cl W a (uX xa) := by
  refine ⟨fun env Q Q' E E' k ke q => ha.mo _ _ _ _ _ (fun o e z => truQ_mo (fun b w => k _ _ w) z) ke q, PTmono (pt_truth ha.pe he) fun σ H Q ⟨β, G, env, r0, q⟩ => ?_⟩
  refine ⟨β, G, env, r0, ha.mo _ _ _ _ _ (fun o e z v H' G' X' r' gg ro => ?_) (fun _ z => z) q⟩
  obtain ⟨k, h1, h2⟩ := truQ_rep r'.gh z (RepO.b _ _ _ ro)
  exact ⟨k, h1, h2 H' G' r'.drop gg⟩
def uNot (u : UX) : UX := fun env Q E => u env (fun k e => Q (!k) e) E
theorem mu_not {u : UX} (ha : MU X cl W a u) : MU X cl W (.UnaryOp .Not a pos) (uNot u) :=
  ⟨fun env Q Q' E E' k ke q => ha.mo _ _ _ _ _ (fun b e z => k _ _ z) ke q, PTmono (pt_not ha.pt) fun σ H Q ⟨β, G, env, r0, q⟩ => ⟨β, G, env, r0, q⟩⟩
end
end C
namespace C
open PySem PySem.Spec PyProof.Rows L2
section
variable {X : Cx} {cl : Nat → Addr} {W : WX} {a b c e : Expr} {es : List Expr} {fa fb fc : EX} {qa qb qc : QX} {ta tb : TX} {ga : AX} {na : NX} {xa : XX} {pos p : Pos} {x : Str} {st : Stmt} {sts sts2 : List Stmt} {s t : SX} {g : GX} {gs : GXs}
/-! ### what is walked: a list, a tuple or a text -/
def iAny (K : PySem.W.Frag) (te : TE) : TI := fun σ H R => te σ H fun v H1 => (∃ a, v = .ref a ∧ (∃ xs, SqL K H1 a xs) ∧ R (Itl K a) H1) ∨ (∃ a, v = .ref a ∧ (∃ xs, SqT K H1 a xs) ∧ R (Itt K a) H1) ∨ (∃ z, v = .str z ∧ R (Its z) H1)
theorem pi_any {tg l : Expr} {te : TE} (he : PE X l te) : PI X tg l (iAny X.K te) := by
  refine ⟨fun pins s σ H R I h => ?_⟩
  refine thn (he.run pins s σ H _ I h) fun v s1 ⟨y, H1, I1, r1, q1⟩ => ?_
  rcases q1 with ⟨a, e, ⟨xs, hq⟩, q⟩ | ⟨a, e, ⟨xs, hq⟩, q⟩ | ⟨z, ez, q⟩
  · subst e
    cases r1
    obtain ⟨its, rv, p, hz⟩ := I1.list hq
    refine wpAny_pyIter_list p.isList ?_
    exact pi_one (tk := s1.toks) I1 _ (turn_list a _) ⟨_, Heap.get?_push_size _ rfl, rfl, rfl⟩ q
  · subst e
    cases r1
    obtain ⟨its, rv, p, hz⟩ := I1.tuple hq
    refine wpAny_pyIter_tuple (show s1.heap.IsTuple a its.toArray from p) ?_
    exact pi_one (tk := s1.toks) I1 _ (turn_tuple a _) ⟨_, Heap.get?_push_size _ rfl, rfl, rfl⟩ q
  · subst ez
    obtain ⟨t, rfl⟩ := r1
    cases ha : z.cps.all (· < 128)
    · exact wpAny_pyIter_wide ha (pi_one (tk := s1.toks) I1 _ (turn_str _ z t "str_iterator" (.inr rfl)) ⟨_, Heap.get?_push_size _ rfl, rfl, rfl⟩ q)
    · exact wpAny_pyIter_ascii ha (pi_one (tk := s1.toks) I1 _ (turn_str _ z t "str_ascii_iterator" (.inl rfl)) ⟨_, Heap.get?_push_size _ rfl, rfl, rfl⟩ q)
/-- a text's signs -/
def chM (z : Str) : List MV := z.cps.toList.map fun c => .str ⟨#[c]⟩
theorem it_str {K : PySem.W.Frag} {G KH : Hp} {z : Str} : ItOk K cl (Its z) (chM z) G KH := by
  have l : (chM z).length = z.cps.size := by unfold chM; simp
  refine ⟨(fun i H v H' => H' = H ∧ ∃ c, z.cps[i]? = some c ∧ v = .str ⟨#[c]⟩), ?_, fun i H G1 x H' hi hk hg hh y => ?_⟩
  · rw [l]
    exact (walk_str (z := z)).mono (fun _ _ => trivial) fun i H x H' _ _ y => y
  · obtain ⟨rfl, ch, hc, rfl⟩ := y
    refine ⟨G1, .str ⟨#[ch]⟩, Ext.refl hh, ?_, by unfold Rep; rfl⟩
    unfold chM
    rw [List.getElem?_map, Array.getElem?_toList, hc]; rfl
def asLT (o : OV) (Q : List MV → Prop) : Prop := match o with
  | .fro (.lst ms) => Q ms
  | .fro (.tup ms) => Q ms
  | .fro (.str z) => Q (chM z)
  | .lst ms => Q ms
  | _ => False
theorem asLT_mo {o : OV} {Q Q' : List MV → Prop} (k : ∀ ms, Q ms → Q' ms) (q : asLT o Q) : asLT o Q' := by
  unfold asLT at q ⊢
  split at q <;> first | exact k _ q | exact q.elim
def lA (qa : QX) : LX := fun env Q => qa env fun o => asLT o Q
theorem mj_any {tg : Expr} (h : MQ X cl a qa) : MJ X cl tg a (lA qa) := by
  refine ⟨fun env Q Q' k q => h.mo _ _ _ (fun m z => asLT_mo k z) q, PImono (pi_any h.pe) fun σ H Q ⟨β, G, env, r0, q⟩ => ⟨β, G, env, r0, h.mo _ _ _ (fun o z v H' G' e rv => ?_) q⟩⟩
  unfold asLT at z
  split at z
  · unfold RepB Rep at rv
    obtain ⟨p, vs, rfl, y1, y2⟩ := rv
    exact .inl ⟨p, rfl, ⟨vs, SqL.of (e.gh _ _ y1)⟩, z _ H' G' H' e (Same.refl _) (it_list (e.gh _ _ y1) y2)⟩
  · unfold RepB Rep at rv
    obtain ⟨p, vs, rfl, y1, y2⟩ := rv
    exact .inr (.inl ⟨p, rfl, ⟨vs, sqT_same e.gh y1⟩, z _ H' G' H' e (Same.refl _) (it_tup (sqT_same e.gh y1) y2)⟩)
  · unfold RepB Rep at rv
    subst rv
    exact .inr (.inr ⟨_, rfl, z _ H' G' H' e (Same.refl _) it_str⟩)
  · unfold RepB at rv
    obtain ⟨p, vs, rfl, y1, y2⟩ := rv
    exact .inl ⟨p, rfl, ⟨vs, SqL.of y1⟩, z _ H' G' H' e (Same.refl _) (it_list y1 y2)⟩
  · exact z.elim
def asLM (m : MV) (Q : List MV → Prop) : Prop := match m with
  | .lst ms => Q ms
  | .tup ms => Q ms
  | .str z => Q (chM z)
  | _ => False
theorem asLM_mo {o : MV} {Q Q' : List MV → Prop} (k : ∀ ms, Q ms → Q' ms) (q : asLM o Q) : asLM o Q' := by
  unfold asLM at q ⊢
  split at q <;> first | exact k _ q | exact q.elim
def lW (fa : EX) : LX := fun env Q => fa env fun m => asLM m Q
theorem mi_any {tg : Expr} (h : ME X cl a fa) : MI X cl tg a (lW fa) := by
  refine ⟨fun env Q Q' k q => h.mo _ _ _ (fun m z => asLM_mo k z) q, PImono (pi_any h.pe) fun σ H Q ⟨β, G, env, r0, q⟩ => ⟨β, G, env, r0, h.mo _ _ _ (fun m z v H' G' e rv => ?_) q⟩⟩
  unfold asLM at z
  split at z
  · unfold Rep at rv
    obtain ⟨p, vs, rfl, y1, y2⟩ := rv
    exact .inl ⟨p, rfl, ⟨vs, SqL.of (e.gh _ _ y1)⟩, z _ H' G' G' e (Same.refl _) (it_list y1 y2)⟩
  · unfold Rep at rv
    obtain ⟨p, vs, rfl, y1, y2⟩ := rv
    exact .inr (.inl ⟨p, rfl, ⟨vs, sqT_same e.gh y1⟩, z _ H' G' G' e (Same.refl _) (it_tup y1 y2)⟩)
  · unfold Rep at rv
    subst rv
    exact .inr (.inr ⟨_, rfl, z _ H' G' G' e (Same.refl _) it_str⟩)
  · exact z.elim
/-! ### three names at once -/
def par3 (i j l : Nat) (ga : AX) : SX := fun env k => ga env fun as => match as with
  | [.v m, .v n, .v o] => match setE env i (.fro m) with
    | some e1 => match setE e1 j (.fro n) with
      | some e2 => match setE e2 l (.fro o) with
        | some e3 => k.nx e3
        | none => False
      | none => False
    | none => False
  | _ => False
theorem ms_par3 (i j l : Nat) {y w : Str} {px py pz pt : Pos} {kt k2 pt2} (hc : X.calm = true) (hN : X.N.Nodup) (ha : MA X cl [a, b, c] ga) (hw : swappedStores [.Tuple [.Name x px, .Name y py, .Name w pz] kt pt] (.Tuple [a, b, c] k2 pt2) X.env = pure (some [x, y, w])) (hi : X.N[i]? = some x := by rfl) (hj : X.N[j]? = some y := by rfl) (hl : X.N[l]? = some w := by rfl) (hij : i ≠ j := by decide) (hil : i ≠ l := by decide) (hjl : j ≠ l := by decide)
    (hx : X.env.scope.names.lookup x = some .local := by rfl) (hy : X.env.scope.names.lookup y = some .local := by rfl) (hz : X.env.scope.names.lookup w = some .local := by rfl)
    (hs : swapsWithSole [.Tuple [.Name x px, .Name y py, .Name w pz] kt pt] (.Tuple [a, b, c] k2 pt2) pos.line X.env = pure false := by rfl) : MS X cl W (.Assign [.Tuple [.Name x px, .Name y py, .Name w pz] kt pt] (.Tuple [a, b, c] k2 pt2) pos) (par3 i j l ga) := by
  refine ⟨fun env k k' l q => ha.mo _ _ _ (fun as z => ?_) q, PSmono (ps_par3 hc hN hi hj hl hij hil hjl hx hy hz ha.pa hw hs) fun D σ H ⟨β, G, env, r0, q⟩ => ⟨β, G, env, r0, ha.mo _ _ _ (fun as z vs H' G' e rs => ?_) q⟩⟩
  · split at z
    · split at z
      · split at z
        · split at z
          · exact l.nx _ z
          · exact z.elim
        · exact z.elim
      · exact z.elim
    · exact z.elim
  · split at z
    · rename_i m n o
      unfold ArReps at rs
      obtain ⟨v, ws, rfl, y1, y2⟩ := rs
      unfold ArReps at y2
      obtain ⟨w, ws, rfl, y3, y4⟩ := y2
      unfold ArReps at y4
      obtain ⟨u, ws, rfl, y5, y6⟩ := y4
      unfold ArReps at y6
      subst y6
      have y1' : Rep X.K cl G' m v := y1
      have y3' : Rep X.K cl G' n w := y3
      have y5' : Rep X.K cl G' o u := y5
      refine ⟨v, w, u, rfl, ?_⟩
      cases h : setE env i (.fro m) with
      | none => rw [h] at z; exact z.elim
      | some e1 =>
        rw [h] at z
        cases h2 : setE e1 j (.fro n) with
        | none => simp only [h2] at z
        | some e2 =>
          simp only [h2] at z
          cases h3 : setE e2 l (.fro o) with
          | none => simp only [h3] at z
          | some e3 =>
            simp only [h3] at z
            obtain ⟨t1, rfl⟩ := setE_out h
            obtain ⟨t2, rfl⟩ := setE_out h2
            obtain ⟨t3, rfl⟩ := setE_out h3
            exact z _ H' G' ((((r0.ext e).setv t1 (by unfold RepO; exact ⟨rfl, y1'⟩)).setv t2 (by unfold RepO; exact ⟨rfl, y3'⟩)).setv t3 (by unfold RepO; exact ⟨rfl, y5'⟩)) e.gg
    · exact z.elim
/-! an if whose ends are joined -/
inductive ifJ (t : UX) (s u : SX) (env : Env) (k : KK) : Prop where
  | mk (h : ifS t s u env k) : ifJ t s u env k
theorem ifJ_eq {t : UX} {s u : SX} : ifJ t s u = ifS t s u := funext fun _ => funext fun _ => propext ⟨fun h => match h with | .mk h => h, .mk⟩
theorem ms_ifJ {t : UX} {s u : SX} (hc : MU X cl W c t) (h1 : MSs X cl W sts s) (h2 : MSs X cl W sts2 u) : MS X cl W (.If c sts sts2 pos) (ifJ t s u) := by
  rw [ifJ_eq]
  exact ms_if hc h1 h2
theorem if_join {t : UX} {s u : SX} {env : Env} {k : KK} (J : Env → Prop) (h : ∀ N : Env → Prop, (∀ e, J e → N e) → ifS t s u env { k with nx := N }) (h2 : ∀ e, J e → k.nx e) : ifJ t s u env k := .mk (h _ h2)
theorem if_go {t : UX} {s u : SX} {env : Env} {k : KK} (h : ifS t s u env k) : ifJ t s u env k := .mk h
/-! a power of two literals -/
theorem m_powK {i j n : Int} {fk : EX} (h : ME X cl e fk) (hf : ∀ env Q, fk env Q = (CPow i j ∧ Q (.int (i ^ j.toNat))) := by intro _ _; rfl) (hn : i ^ j.toNat = n := by decide) (hc : CPow i j := by exact ⟨by decide, by decide, by decide⟩) : ME X cl e (eK (.int n)) :=
  ⟨fun env Q Q' k q => k _ q, PEmono h.pe fun σ H Q ⟨β, G, env, r0, q⟩ => ⟨β, G, env, r0, by rw [hf]; subst hn; exact ⟨hc, q⟩⟩⟩
/-! one after another, the names' row written out in between -/
def forceL : Env → (Env → Prop) → Prop
  | [], k => k []
  | a :: as, k => forceL as fun as' => k (a :: as')
theorem forceL_eq : ∀ (l : Env) (k : Env → Prop), forceL l k = k l
  | [], k => rfl
  | a :: as, k => by
    unfold forceL
    rw [forceL_eq as]
def sqF (s t : SX) : SX := fun env k => s env { k with nx := fun env' => forceL env' fun e => t e k }
theorem sqF_eq : sqF s t = sq s t := by
  funext env k
  unfold sqF sq
  congr
  funext e
  rw [forceL_eq]
theorem mss_consF (h1 : MS X cl W st s) (h2 : MSs X cl W sts t) : MSs X cl W (st :: sts) (sqF s t) := by
  rw [sqF_eq]
  exact mss_cons h1 h2
end
end C
namespace C
open PySem PySem.Spec PyProof.Rows L2
/-! ### == of nested numbers and texts -/
def Pl : Nat → MV → Prop
  | _, .non => True
  | _, .int _ => True
  | _, .str x => PyData.canLay0 (.str x) = true
  | k + 1, .tup ms => ∀ m ∈ ms, Pl k m
  | k + 1, .lst ms => ∀ m ∈ ms, Pl k m
  | _, _ => False
theorem pl_all {k : Nat} (ih : ∀ m, Pl k m → ∃ d, toD m = some d ∧ d.canLay0 = true ∧ d.depth ≤ k ∧ ∀ j n e, Pl j n → toD n = some e → (PyData.eqv d e = true ↔ m = n)) :
    ∀ ms : List MV, (∀ m ∈ ms, Pl k m) → ∃ ds, toDs ms = some ds ∧ PyData.canLayAll0 ds = true ∧ PyData.depthAll ds ≤ k ∧ ∀ j ns es, (∀ n ∈ ns, Pl j n) → toDs ns = some es → (PyData.eqvAll ds es = true ↔ ms = ns)
  | [], _ => ⟨[], by unfold toDs; rfl, by unfold PyData.canLayAll0; rfl, by unfold PyData.depthAll; omega, fun j ns es hn he => by
    cases ns with
    | nil => unfold toDs at he; cases he; unfold PyData.eqvAll; simp
    | cons n ns =>
      unfold toDs at he
      split at he
      · split at he
        · cases he; unfold PyData.eqvAll; simp
        · cases he
      · cases he⟩
  | m :: ms, h => by
    obtain ⟨d, h1, h2, h3, h4⟩ := ih m (h m List.mem_cons_self)
    obtain ⟨ds, g1, g2, g3, g4⟩ := pl_all ih ms fun x hx => h x (List.mem_cons_of_mem _ hx)
    refine ⟨d :: ds, by unfold toDs; rw [h1, g1], by unfold PyData.canLayAll0; rw [h2, g2]; rfl, by unfold PyData.depthAll; omega, fun j ns es hn he => ?_⟩
    cases ns with
    | nil => unfold toDs at he; cases he; unfold PyData.eqvAll; simp
    | cons n ns =>
      unfold toDs at he
      split at he
      · rename_i e1 q1
        split at he
        · rename_i es1 q2
          cases he
          unfold PyData.eqvAll
          rw [Bool.and_eq_true, h4 j n e1 (hn n List.mem_cons_self) q1, g4 j ns es1 (fun x hx => hn x (List.mem_cons_of_mem _ hx)) q2]
          simp
        · cases he
      · cases he
theorem toD_kind : ∀ (n : MV) (e : PyData), toD n = some e → (n = .non ∧ e = .none) ∨ (∃ b, n = .bl b ∧ e = .bool b) ∨ (∃ i, n = .int i ∧ e = .int i) ∨ (∃ x, n = .str x ∧ e = .str x) ∨ (∃ ns es, n = .lst ns ∧ e = .list es ∧ toDs ns = some es) ∨ (∃ ns es, n = .tup ns ∧ e = .tuple es ∧ toDs ns = some es) := by
  intro n e h
  cases n with
  | non => unfold toD at h; cases h; exact .inl ⟨rfl, rfl⟩
  | bl b => unfold toD at h; cases h; exact .inr (.inl ⟨_, rfl, rfl⟩)
  | int i => unfold toD at h; cases h; exact .inr (.inr (.inl ⟨_, rfl, rfl⟩))
  | str x => unfold toD at h; cases h; exact .inr (.inr (.inr (.inl ⟨_, rfl, rfl⟩)))
  | lst ns =>
    unfold toD at h
    split at h
    · rename_i ds q; cases h; exact .inr (.inr (.inr (.inr (.inl ⟨_, _, rfl, rfl, q⟩))))
    · cases h
  | tup ns =>
    unfold toD at h
    split at h
    · rename_i ds q; cases h; exact .inr (.inr (.inr (.inr (.inr ⟨_, _, rfl, rfl, q⟩))))
    · cases h
  | obj c os => unfold toD at h; cases h
  | fn _ => unfold toD at h; cases h
  | dct _ _ => unfold toD at h; cases h
theorem pl_kids {j : Nat} {ns : List MV} (h : Pl j (.lst ns) ∨ Pl j (.tup ns)) : ∃ i, ∀ n ∈ ns, Pl i n := by
  cases j with
  | zero => rcases h with h | h <;> exact absurd h (by unfold Pl; exact fun z => z)
  | succ j =>
    rcases h with h | h
    · unfold Pl at h; exact ⟨j, h⟩
    · unfold Pl at h; exact ⟨j, h⟩
theorem pl_one : ∀ (k : Nat) (m : MV), Pl k m → ∃ d, toD m = some d ∧ d.canLay0 = true ∧ d.depth ≤ k ∧ ∀ j n e, Pl j n → toD n = some e → (PyData.eqv d e = true ↔ m = n) := by
  intro k
  induction k with
  | zero =>
    intro m hm
    cases m with
    | non =>
      refine ⟨.none, by unfold toD; rfl, by unfold PyData.canLay0; rfl, by unfold PyData.depth; omega, fun j n e hn he => ?_⟩
      rcases toD_kind n e he with ⟨rfl, rfl⟩ | ⟨_, rfl, rfl⟩ | ⟨_, rfl, rfl⟩ | ⟨_, rfl, rfl⟩ | ⟨_, _, rfl, rfl, _⟩ | ⟨_, _, rfl, rfl, _⟩ <;> unfold PyData.eqv <;> simp
    | int i =>
      refine ⟨.int i, by unfold toD; rfl, by unfold PyData.canLay0; rfl, by unfold PyData.depth; omega, fun j n e hn he => ?_⟩
      rcases toD_kind n e he with ⟨rfl, rfl⟩ | ⟨_, rfl, rfl⟩ | ⟨_, rfl, rfl⟩ | ⟨_, rfl, rfl⟩ | ⟨_, _, rfl, rfl, _⟩ | ⟨_, _, rfl, rfl, _⟩ <;> first | (unfold PyData.eqv; simp; done) | (cases j <;> exact absurd hn (by unfold Pl; exact fun z => z))
    | str x =>
      have hx : PyData.canLay0 (.str x) = true := by unfold Pl at hm; exact hm
      refine ⟨.str x, by unfold toD; rfl, hx, by unfold PyData.depth; omega, fun j n e hn he => ?_⟩
      rcases toD_kind n e he with ⟨rfl, rfl⟩ | ⟨_, rfl, rfl⟩ | ⟨_, rfl, rfl⟩ | ⟨_, rfl, rfl⟩ | ⟨_, _, rfl, rfl, _⟩ | ⟨_, _, rfl, rfl, _⟩ <;> unfold PyData.eqv <;> simp
    | bl b => exact absurd hm (by unfold Pl; exact fun z => z)
    | lst ms => exact absurd hm (by unfold Pl; exact fun z => z)
    | tup ms => exact absurd hm (by unfold Pl; exact fun z => z)
    | obj c os => exact absurd hm (by unfold Pl; exact fun z => z)
    | fn _ => exact absurd hm (by unfold Pl; exact fun z => z)
    | dct _ _ => exact absurd hm (by unfold Pl; exact fun z => z)
  | succ k ih =>
    intro m hm
    cases m with
    | non =>
      obtain ⟨d, h1, h2, h3, h4⟩ := ih .non (by unfold Pl; trivial)
      exact ⟨d, h1, h2, by omega, h4⟩
    | int i =>
      obtain ⟨d, h1, h2, h3, h4⟩ := ih (.int i) (by unfold Pl; trivial)
      exact ⟨d, h1, h2, by omega, h4⟩
    | str x =>
      obtain ⟨d, h1, h2, h3, h4⟩ := ih (.str x) (by unfold Pl at hm ⊢; exact hm)
      exact ⟨d, h1, h2, by omega, h4⟩
    | bl b => exact absurd hm (by unfold Pl; exact fun z => z)
    | obj c os => exact absurd hm (by unfold Pl; exact fun z => z)
    | fn _ => exact absurd hm (by unfold Pl; exact fun z => z)
    | dct _ _ => exact absurd hm (by unfold Pl; exact fun z => z)
    | lst ms =>
      have hm' : ∀ m ∈ ms, Pl k m := by unfold Pl at hm; exact hm
      obtain ⟨ds, g1, g2, g3, g4⟩ := pl_all ih ms hm'
      refine ⟨.list ds, by unfold toD; rw [g1], by unfold PyData.canLay0; exact g2, by unfold PyData.depth; omega, fun j n e hn he => ?_⟩
      rcases toD_kind n e he with ⟨rfl, rfl⟩ | ⟨_, rfl, rfl⟩ | ⟨_, rfl, rfl⟩ | ⟨_, rfl, rfl⟩ | ⟨ns, es, rfl, rfl, q⟩ | ⟨_, _, rfl, rfl, _⟩
      all_goals unfold PyData.eqv
      · simp
      · simp
      · simp
      · simp
      · obtain ⟨i, hi⟩ := pl_kids (.inl hn)
        rw [g4 i ns es hi q]
        simp
      · simp
    | tup ms =>
      have hm' : ∀ m ∈ ms, Pl k m := by unfold Pl at hm; exact hm
      obtain ⟨ds, g1, g2, g3, g4⟩ := pl_all ih ms hm'
      refine ⟨.tuple ds, by unfold toD; rw [g1], by unfold PyData.canLay0; exact g2, by unfold PyData.depth; omega, fun j n e hn he => ?_⟩
      rcases toD_kind n e he with ⟨rfl, rfl⟩ | ⟨_, rfl, rfl⟩ | ⟨_, rfl, rfl⟩ | ⟨_, rfl, rfl⟩ | ⟨_, _, rfl, rfl, _⟩ | ⟨ns, es, rfl, rfl, q⟩
      all_goals unfold PyData.eqv
      · simp
      · simp
      · simp
      · simp
      · simp
      · obtain ⟨i, hi⟩ := pl_kids (.inr hn)
        rw [g4 i ns es hi q]
        simp
/-- a value as it is compared -/
def asM : OV → MV
  | .fro m => m
  | .lst ms => .lst ms
  | _ => .bl true
theorem eqD_go {neg : Bool} {m n : OV} {Q : Bool → Prop} (hm : Pl 60 (asM m)) (hn : Pl 60 (asM n)) (q : eqQ neg (asM m = asM n) Q) : gEqD neg m n Q := by
  obtain ⟨d, h1, h2, h3, h4⟩ := pl_one _ _ hm
  obtain ⟨e, g1, g2, g3, _⟩ := pl_one _ _ hn
  have t : ∀ o, Pl 60 (asM o) → toDO o = toD (asM o) := fun o ho => by
    cases o with
    | fro m => rfl
    | lst ms => rfl
    | _ => exact absurd ho (by unfold asM Pl; exact fun z => z)
  refine .mk d e ((t m hm).trans h1) ((t n hn).trans g1) ⟨by unfold SeqAt.shaped; rw [h2]; simpa using (by omega : d.depth ≤ 64), by unfold SeqAt.shaped; rw [g2]; simpa using (by omega : e.depth ≤ 64)⟩ ?_
  rw [propext (h4 60 (asM n) e hn g1)]
  exact q
theorem pl_ints {k : Nat} (xs : List Int) : Pl (k + 1) (.lst (xs.map .int)) := by
  unfold Pl
  intro m hm
  obtain ⟨i, _, rfl⟩ := List.mem_map.mp hm
  unfold Pl
  trivial
end C
namespace C
open PySem PySem.Spec PyProof.Rows L2
theorem cdiv_of {i j : Int} (h : 0 < j) (h2 : j < 2 ^ 4000) : CDivW i j := by
  refine ⟨h, ?_⟩
  have : j.natAbs < 2 ^ 4000 := by omega
  have := PySem.Flt.log2_lt_of (by decide : 0 < 4000) this
  omega
theorem lt_line {n : Nat} (h : n < 16000000) : n < sizeLine := Nat.lt_of_lt_of_le h (by decide)
theorem le_line {n : Nat} (h : n < 16000000) : n ≤ sizeLine := Nat.le_of_lt (lt_line h)
theorem smallof {i : Int} (h : -(2 ^ 62) ≤ i) (h2 : i < 2 ^ 62) : small i := ⟨h, h2⟩
theorem line1000 {n : Nat} (h : Nat.ble n 1000 = true) : n ≤ sizeLine := Nat.le_trans (Nat.le_of_ble_eq_true h) (by decide)
def cell (ns : List Int) (k : Int) : Int := ns.getD k.toNat 0
theorem dB_yes {p : Prop} (h : p) : dB p = true := by
  haveI := Classical.propDecidable p
  rw [dB_eq]; exact decide_eq_true h
theorem dB_no {p : Prop} (h : ¬ p) : dB p = false := by
  haveI := Classical.propDecidable p
  rw [dB_eq]; exact decide_eq_false h
theorem mdec {p : Prop} {A B : Prop} : (p → A) → (¬ p → B) → (match dB p with | true => A | false => B) := by
  intro h1 h2
  by_cases h : p
  · rw [dB_yes h]; exact h1 h
  · rw [dB_no h]; exact h2 h
theorem mdec_yes {p : Prop} {A B : Prop} (h : p) (a : A) : (match dB p with | true => A | false => B) := by rw [dB_yes h]; exact a
theorem mdec_no {p : Prop} {A B : Prop} (h : ¬ p) (a : B) : (match dB p with | true => A | false => B) := by rw [dB_no h]; exact a
theorem mndec_yes {p : Prop} {A B : Prop} (h : p) (b : B) : (match !dB p with | true => A | false => B) := by rw [dB_yes h]; exact b
theorem mndec_no {p : Prop} {A B : Prop} (h : ¬ p) (a : A) : (match !dB p with | true => A | false => B) := by rw [dB_no h]; exact a
theorem mndec {p : Prop} {A B : Prop} : (¬ p → A) → (p → B) → (match !dB p with | true => A | false => B) := by
  intro h1 h2
  by_cases h : p
  · rw [dB_yes h]; exact h2 h
  · rw [dB_no h]; exact h1 h
theorem mnot {b : Bool} {A B : Prop} : (b = false → A) → (b = true → B) → (match !b with | true => A | false => B) := by
  intro h1 h2
  cases b
  · exact h1 rfl
  · exact h2 rfl
theorem mbool {b : Bool} {A B : Prop} : (b = true → A) → (b = false → B) → (match b with | true => A | false => B) := by
  intro h1 h2
  cases b
  · exact h2 rfl
  · exact h1 rfl
theorem mxf {p : Prop} {A B : Prop} : (p → A) → (¬ p → B) → (match dB p with | true => A | false => B) := mdec
theorem mxt {p : Prop} {A B : Prop} : (¬ p → A) → (p → B) → (match dB (¬ p) with | true => A | false => B) := fun h1 h2 => mdec h1 fun h => h2 (Classical.not_not.mp h)
theorem atI_scr {ns : List Int} {k : Int} (h0 : 0 ≤ k) (h : k < ns.length) : atI (scrOf ns) k = some (.int (cell ns k)) := by
  obtain ⟨j, rfl⟩ := Int.eq_ofNat_of_zero_le h0
  refine atI_nat ?_
  unfold scrOf cell
  have hj : j < ns.length := by omega
  simp [hj]
theorem at_go {xs : List Int} {i : Int} {Q : MV → Prop} (h0 : 0 ≤ i) (h1 : i < xs.length) (q : Q (.int (cell xs i))) : gAt (xs.map MV.int) i Q := by
  have e : atI (xs.map MV.int) i = some (.int (cell xs i)) := atI_scr h0 h1
  exact .mk _ e q
theorem at_goN {xs : List Int} {i : Int} {Q : MV → Prop} (h0 : i < 0) (h1 : 0 ≤ i + xs.length) (q : Q (.int (cell xs (i + xs.length)))) : gAt (xs.map MV.int) i Q := by
  have e : atI (xs.map MV.int) i = some (.int (cell xs (i + xs.length))) := by
    have e1 : atI (xs.map MV.int) (i + xs.length) = some (.int (cell xs (i + xs.length))) := atI_scr h1 (by omega)
    rw [← e1]
    unfold atI
    have e2 : ixN (xs.map MV.int).length i = ixN (xs.map MV.int).length (i + xs.length) := by
      unfold ixN
      rw [List.length_map]
      rw [if_neg (by omega), if_pos (by omega), if_pos h1, if_pos (by omega)]
    rw [e2]
  exact .mk _ e q
theorem gl0 {m : MV} {ms : List MV} {Q : MV → Prop} (q : Q m) : gAt (m :: ms) 0 Q := by
  exact .mk _ (show atI (m :: ms) ((0 : Nat) : Int) = some m from atI_nat rfl) q
theorem gl1 {m n : MV} {ms : List MV} {Q : MV → Prop} (q : Q n) : gAt (m :: n :: ms) 1 Q := by
  exact .mk _ (show atI (m :: n :: ms) ((1 : Nat) : Int) = some n from atI_nat rfl) q
theorem gl2 {m n o : MV} {ms : List MV} {Q : MV → Prop} (q : Q o) : gAt (m :: n :: o :: ms) 2 Q := by
  exact .mk _ (show atI (m :: n :: o :: ms) ((2 : Nat) : Int) = some o from atI_nat rfl) q
theorem gl3 {m n o p : MV} {ms : List MV} {Q : MV → Prop} (q : Q p) : gAt (m :: n :: o :: p :: ms) 3 Q := by
  exact .mk _ (show atI (m :: n :: o :: p :: ms) ((3 : Nat) : Int) = some p from atI_nat rfl) q
theorem cell_mem {xs : List Int} {i : Int} (h0 : 0 ≤ i) (h1 : i < xs.length) : cell xs i ∈ xs := by
  unfold cell
  rw [List.getD_eq_getElem?_getD, List.getElem?_eq_getElem (show i.toNat < xs.length by omega)]
  exact List.getElem_mem _
theorem at_lit (xs : List Int) {i : Int} {Q : MV → Prop} (h0 : 0 ≤ i) (h1 : i < xs.length) (q : ∀ v ∈ xs, Q (.int v)) : gAt (xs.map MV.int) i Q :=
  at_go h0 h1 (q _ (cell_mem h0 h1))
/-- a for, by what holds before its i-th turn -/
theorem for_inv {g : GX} {s : SX} {k : KK} {ms : List MV} {env : Env} (I : Nat → Env → Prop) (h0 : I 0 env) (hend : ∀ e, I ms.length e → k.nx e)
    (h : ∀ i m e, ms[i]? = some m → I i e → ∀ N : Env → Prop, (∀ e', I (i + 1) e' → N e') → g m e fun e' => s e' { k with nx := N, ct := N, bk := k.nx }) : forN g s ms env k := by
  have key : ∀ (l : List MV) (i : Nat), i + l.length = ms.length → ms.drop i = l → ∀ e, I i e → forN g s l e k := by
    intro l
    induction l with
    | nil =>
      intro i hl hd e hi
      have : i = ms.length := by simpa using hl
      subst this
      exact hend e hi
    | cons m l ih =>
      intro i hl hd e hi
      simp only [List.length_cons] at hl
      have hm : ms[i]? = some m := by
        have := congrArg (·[0]?) hd
        simpa using this
      have hd2 : ms.drop (i + 1) = l := by
        rw [← List.tail_drop, hd]; rfl
      exact h i m e hm hi _ fun e' he => ih (i + 1) (by omega) hd2 e' he
  exact key ms 0 (by simp) rfl env h0
/-- a while, by a measure -/
theorem while_inv {t : TX} {s : SX} {k : KK} {env : Env} (I : Nat → Env → Prop) (n0 : Nat) (h0 : I n0 env)
    (h : ∀ n e, I n e → ∀ N : Env → Prop, (∀ m e', m < n → I m e' → N e') → t e fun b => match b with | true => s e { k with nx := N, ct := N, bk := k.nx } | false => k.nx e) : ∃ n, whileN t s n env k := by
  have key : ∀ n m e, m < n → I m e → whileN t s n e k := by
    intro n
    induction n with
    | zero => intro m e hm; omega
    | succ n ih => intro m e hm hi; exact h m e hi _ fun m' e' hm' hi' => ih m' e' (by omega) hi'
  exact ⟨n0 + 1, key _ _ _ (Nat.lt_succ_self _) h0⟩
theorem rgM_at {a : Int} {n i : Nat} {m : MV} (h : (rgM a n)[i]? = some m) : i < n ∧ m = .int (a + i) := by
  unfold rgM at h
  rw [List.getElem?_map] at h
  by_cases hi : i < n
  · rw [List.getElem?_range hi] at h
    exact ⟨hi, by simpa using h.symm⟩
  · rw [List.getElem?_eq_none (by simp; omega)] at h
    cases h
theorem rgM_len {a : Int} {n : Nat} : (rgM a n).length = n := by unfold rgM; simp
theorem boolsL_map : ∀ l : List Bool, boolsL (l.map .bl) = some l
  | [] => rfl
  | b :: l => by
    have h := boolsL_map l
    simp only [List.map_cons]
    unfold boolsL
    rw [h]
theorem intsL_map : ∀ l : List Int, intsL (l.map .int) = some l
  | [] => rfl
  | b :: l => by
    have h := intsL_map l
    simp only [List.map_cons]
    unfold intsL
    rw [h]
theorem ints_go {xs : List Int} {P : List Int → Prop} (q : P xs) : (match intsL (xs.map MV.int) with | some bs => P bs | none => False) := by
  rw [intsL_map]
  exact q
theorem bools_go {xs : List Bool} {P : List Bool → Prop} (q : P xs) : (match boolsL (xs.map MV.bl) with | some bs => P bs | none => False) := by
  rw [boolsL_map]
  exact q
theorem cutM_mem {ms : List MV} {lo hi : Option Int} {m : MV} (h : m ∈ cutM ms lo hi) : m ∈ ms := List.mem_of_mem_drop (List.mem_of_mem_take h)
/-- a comprehension's items -/
theorem lc_map {g : GX} {t : TX} {fe : EX} {env0 : Env} (f : MV → MV) (p : MV → Bool) {Q : List MV → Prop} : ∀ (ms acc : List MV), acc.length + ms.length ≤ sizeLine →
    (∀ m ∈ ms, ∀ (Y : MV → Prop) (N : Prop), (p m = true → Y (f m)) → (p m = false → N) → g m env0 fun e => t e fun b => match b with | true => fe e Y | false => N) →
    Q (acc ++ (ms.filter p).map f) → lcN g t fe env0 ms acc Q
  | [], acc, _, _, q => by
    unfold lcN
    simpa using q
  | m :: ms, acc, hl, h, q => by
    unfold lcN
    simp only [List.length_cons] at hl
    refine h m List.mem_cons_self _ _ (fun hp => ⟨by omega, ?_⟩) fun hp => ?_
    · refine lc_map f p ms _ (by simp; omega) (fun m hm => h m (List.mem_cons_of_mem _ hm)) ?_
      simpa [hp] using q
    · refine lc_map f p ms _ (by omega) (fun m hm => h m (List.mem_cons_of_mem _ hm)) ?_
      simpa [hp] using q
theorem lc_map1 {g : GX} {fe : EX} {env0 : Env} (f : MV → MV) {Q : List MV → Prop} (ms acc : List MV) (hl : acc.length + ms.length ≤ sizeLine)
    (h : ∀ m ∈ ms, ∀ (Y : MV → Prop), Y (f m) → g m env0 fun e => fe e Y) (q : Q (acc ++ ms.map f)) : lcN g tYesX fe env0 ms acc Q :=
  lc_map f (fun _ => true) ms acc hl (fun m hm Y _ y _ => h m hm Y (y rfl)) (by rw [show ms.filter (fun _ => true) = ms by simp]; exact q)
/-- a slice of a list -/
def sl {α : Type} (xs : List α) (a b : Nat) : List α := (xs.drop a).take (b - a)
theorem sl_map {α β : Type} (f : α → β) (xs : List α) (a b : Nat) : sl (xs.map f) a b = (sl xs a b).map f := by
  unfold sl
  rw [← List.map_drop, ← List.map_take]
theorem sl_min {α : Type} (xs : List α) (a b : Nat) : (xs.drop (min a xs.length)).take (min b xs.length - min a xs.length) = sl xs a b := by
  unfold sl
  by_cases h : a ≤ xs.length
  · rw [Nat.min_eq_left h]
    by_cases h2 : b ≤ xs.length
    · rw [Nat.min_eq_left h2]
    · rw [Nat.min_eq_right (by omega), List.take_of_length_le (by rw [List.length_drop]; omega), List.take_of_length_le (by rw [List.length_drop]; omega)]
  · rw [List.drop_eq_nil_of_le (show xs.length ≤ min a xs.length by omega), List.drop_eq_nil_of_le (show xs.length ≤ a by omega)]
    simp
theorem cut_sl (xs : List MV) {a b : Int} (h0 : 0 ≤ a) (h1 : 0 ≤ b) : cutM xs (some a) (some b) = sl xs a.toNat b.toNat := by
  unfold cutM
  rw [← sl_min]
  have e : ∀ (d : Nat) {i : Int}, 0 ≤ i → HT.sIx xs.length d (some i) = min i.toNat xs.length := fun d i hi => by
    obtain ⟨k, rfl⟩ := Int.eq_ofNat_of_zero_le hi
    exact HT.sIx_nat _ _ _
  rw [e _ h0, e _ h1]
theorem sl_get {α : Type} {xs : List α} {a b i : Nat} : (sl xs a b)[i]? = if i < b - a then xs[a + i]? else none := by
  unfold sl
  rw [List.getElem?_take]
  split
  · rw [List.getElem?_drop]
  · rfl
theorem sl_mem {xs : List Int} {a b : Nat} (hb : b ≤ xs.length) {x : Int} : x ∈ sl xs a b ↔ ∃ i : Nat, a ≤ i ∧ i < b ∧ cell xs i = x := by
  constructor
  · intro h
    obtain ⟨i, hi⟩ := List.mem_iff_getElem?.mp h
    rw [sl_get] at hi
    split at hi
    · refine ⟨a + i, by omega, by omega, ?_⟩
      unfold cell
      rw [List.getD_eq_getElem?_getD, Int.toNat_natCast, hi]; rfl
    · cases hi
  · rintro ⟨i, h1, h2, rfl⟩
    refine List.mem_iff_getElem?.mpr ⟨i - a, ?_⟩
    rw [sl_get, if_pos (by omega), show a + (i - a) = i by omega]
    unfold cell
    rw [List.getD_eq_getElem?_getD, Int.toNat_natCast, List.getElem?_eq_getElem (by omega)]; rfl
/-! ### lists of things of one kind -/
theorem lc_typ {α : Type} {g : GX} {fe : EX} {env0 : Env} (r f : α → MV) {Q : List MV → Prop} : ∀ (xs : List α) (acc : List MV), acc.length + xs.length ≤ sizeLine →
    (∀ x ∈ xs, ∀ (Y : MV → Prop), Y (f x) → g (r x) env0 fun e => fe e Y) → Q (acc ++ xs.map f) → lcN g tYesX fe env0 (xs.map r) acc Q
  | [], acc, _, _, q => by
    unfold lcN
    simpa using q
  | m :: ms, acc, hl, h, q => by
    simp only [List.map_cons]
    unfold lcN
    simp only [List.length_cons] at hl
    refine h m List.mem_cons_self _ ⟨by omega, ?_⟩
    refine lc_typ r f ms _ (by simp; omega) (fun m hm => h m (List.mem_cons_of_mem _ hm)) ?_
    simpa using q
theorem lc_ty {α : Type} {g : GX} {fe : EX} {env0 : Env} (r f : α → MV) {Q : List MV → Prop} (xs : List α) (hl : xs.length ≤ sizeLine)
    (h : ∀ x ∈ xs, ∀ (Y : MV → Prop), Y (f x) → g (r x) env0 fun e => fe e Y) (q : Q (xs.map f)) : lcN g tYesX fe env0 (xs.map r) [] Q :=
  lc_typ r f xs [] (by simpa using hl) h q
theorem lc_tyF {α : Type} {g : GX} {t : TX} {fe : EX} {env0 : Env} (r f : α → MV) (p : α → Bool) {Q : List MV → Prop} : ∀ (xs : List α) (acc : List MV), acc.length + xs.length ≤ sizeLine →
    (∀ x ∈ xs, ∀ (Y : MV → Prop) (N : Prop), (p x = true → Y (f x)) → (p x = false → N) → g (r x) env0 fun e => t e fun b => match b with | true => fe e Y | false => N) → Q (acc ++ (xs.filter p).map f) → lcN g t fe env0 (xs.map r) acc Q
  | [], acc, _, _, q => by
    unfold lcN
    simpa using q
  | m :: ms, acc, hl, h, q => by
    simp only [List.map_cons]
    unfold lcN
    simp only [List.length_cons] at hl
    refine h m List.mem_cons_self _ _ (fun hp => ⟨by omega, ?_⟩) fun hp => ?_
    · refine lc_tyF r f p ms _ (by simp; omega) (fun m hm => h m (List.mem_cons_of_mem _ hm)) ?_
      simpa [hp] using q
    · refine lc_tyF r f p ms _ (by omega) (fun m hm => h m (List.mem_cons_of_mem _ hm)) ?_
      simpa [hp] using q
theorem alls_go {α : Type} {xs : List α} {p : α → Prop} {P : List Bool → Prop} (q : P (xs.map fun x => dB (p x))) : (match boolsL (xs.map fun x => MV.bl (dB (p x))) with | some bs => P bs | none => False) := by
  rw [show (xs.map fun x => MV.bl (dB (p x))) = (xs.map fun x => dB (p x)).map .bl by simp, boolsL_map]
  exact q
theorem all_dB {α : Type} (xs : List α) (p : α → Prop) : (xs.map fun x => dB (p x)).all id = dB (∀ x ∈ xs, p x) := by
  by_cases h : ∀ x ∈ xs, p x
  · rw [dB_yes h, List.all_eq_true]
    intro b hb
    obtain ⟨x, hx, rfl⟩ := List.mem_map.mp hb
    exact dB_yes (h x hx)
  · rw [dB_no h, List.all_eq_false]
    have ⟨x, hx⟩ := Classical.not_forall.mp h
    obtain ⟨h1, h2⟩ := Classical.not_imp.mp hx
    exact ⟨dB (p x), List.mem_map.mpr ⟨x, h1, rfl⟩, by simp [dB_no h2]⟩
/-- an item of a list of things of one kind -/
theorem atT {α : Type} (r : α → MV) {xs : List α} {i : Int} (d : α) {Q : MV → Prop} (h0 : 0 ≤ i) (h1 : i < xs.length) (q : Q (r (xs.getD i.toNat d))) : gAt (xs.map r) i Q := by
  obtain ⟨j, rfl⟩ := Int.eq_ofNat_of_zero_le h0
  have hj : j < xs.length := by omega
  have e : atI (xs.map r) j = some (r (xs.getD j d)) := by
    refine atI_nat ?_
    simp [hj]
  exact .mk _ e q
theorem atTN {α : Type} (r : α → MV) {xs : List α} {i : Int} (d : α) {Q : MV → Prop} (h0 : i < 0) (h1 : 0 ≤ i + xs.length) (q : Q (r (xs.getD (i + xs.length).toNat d))) : gAt (xs.map r) i Q := by
  have e : atI (xs.map r) i = atI (xs.map r) (i + xs.length) := by
    unfold atI
    have e2 : ixN (xs.map r).length i = ixN (xs.map r).length (i + xs.length) := by
      unfold ixN
      rw [List.length_map, if_neg (by omega), if_pos (by omega), if_pos h1, if_pos (by omega)]
    rw [e2]
  obtain ⟨m, a1, a2⟩ := atT r d h1 (by omega) q
  exact .mk m (e.trans a1) a2
theorem getT {α : Type} {r : α → MV} {xs : List α} {i : Nat} {m : MV} (d : α) (h : (xs.map r)[i]? = some m) : i < xs.length ∧ m = r (xs.getD i d) := by
  rw [List.getElem?_map] at h
  by_cases hi : i < xs.length
  · rw [List.getElem?_eq_getElem hi] at h
    refine ⟨hi, ?_⟩
    rw [List.getD_eq_getElem?_getD, List.getElem?_eq_getElem hi]
    simpa using h.symm
  · rw [List.getElem?_eq_none (by omega)] at h
    cases h
theorem enT {α : Type} {r : α → MV} {xs : List α} {i : Nat} {m : MV} (d : α) (h : (enM (xs.map r))[i]? = some m) : i < xs.length ∧ m = .tup [.int i, r (xs.getD i d)] := by
  unfold enM at h
  rw [List.getElem?_mapIdx] at h
  cases q : (xs.map r)[i]? with
  | none => rw [q] at h; cases h
  | some m' =>
    obtain ⟨h1, rfl⟩ := getT d q
    rw [q] at h
    exact ⟨h1, by simpa using h.symm⟩
theorem enT_len {α : Type} {r : α → MV} {xs : List α} : (enM (xs.map r)).length = xs.length := by unfold enM; simp
theorem memp {α : Type} {l : List α} {A B : Prop} (h1 : l = [] → A) (h2 : l ≠ [] → B) : (match l.isEmpty with | true => A | false => B) := by
  cases l with
  | nil => exact h1 rfl
  | cons x xs => exact h2 (by simp)
theorem mnemp {α : Type} {l : List α} {A B : Prop} (h1 : l ≠ [] → A) (h2 : l = [] → B) : (match !l.isEmpty with | true => A | false => B) := by
  cases l with
  | nil => exact h2 rfl
  | cons x xs => exact h1 (by simp)
theorem mnnemp {α : Type} {l : List α} {A B : Prop} (h1 : l = [] → A) (h2 : l ≠ [] → B) : (match !!l.isEmpty with | true => A | false => B) := by
  cases l with
  | nil => exact h1 rfl
  | cons x xs => exact h2 (by simp)
end C
namespace C
open PySem PySem.Spec PyProof.Rows L2
/-! ### new lists that are owned -/
section
variable {X : Cx} {cl : Nat → Addr} {a b c e : Expr} {es : List Expr} {fa fb fc : EX} {qa qb qc : QX} {ta tb : TX} {ga : AX} {na : NX} {pos p2 p : Pos} {x : Str}
theorem new_own {K : PySem.W.Frag} {H G H' G' : Hp} {p : Addr} {ms : List MV} {vs : List V} {Q : OV → V → Hp → Prop} (e : Ext H G H' G') (hp : H' p = none) (r : Reps K cl G' ms vs)
    (z : ∀ v H2 G2 X, Ext H G H2 G2 → RepO K cl H2 G2 (.lst ms) v X → (∀ b ∈ X, H b = none ∧ G2 b = none ∧ H2 b ≠ none) → Q (.lst ms) v H2) : Q (.lst ms) (.ref p) (upd H' p (.lst vs)) := by
  refine z _ _ G' [p] (e.trans (Ext.new0 e.gh hp)) ?_ fun b hb => ?_
  · unfold RepO
    exact ⟨p, vs, rfl, rfl, upd_same, r⟩
  · have : b = p := by simpa using hb
    subst this
    exact ⟨e.hh.free hp, e.gh.free hp, by rw [upd_same]; simp⟩
/-- xs + ys -/
def nAdd (qa qb : QX) : NX := fun env Q => qa env fun m => qb env fun n => asL m fun xs => asL n fun ys => xs.length + ys.length ≤ sizeLine ∧ Q (.lst (xs ++ ys))
theorem mn_add (ha : MQ X cl a qa) (hb : MQ X cl b qb) : MN X cl (.BinOp a .Add b pos) (nAdd qa qb) := by
  refine ⟨fun env Q Q' k q => ha.mo _ _ _ (fun m z => hb.mo _ _ _ (fun n z => asL_mo (fun _ z => asL_mo (fun _ z => ⟨z.1, k _ z.2⟩) z) z) z) q, PEmono (pe_op op_cat ha.pe hb.pe) fun σ H Q ⟨β, G, env, r0, q⟩ => ?_⟩
  refine ⟨β, G, env, r0, ha.mo _ _ _ (fun m z v H' G' e rv => ?_) q⟩
  refine ⟨β, G', env, r0.ext e, hb.mo _ _ _ (fun n z w H2 G2 e2 rw => ?_) z⟩
  obtain ⟨xs, pa, vs, rfl, h2, h3, z⟩ := asL_rep e2.gh z (Same.repB rv e2)
  obtain ⟨ys, pb, ws, rfl, g2, g3, z⟩ := asL_rep e2.gh z rw
  have l1 := Reps.len _ _ h3
  have l2 := Reps.len _ _ g3
  exact ⟨pa, pb, vs, ws, rfl, rfl, h2, g2, by have := z.1; omega, fun p hp => new_own (Q := fun _ v H => Q v H) (e.trans e2) hp (Reps.app _ _ _ _ h3 g3) z.2⟩
/-- xs[lo:hi] -/
def nSl (qa : QX) (l h : OX) : NX := fun env Q => qa env fun m => l env fun lo => h env fun hi => asL m fun ms => Q (.lst (cutM ms lo hi))
theorem mn_sl {lo hi : Option Expr} {l h : OX} (ha : MQ X cl a qa) (hl : MO X cl lo l) (hh : MO X cl hi h) : MN X cl (.Subscript a (.Slice lo hi none p2) pos) (nSl qa l h) := by
  refine ⟨fun env Q Q' k q => ha.mo _ _ _ (fun m z => hl.mo _ _ _ (fun _ z => hh.mo _ _ _ (fun _ z => asL_mo (fun _ z => k _ z) z) z) z) q, PEmono (pe_slice sl_list ha.pe hl.po hh.po) fun σ H Q ⟨β, G, env, r0, q⟩ => ?_⟩
  refine ⟨β, G, env, r0, ha.mo _ _ _ (fun m z v H' G' e rv => ?_) q⟩
  refine ⟨β, G', env, r0.ext e, hl.mo _ _ _ (fun lo z H2 G2 e2 => ?_) z⟩
  refine ⟨β, G2, env, (r0.ext e).ext e2, hh.mo _ _ _ (fun hi z H3 G3 e3 => ?_) z⟩
  have e23 := e2.trans e3
  obtain ⟨ms, p, vs, rfl, h2, h3, z⟩ := asL_rep e3.gh z (Same.repB rv e23)
  exact ⟨p, vs, rfl, SqL.of h2, fun q hq => new_own (Q := fun _ v H => Q v H) (e.trans e23) hq (cutM_rep h3) z⟩
/-- list(xs) -/
def nListG (m : OV) (Q : OV → Prop) : Prop := match m with
  | .fro (.tup ms) => Q (.lst ms)
  | m => asL m fun ms => Q (.lst ms)
def nList (qa : QX) : NX := fun env Q => qa env fun m => nListG m Q
theorem mn_list (gl : Gl X x) (hm : X.mg x = none) (hv : bootBuiltins x = some (.type "list")) (ha : MQ X cl a qa) (hn : x ≠ "__name__" := by decide) (hdb : (x == ("__debug__" : Str)) = false := by decide)
    (he : starEach [a] X.env = (false, eval a X.env) :: starEach [] X.env := by rfl) : MN X cl (.Call (.Name x p) [a] [] pos) (nList qa) := by
  refine ⟨fun env Q Q' k q => ha.mo _ _ _ (fun m z => ?_) q, PEmono (pe_callTy call_list_of gl hm hv (pa_cons ha.pe pa_nil he) hn hdb he rfl) fun σ H Q ⟨β, G, env, r0, q⟩ => ?_⟩
  · unfold nListG at z ⊢
    split at z
    · exact k _ z
    · exact asL_mo (fun _ z => k _ z) z
  · refine ⟨β, G, env, r0, ha.mo _ _ _ (fun m z v H' G' e rv => ?_) q⟩
    unfold nListG at z
    split at z
    · unfold RepB Rep at rv; obtain ⟨p, vs, rfl, h2, h3⟩ := rv
      exact ⟨p, vs, rfl, .inr (sqT_same e.gh h2), fun l hl => new_own (Q := fun _ v H => Q v H) e hl h3 z⟩
    · obtain ⟨ms, p, vs, rfl, h2, h3, z⟩ := asL_rep e.gh z rv
      exact ⟨p, vs, rfl, .inl (SqL.of h2), fun l hl => new_own (Q := fun _ v H => Q v H) e hl h3 z⟩
/-- xs[i] = v -/
def setIG (i : Nat) (p : List Nat) (m : MV) (ms : List MV) (j : Int) (env : Env) (Q : Env → Prop) : Prop := match ixN ms.length j with
  | some n => Q (setP env i p (.lst (ms.set n m)))
  | none => False
def setIB (i : Nat) (p : List Nat) (qi : QX) (m : MV) (env : Env) (Q : Env → Prop) : Prop := match ownP env i p with
  | some (.lst ms) => qi env fun x => asFro x fun x => asInt x fun j => setIG i p m ms j env Q
  | _ => False
def setI (i : Nat) (p : List Nat) (qi : QX) (xa : XX) : SX := fun env k => xa env (fun o env2 => asFro o fun m => setIB i p qi m env2 k.nx) k.ex
variable {W : WX} {xa : XX} {value o ix : Expr} {pl : List Nat}
theorem Reps.setV {K : PySem.W.Frag} {G : Hp} {m : MV} {v : V} (rv : Rep K cl G m v) : ∀ (ms : List MV) (vs : List V) (n : Nat), Reps K cl G ms vs → Reps K cl G (ms.set n m) (vs.set n v)
  | [], vs, n, h => by
    unfold Reps at h; subst h
    simp only [List.set_nil]
    unfold Reps; rfl
  | x :: ms, vs, 0, h => by
    unfold Reps at h
    obtain ⟨u, ws, rfl, h2, h3⟩ := h
    simp only [List.set_cons_zero]
    unfold Reps
    exact ⟨v, ws, rfl, rv, h3⟩
  | x :: ms, vs, n + 1, h => by
    unfold Reps at h
    obtain ⟨u, ws, rfl, h2, h3⟩ := h
    simp only [List.set_cons_succ]
    unfold Reps
    exact ⟨u, _, rfl, h2, Reps.setV rv ms ws n h3⟩
theorem setIB_mo {i : Nat} {qi : QX} {m : MV} {env : Env} {Q Q' : Env → Prop} (hq : ∀ env (Q Q' : OV → Prop), (∀ m, Q m → Q' m) → qi env Q → qi env Q') (k : ∀ e, Q e → Q' e) (h : setIB i pl qi m env Q) : setIB i pl qi m env Q' := by
  unfold setIB at h ⊢
  split at h
  · refine hq _ _ _ (fun x z => asFro_mo (fun x z => asInt_mo (fun j z => ?_) z) z) h
    unfold setIG at z ⊢
    split at z
    · exact k _ z
    · exact z
  · exact h.elim
theorem ms_setI {i : Nat} {spos : Pos} (ho : MP X o i pl) (hi : MQ X cl ix qa) (hv : MX X cl W value xa) (hp : fld38 pl = true := by rfl) (hs : swapsWithSole [.Subscript o ix pos] value spos.line X.env = pure false := by rfl)
    (hw : swappedStores [.Subscript o ix pos] value X.env = pure none := by rfl) (h1 : (assignEach [.Subscript o ix pos] X.env).map (·.2) = [assign (.Subscript o ix pos) X.env] := by rfl)
    (ha : ∀ v, assign (.Subscript o ix pos) X.env v = (do
      let ov ← holding [v] (eval o X.env)
      let iv ← holding [v, ov] (eval ix X.env)
      standAt pos
      holding [v, ov, iv] (setItem ov iv v)
      release [v, ov, iv] []) := by intro _; rfl) : MS X cl W (.Assign [.Subscript o ix pos] value spos) (setI i pl qa xa) := by
  refine ⟨fun env k k' l q => hv.mo _ _ _ _ _ (fun o e z => asFro_mo (fun m z => setIB_mo hi.mo l.nx z) z) l.ex q, PSmono (ps_asg hv.pe (pg_sub ho hi.pe set_list ha) hs hw h1) fun D σ H ⟨β, G, env, r0, q⟩ => ⟨β, G, env, r0, hv.mo _ _ _ _ _ (fun o e z v H' G' X' r' gg ro => ?_) (fun _ z => z) q⟩⟩
  cases o with
  | fro m =>
    unfold RepO at ro
    have z' : setIB i pl qa m e (kOf X.K cl W β G D).nx := z
    unfold setIB at z'
    split at z'
    · rename_i ms h
      have r1 := r'.drop
      obtain ⟨v0, l, vs, g1, g2, g3, g4, g5⟩ := lst_write r1 (fld38_out hp) h
      refine ⟨v0, .ref l, g1, g2, β, G', e, r1, hi.mo _ _ _ (fun x z w H2 G2 e2 rw => ?_) z'⟩
      cases x with
      | fro x =>
        unfold RepB at rw
        obtain ⟨j, rfl, rfl, z⟩ := asInt_rep (show asInt x _ from z) rw
        have r2 := r1.ext e2
        obtain ⟨v0', l', vs', y1, y2, y3, y4, y5⟩ := lst_write r2 (fld38_out hp) h
        rw [g1] at y1; cases y1
        have := PAt.uniq (PAt.same e2.hh g2) y2
        cases this
        unfold setIG at z
        split at z
        · rename_i n hn
          refine ⟨l, vs', j, n, rfl, rfl, y3, by rw [Reps.len _ _ y4]; exact hn, ?_⟩
          exact z σ _ G2 (y5 _ _ (Reps.setV (Rep.same e2.gg _ _ ro.2) _ _ n y4)) (gg.trans e2.gg)
        · exact z.elim
      | _ => exact z.elim
    · exact z'.elim
  | _ => exact z.elim
end
end C
namespace C
open PySem PySem.Spec PyProof.Rows L2
/-! ### for over a list that is owned or lent: it stands while the loop runs -/
def pinK (i : Nat) (s0 : Slot) (o : OV) (env : Env) (k : KK) : KK where
  nx e := (e[i]? = some (.bo o) ∧ boSub e (env.set i (.bo o))) ∧ k.nx (e.set i (putS s0 o))
  rt r e := (e[i]? = some (.bo o) ∧ boSub e (env.set i (.bo o))) ∧ k.rt r (e.set i (putS s0 o))
  bk _ := False
  ct _ := False
  ex _ := False
theorem pinK_le {i : Nat} {s0 : Slot} {o : OV} {env : Env} {k k' : KK} (l : KLe k k') : KLe (pinK i s0 o env k) (pinK i s0 o env k') :=
  ⟨fun e z => ⟨z.1, l.nx _ z.2⟩, fun o e z => ⟨z.1, l.rt _ _ z.2⟩, fun e z => z, fun e z => z, fun n z => z⟩
def onPl (o : OV) (p : List Nat) (Q : List MV → Prop) : Prop := match getO o p with
  | some q => asL q Q
  | none => False
theorem onPl_mo {o : OV} {p : List Nat} {Q Q' : List MV → Prop} (k : ∀ m, Q m → Q' m) (h : onPl o p Q) : onPl o p Q' := by
  unfold onPl at h ⊢
  split at h
  · exact asL_mo k h
  · exact h
def forBG (u : List MV → List MV) (i : Nat) (p : List Nat) (g : GX) (s : SX) (s0 : Slot) : SX := fun env k => match s0 with
  | .bo o => onPl o p fun ms => forN g s (u ms) env k
  | .un => False
  | .ow o => onPl o p fun ms => forN g s (u ms) (env.set i (.bo o)) (pinK i (.ow o) o env k)
  | .rf o => onPl o p fun ms => forN g s (u ms) (env.set i (.bo o)) (pinK i (.rf o) o env k)
def forBX (u : List MV → List MV) (i : Nat) (p : List Nat) (g : GX) (s : SX) : SX := fun env k => match env[i]? with
  | some s0 => forBG u i p g s s0 env k
  | none => False
def forB (i : Nat) (p : List Nat) (g : GX) (s : SX) : SX := forBX (fun ms => ms) i p g s
def forBE (i : Nat) (p : List Nat) (g : GX) (s : SX) : SX := forBX enM i p g s
section
variable {X : Cx} {cl : Nat → Addr} {W : WX} {a b c e : Expr} {es : List Expr} {sts : List Stmt} {s : SX} {g : GX} {vs : List Nat} {pos pp : Pos} {i : Nat} {pl : List Nat}
theorem forBX_mo {u : List MV → List MV} (hg : ∀ m env (Q Q' : Env → Prop), (∀ e, Q e → Q' e) → g m env Q → g m env Q') (hs : ∀ env k k', KLe k k' → s env k → s env k') : ∀ env k k', KLe k k' → forBX u i pl g s env k → forBX u i pl g s env k' := by
  intro env k k' l q
  unfold forBX at q ⊢
  split at q
  · rename_i s0 h
    cases s0 with
    | un => exact q
    | ow o => exact onPl_mo (fun ms z => forN_mo hg hs _ _ _ _ (pinK_le l) z) q
    | rf o => exact onPl_mo (fun ms z => forN_mo hg hs _ _ _ _ (pinK_le l) z) q
    | bo o => exact onPl_mo (fun ms z => forN_mo hg hs _ _ _ _ l z) q
  · exact q
/-- where the list stands, and the turns over it -/
def ForOk (X : Cx) (cl : Nat → Addr) (W : WX) (g : GX) (s : SX) (vs : List Nat) (i : Nat) (pl : List Nat) (It0 : Addr → It) (D : Ends) (σ : L2.St) (H : Hp) : Prop :=
    ∃ v0 p xs, σ[i]? = some (some v0) ∧ PAt X.K H v0 pl (.ref p) ∧ H p = some (.lst xs) ∧
    ∃ W' : Nat → Nat → L2.St → Hp → Prop, (∃ m, W' 0 m σ H) ∧ ∀ i m σ H, W' i m σ H → ((It0 p).stop i H ∧ D.nx σ H) ∨ ((It0 p).go i H ∧ ∃ N : L2.St → Hp → Prop, (∀ σ' H', N σ' H' → ∃ m', m' < m ∧ W' (i + 1) m' σ' H') ∧ ∀ x H', (It0 p).yld i H x H' → gOf X.K cl g vs x σ H' fun σ2 H2 => sOf X.K cl W s { D with nx := N, ct := N, bk := D.nx } σ2 H2)
theorem forBX_in {tg : Expr} {u : List MV → List MV} {It0 : Addr → It} (hg : MG X cl tg g vs) (hb : MSs X cl W sts s) (hpl : fld38 pl = true)
    (hit : ∀ {G KH : Hp} {p : Addr} {ms : List MV} {vs : List V}, KH p = some (.lst vs) → Reps X.K cl G ms vs → ItOk X.K cl (It0 p) (u ms) G KH) {D : Ends} {σ : L2.St} {H G : Hp} {β : Bs} {env : Env} (r0 : R X.K cl β σ H G env []) (q : forBX u i pl g s env (kOf X.K cl W β G D)) :
    ForOk X cl W g s vs i pl It0 D σ H := by
  unfold forBX at q
  split at q
  · rename_i s0 h
    have own : ∀ o, ownS s0 = some o → onPl o pl (fun ms => forN g s (u ms) (env.set i (.bo o)) (pinK i s0 o env (kOf X.K cl W β G D))) → ForOk X cl W g s vs i pl It0 D σ H := fun o ho q => by
      obtain ⟨F, r1, ⟨Hm, m1, m2, v0, m3, m4⟩, back⟩ := r0.pin h ho
      unfold onPl at q
      split at q
      · rename_i o' ho'
        obtain ⟨w, w1, w2⟩ := RepB.place m2 (fld38_out hpl) m4 ho'
        obtain ⟨ms, p, xs, rfl, y1, y2, z⟩ := asL_rep m2 q w2
        refine ⟨v0, p, xs, m3, PAt.same (fun b u h => (m1 b u h).1) w1, (m1 _ _ y1).1, ?_⟩
        have hk : KLe (pinK i s0 o env (kOf X.K cl W β G D)) (kOf X.K cl W ⟨H, G, F, σ⟩ G D) := by
          refine ⟨fun e z σ' H' G' r' gg => ?_, fun o e z σ' H' G' v X r' gg ro => ?_, fun e z => z.elim, fun e z => z.elim, fun n z => z.elim⟩
          · obtain ⟨⟨z1, z2⟩, z3⟩ := z
            exact z3 σ' H' G' (back _ _ _ _ _ r' z1 z2) gg
          · obtain ⟨⟨z1, z2⟩, z3⟩ := z
            exact z3 σ' H' G' v X (back _ _ _ _ _ r' z1 z2) gg ro
        exact for_turns hg hb (hit y1 y2) G r1 (Same.refl _) (fun σ' H' G' env' r' _ b u h => r'.hk b u (m1 b u h).1 (m1 b u h).2) hk z
      · exact q.elim
    cases s0 with
    | un => exact q.elim
    | ow o => exact own o rfl q
    | rf o => exact own o rfl q
    | bo o =>
      have q' : onPl o pl (fun ms => forN g s (u ms) env (kOf X.K cl W β G D)) := q
      unfold onPl at q'
      split at q'
      · rename_i o' ho'
        obtain ⟨fp, s1, _⟩ := r0.sl
        have z0 := s1 i _ h
        unfold SRep at z0
        obtain ⟨_, v0, z1, z2, Hb, hb', z3⟩ := z0
        classical
        let KH : Hp := fun b => match Hb b with
          | some u => some u
          | none => β.G b
        have k1 : Same Hb KH := fun b u h => by
          show (match Hb b with | some u => some u | none => β.G b) = some u
          rw [h]
        have k3 : ∀ σ' H' G' env', R X.K cl β σ' H' G' env' [] → Same KH H' := fun σ' H' G' env' r' b u h => by
          have h' : (match Hb b with | some u => some u | none => β.G b) = some u := h
          split at h'
          · rename_i u' e
            cases h'
            exact r'.hk b _ (hb' b _ e).1 (hb' b _ e).2
          · exact r'.gh b u (r'.g0 b u h')
        have k2 : Same β.G KH := fun b u h => by
          show (match Hb b with | some u => some u | none => β.G b) = some u
          split
          · rename_i u' e
            have e1 := r0.hk b _ (hb' b _ e).1 (hb' b _ e).2
            rw [r0.gh b u (r0.g0 b u h)] at e1
            exact e1.symm
          · exact h
        obtain ⟨w, w1, w2⟩ := RepB.place k2 (fld38_out hpl) (RepB.same k1 (Same.refl _) _ _ z3) ho'
        obtain ⟨ms, p, xs, rfl, y1, y2, z⟩ := asL_rep k2 q' w2
        refine ⟨v0, p, xs, getD_some z1, PAt.same (k3 _ _ _ _ r0) w1, k3 _ _ _ _ r0 _ _ y1, ?_⟩
        exact for_turns hg hb (hit y1 (Reps.same r0.g0 _ _ y2)) G r0 (Same.refl _) (fun σ' H' G' env' r' _ => k3 σ' H' G' env' r') (kOf_le (Same.refl _)) z
      · exact q'.elim
  · exact q.elim
theorem ms_forB {tg : Expr} (hp : PassesOwn (model X.prog X.w) X.A X.env X.xe) (hc : X.calm = true) (ho : MP X a i pl) (hg : MG X cl tg g vs) (hb : MSs X cl W sts s) (hpl : fld38 pl = true := by rfl) (hs : ∀ x, foldedSetIterable a X.env x = pure x := by intro _; rfl) : MS X cl W (.For tg a sts [] pos) (forB i pl g s) := by
  refine ⟨forBX_mo hg.mo hb.mo, PSmono (ps_for hp hc (pi_list ho) hg.pg hb.ps hs) fun D σ H ⟨β, G, env, r0, q⟩ => ?_⟩
  obtain ⟨v0, p, xs, h1, h2, h3, h4⟩ := forBX_in (It0 := Itl X.K) hg hb hpl (fun h r => it_list h r) r0 q
  exact ⟨v0, .ref p, h1, h2, p, rfl, ⟨xs, SqL.of h3⟩, h4⟩
theorem ms_forBE {elts : List Expr} {kk : Nat} {tpos : Pos} (hp : PassesOwn (model X.prog X.w) X.A X.env X.xe) (hc : X.calm = true) (hgl : Gl X "enumerate") (hm : X.mg "enumerate" = none) (ho : MP X a i pl) (hg : MG X cl (.Tuple elts kk tpos) g vs) (hb : MSs X cl W sts s) (hpl : fld38 pl = true := by rfl)
    (hs1 : starEach [a] X.env = (false, eval a X.env) :: starEach [] X.env := by rfl) (hs2 : starEach [a] X.env = [(false, eval a X.env)] := by rfl) (hs : ∀ x, foldedSetIterable (.Call (.Name "enumerate" pp) [a] [] pos) X.env x = pure x := by intro _; rfl) {fpos : Pos} : MS X cl W (.For (.Tuple elts kk tpos) (.Call (.Name "enumerate" pp) [a] [] pos) sts [] fpos) (forBE i pl g s) := by
  refine ⟨forBX_mo hg.mo hb.mo, PSmono (ps_for hp hc (pi_enum hgl hm (pa_cons ho pa_nil hs1) hs2) hg.pg hb.ps hs) fun D σ H ⟨β, G, env, r0, q⟩ => ?_⟩
  obtain ⟨v0, p, xs, h1, h2, h3, h4⟩ := forBX_in (It0 := Ite X.K) hg hb hpl (fun h r => it_enum h r) r0 q
  exact ⟨v0, .ref p, h1, h2, p, xs, rfl, SqL.of h3, h4⟩
end
end C
namespace C
open PySem PySem.Spec PyProof.Rows L2
/-! ### list(enumerate(xs)) -/
/-- an enumerate whose first pair is held by somebody -/
abbrev EnO (h : Heap) (e it : Addr) (i : Int) (a : Addr) (f : Bool) (old : Value) : Prop :=
  h.get? e = some { cls := .type "enumerate", data := .fields #[rawInt a, .bool f, .ref it, rawInt i, .none, old] }
section
variable {prog : Program} {w : World} {A : Around} {E : Value → Shared → Prop} {s : Shared} {e it l a : Addr}
theorem eno_code {i : Nat} {f : Bool} {its : Array Value} {x old : Value} {oa : Obj} {Q : Value → Shared → Prop} (he : EnO s.heap e it i a f old) (hi : s.heap.IsListIter it l i) (hl : s.heap.IsList l its) (hx : its[i]? = some x) (ne : e ≠ it)
    (ha : s.heap.get? a = some oa) (ae : a ≠ e) (ai : a ≠ it)
    (hQ : ∀ h', EnO h' e it ((i : Int) + 1) a true old → h'.IsListIter it l (i + 1) → h'.get? s.heap.objs.size = some { cls := .type "tuple", data := .seq #[.int i s.toks, x] } → h'.objs.size = s.heap.objs.size + 1 →
      (∀ b o, b ≠ e → b ≠ it → s.heap.get? b = some o → h'.get? b = some o) → Q (.ref s.heap.objs.size) { s with heap := h', toks := s.toks + 1 }) :
    wpAny (model prog w) A (Builtin.«enumerate.__next__» ⟨[.ref e], []⟩) (fun r s' => ∃ v, r = .done (.ret v) ∧ Q v s') E s := by
  obtain ⟨hp, g, d, tk, os⟩ := s
  show wpAny _ _ (field (.ref e) 2 >>= _) _ _ _
  refine wpAny_bind (wpAny_field he rfl (x := .ref it) rfl (wpAny_bind (wpAny_nextOf_list_item hi hl hx fun h1 i1 k1 => ?_)))
  have k1' : Heap.SameBut it hp h1 := k1
  have e1 : EnO h1 e it i a f old := (k1'.2 e ne).trans he
  show wpAny _ _ (field (.ref e) 3 >>= _) _ _ ⟨h1, g, d, tk, os⟩
  refine wpAny_bind (wpAny_field e1 rfl (x := rawInt i) rfl ?_)
  show wpAny _ _ (field (.ref e) 4 >>= _) _ _ ⟨h1, g, d, tk, os⟩
  refine wpAny_bind (wpAny_field e1 rfl (x := .none) rfl ?_)
  show wpAny _ _ (mkInt i >>= _) _ _ ⟨h1, g, d, tk, os⟩
  refine wpAny_bind (wpAny_mkInt ?_)
  show wpAny _ _ (setField (.ref e) 3 (rawInt ((i : Int) + 1)) >>= _) _ _ ⟨h1, g, d, tk + 1, os⟩
  refine wpAny_bind (wpAny_setField_rec e1 (by simp) fun h2 e2 k2 => ?_)
  have k2' : Heap.SameBut e h1 h2 := k2
  have e2' : EnO h2 e it ((i : Int) + 1) a f old := e2
  show wpAny _ _ (setField (.ref e) 4 .none >>= _) _ _ ⟨h2, g, d, tk + 1, os⟩
  refine wpAny_bind (wpAny_setField_rec e2' (by simp) fun h3 e3 k3 => ?_)
  have k3' : Heap.SameBut e h2 h3 := k3
  have e3' : EnO h3 e it ((i : Int) + 1) a f old := e3
  show wpAny _ _ (newTuple [.int i tk, x] >>= _) _ _ ⟨h3, g, d, tk + 1, os⟩
  refine wpAny_bind (wpAny_newTuple ?_)
  have z3 : h3.objs.size = hp.objs.size := (k3'.1.trans k2'.1).trans k1'.1
  have le : e < hp.objs.size := Heap.lt_size he
  have la : a < hp.objs.size := Heap.lt_size ha
  obtain ⟨h4, hh4⟩ : ∃ h4, h4 = h3.push { cls := .type "tuple", data := .seq #[.int i tk, x] } := ⟨_, rfl⟩
  have e4 : EnO h4 e it ((i : Int) + 1) a f old := by rw [hh4]; exact Heap.get?_push_of_some _ e3'
  have t4 : h4.get? hp.objs.size = some { cls := .type "tuple", data := .seq #[.int i tk, x] } := by
    have := Heap.get?_push_size h3 (o := { cls := .type "tuple", data := .seq #[.int i tk, x] }) rfl
    rw [z3] at this
    rw [hh4]; exact this
  have s4 : h4.objs.size = hp.objs.size + 1 := by rw [hh4, Heap.size_push, z3]
  have p4 : ∀ b o, b ≠ e → b ≠ it → hp.get? b = some o → h4.get? b = some o := fun b o n1 n2 q => by
    rw [hh4]
    exact Heap.get?_push_of_some _ (k3'.extBut b o n1 (k2'.extBut b o n1 (k1'.extBut b o n2 q)))
  have i4 : h4.IsListIter it l (i + 1) := by
    rw [hh4]
    obtain ⟨o, q, r⟩ := (i1.extBut k2'.extBut (Ne.symm ne)).extBut k3'.extBut (Ne.symm ne)
    exact ⟨o, Heap.get?_push_of_some _ q, r⟩
  have a4 : h4.get? a = some oa := p4 a oa ae ai ha
  rw [← hh4]
  show wpAny _ _ (Builtin.SmallTypes.ownedTupleIsFree (.ref e) >>= _) _ _ ⟨h4, g, d, tk + 1, os⟩
  rw [z3]
  refine wpAny_bind ?_
  unfold Builtin.SmallTypes.ownedTupleIsFree
  refine wpAny_bind (wpAny_field e4 rfl (x := rawInt a) rfl ?_)
  show wpAny _ _ (loadIfAlive ((a : Int).toNat) >>= _) _ _ _
  rw [Int.toNat_natCast]
  refine wpAny_bind (PySem.W.kdx_alive a4 ?_)
  simp only [Option.isNone_some, Bool.false_eq_true, if_false]
  refine wpAny_bind (wpAny_field e4 rfl (x := .bool f) rfl ?_)
  cases f with
  | true =>
    rw [if_neg (show ¬ ((Value.bool true != Value.bool true) = true) from Bool.false_ne_true)]
    refine wpAny_pure ?_
    simp only [Bool.false_eq_true, if_false]
    exact wpAny_pure ⟨_, rfl, hQ h4 e4 i4 t4 s4 p4⟩
  | false =>
    rw [if_pos (show (Value.bool false != Value.bool true) = true from rfl)]
    refine wpAny_bind (wpAny_setField_rec e4 (by simp) fun h5 e5 k5 => ?_)
    have k5' : Heap.SameBut e h4 h5 := k5
    have e5' : EnO h5 e it ((i : Int) + 1) a true old := e5
    refine wpAny_pure ?_
    simp only [Bool.false_eq_true, if_false]
    refine wpAny_pure ⟨_, rfl, hQ h5 e5' (i4.extBut k5'.extBut (Ne.symm ne)) (k5'.extBut _ _ (Nat.ne_of_gt le) t4) (by show h5.objs.size = _; rw [k5'.1, s4]) fun b o n1 n2 q => k5'.extBut b o n1 (p4 b o n1 n2 q)⟩
theorem eno_end {i : Nat} {f : Bool} {its : Array Value} {old : Value} {Q : Option Value → Shared → Prop} (hh : A.handled = none) (he : EnO s.heap e it i a f old) (hi : s.heap.IsListIter it l i) (hl : s.heap.IsList l its) (hx : its[i]? = none)
    (hQ : ∀ h', Heap.ExtBut it s.heap h' → Q none { s with heap := h' }) : wpAny (model prog w) A (pyNext (.ref e)) Q E s := by
  have hT : s.TypeIs (.ref e) "enumerate" := ⟨_, he, rfl⟩
  unfold pyNext
  refine wpAny_bind (wpAny_attempt (wpAny_callSpecial?_slot (name := Str.ofString "__next__") hT PySem.F.slot_enumerate_next (wpAny_call_entry PySem.F.slot_enumerate_next hT PySem.F.entry_enumerate_next ?_ (PySem.F.args_enumerate_next_1 _))))
  show wpAny _ _ (field (.ref e) 2 >>= _) _ _ _
  refine wpAny_bind (wpAny_field he rfl (x := .ref it) rfl (wpAny_bind (wpAny_nextOf_list_end hh hi hl hx fun h' x k q => ?_)))
  obtain ⟨o, ho, hc⟩ := q
  exact wpAny_bind (wpAny_isInstance (T := "StopIteration") (b := true) ⟨o, ho, hc⟩ isSubtype_stop (wpAny_pure (hQ _ k)))
/-- at any turn: S is the list that takes the pairs -/
def EnSt (h : Heap) (e it S : Addr) (i : Nat) : Prop := (∃ old, IsEnum h e it i old) ∨ ∃ a f old oa, EnO h e it i a f old ∧ h.get? a = some oa ∧ a ≠ e ∧ a ≠ it ∧ a ≠ S
theorem en_next {S : Addr} {i : Nat} {its : Array Value} {x : Value} {Q : Option Value → Shared → Prop} (he : EnSt s.heap e it S i) (hi : s.heap.IsListIter it l i) (hl : s.heap.IsList l its) (hx : its[i]? = some x) (ne : e ≠ it) (hS : S < s.heap.objs.size)
    (hQ : ∀ h', EnSt h' e it S (i + 1) → h'.IsListIter it l (i + 1) → h'.get? s.heap.objs.size = some { cls := .type "tuple", data := .seq #[.int i s.toks, x] } → h'.objs.size = s.heap.objs.size + 1 →
      (∀ b o, b ≠ e → b ≠ it → s.heap.get? b = some o → h'.get? b = some o) → Q (some (.ref s.heap.objs.size)) { s with heap := h', toks := s.toks + 1 }) :
    wpAny (model prog w) A (pyNext (.ref e)) Q E s := by
  have li : it < s.heap.objs.size := by obtain ⟨_, q, _⟩ := hi; exact Heap.lt_size q
  rcases he with ⟨old, he⟩ | ⟨a, f, old, oa, he, ha, ae, ai, aS⟩
  · have le : e < s.heap.objs.size := Heap.lt_size he
    exact wpAny_pyNext_enum_item he hi hl hx ne fun h' q1 q2 q3 q4 q5 => hQ h' (.inr ⟨_, _, _, _, q1, q3, Nat.ne_of_gt le, Nat.ne_of_gt li, Nat.ne_of_gt hS⟩) q2 q3 q4 q5
  · have hT : s.TypeIs (.ref e) "enumerate" := ⟨_, he, rfl⟩
    unfold pyNext
    refine wpAny_bind (wpAny_attempt (wpAny_callSpecial?_slot (name := Str.ofString "__next__") hT PySem.F.slot_enumerate_next (wpAny_call_entry PySem.F.slot_enumerate_next hT PySem.F.entry_enumerate_next ?_ (PySem.F.args_enumerate_next_1 _))))
    exact eno_code he hi hl hx ne ha ae ai fun h' q1 q2 q3 q4 q5 => wpAny_pure (hQ h' (.inr ⟨_, _, _, _, q1, q5 a oa ae ai ha, ae, ai, aS⟩) q2 q3 q4 q5)
theorem en_done {S : Addr} {i : Nat} {its : Array Value} {Q : Option Value → Shared → Prop} (hh : A.handled = none) (he : EnSt s.heap e it S i) (hi : s.heap.IsListIter it l i) (hl : s.heap.IsList l its) (hx : its[i]? = none)
    (hQ : ∀ h', Heap.ExtBut it s.heap h' → Q none { s with heap := h' }) : wpAny (model prog w) A (pyNext (.ref e)) Q E s := by
  rcases he with ⟨old, he⟩ | ⟨a, f, old, oa, he, _⟩
  · exact wpAny_pyNext_enum_end hh he hi hl hx hQ
  · exact eno_end hh he hi hl hx hQ
theorem EnSt.keep {S : Addr} {h h' : Heap} {i : Nat} (q : EnSt h e it S i) (k : ∀ b o, b ≠ S → h.get? b = some o → h'.get? b = some o) (n : e ≠ S) : EnSt h' e it S i := by
  rcases q with ⟨old, q⟩ | ⟨a, f, old, oa, q, qa, ae, ai, aS⟩
  · exact .inl ⟨old, k _ _ n q⟩
  · exact .inr ⟨a, f, old, oa, k _ _ n q, k _ _ aS qa, ae, ai, aS⟩
/-- the pairs that stand so far -/
structure EnG (its : Array Value) (lo : Addr) (h : Heap) (as : List Addr) : Prop where
  rise : as.Pairwise (· < ·)
  above : ∀ a ∈ as, lo < a
  at_ : ∀ (j : Nat) (a : Addr), as[j]? = some a → ∃ x t, its[j]? = some x ∧ h.get? a = some { cls := .type "tuple", data := .seq #[.int j t, x] }
theorem EnG.lt {its : Array Value} {lo : Addr} {h : Heap} {as : List Addr} (g : EnG its lo h as) {b : Addr} (hb : b ∈ as) : b < h.objs.size := by
  obtain ⟨j, hj⟩ := List.mem_iff_getElem?.mp hb
  obtain ⟨x, t, _, q⟩ := g.at_ j b hj
  exact Heap.lt_size q
section
variable {R : Result → Shared → Prop} {its : Array Value}
theorem en_loop {S : Addr} (hh : A.handled = none) (nSe : S ≠ e) (nSi : S ≠ it) (ne : e ≠ it) (lS : l ≠ S) (le : l ≠ e) (li : l ≠ it) (hn : its.size ≤ sizeLine) (res : Value) {lo : Addr} (Slo : S ≤ lo) (elo : e ≤ lo) (ilo : it ≤ lo) {h0 : Heap}
    (hR : ∀ h' tk acc c as, (∀ b o, b ≠ S → b ≠ e → b ≠ it → h0.get? b = some o → h'.get? b = some o) → h'.get? S = some { cls := .type "list", data := .seq acc c } → as.length = its.size → EnG its lo h' as → acc.toList = as.map Value.ref →
      R (.ok (.ret res)) { s with heap := h', toks := tk }) :
    ∀ (k i : Nat) (h : Heap) (tk c : Nat) (acc : Array Value) (as : List Addr), its.size = i + k → EnSt h e it S i → h.IsListIter it l i → h.IsList l its → (∀ b o, b ≠ S → b ≠ e → b ≠ it → h0.get? b = some o → h.get? b = some o) →
      h.get? S = some { cls := .type "list", data := .seq acc c } → acc.toList = as.map Value.ref → as.length = i → EnG its lo h as → lo < h.objs.size →
      codeAny (model prog w) A (.builtin "list.extend.loop" ⟨[.ref S, .ref e, res], []⟩) R { s with heap := h, toks := tk } := by
  intro k
  induction k with
  | zero =>
    intro i h tk c acc as hk q1 q2 q3 q4 q5 q6 q7 q8 q9
    refine codeAny_builtin PySem.F.entry_extend_loop ?_
    rw [Around.under_plainId PySem.F.plain_extend_loop _]
    show wpAny _ A.in1 (pyNext (.ref e) >>= _) _ _ _
    refine wpAny_bind (en_done (s := { s with heap := h, toks := tk }) (A := A.in1) hh q1 q2 q3 (Array.getElem?_eq_none (by omega)) fun h' z => wpAny_pure ?_)
    refine hR h' tk acc c as (fun b o n1 n2 n3 y => z b o n3 (q4 b o n1 n2 n3 y)) (z S _ nSi q5) (by omega) ⟨q8.rise, q8.above, fun j b hj => ?_⟩ q6
    obtain ⟨x, t, y1, y2⟩ := q8.at_ j b hj
    exact ⟨x, t, y1, z b _ (Nat.ne_of_gt (Nat.lt_of_le_of_lt ilo (q8.above b (List.mem_of_getElem? hj)))) y2⟩
  | succ k ih =>
    intro i h tk c acc as hk q1 q2 q3 q4 q5 q6 q7 q8 q9
    have hx : its[i]? = some its[i] := Array.getElem?_eq_getElem (by omega)
    have sz : acc.size = i := by rw [← Array.length_toList, q6, List.length_map, q7]
    refine codeAny_builtin PySem.F.entry_extend_loop ?_
    rw [Around.under_plainId PySem.F.plain_extend_loop _]
    show wpAny _ A.in1 (pyNext (.ref e) >>= _) _ _ _
    refine wpAny_bind (en_next (s := { s with heap := h, toks := tk }) (S := S) q1 q2 q3 hx ne (Heap.lt_size q5) fun h' y1 y2 y3 y4 y5 => ?_)
    dsimp only at y3 y4 y5 ⊢
    have S' := y5 S _ nSe nSi q5
    have Sl : S < h.objs.size := Heap.lt_size q5
    have up : ∀ b o, b ≠ S → h'.get? b = some o → (h'.update S (Obj.mapSeq (·.push (Value.ref h.objs.size)))).get? b = some o := fun b o n y => (Heap.get?_update_other _ _ (Ne.symm n)).trans y
    show wpAny _ A.in1 (updateSeq S (·.push (Value.ref h.objs.size)) >>= _) _ _ _
    refine wpAny_bind (wpAny_updateSeq S' rfl (wpAny_pure ⟨plainId_quiet PySem.F.plain_extend_loop _, ih (i + 1) _ (tk + 1) _ (acc.push (Value.ref h.objs.size)) (as ++ [h.objs.size]) (by omega) (y1.keep up (Ne.symm nSe)) (y2.at fun o y => up it o (Ne.symm nSi) y)
      ((q3.at fun o y => y5 l o le li y).at fun o y => up l o lS y) (fun b o n1 n2 n3 y => up b o n1 (y5 b o n2 n3 (q4 b o n1 n2 n3 y))) (Heap.get?_update_self _ S' rfl) (by rw [Array.toList_push, q6, List.map_append]; rfl) (by rw [List.length_append, q7]; rfl) ⟨?_, ?_, ?_⟩ ?_⟩) (by rw [sz]; omega)
      (by show (acc.push (Value.ref h.objs.size)).size ≤ sizeLine + 1; rw [Array.size_push, sz]; omega))
    · refine List.pairwise_append.mpr ⟨q8.rise, List.pairwise_singleton _ _, fun b hb b' hb' => ?_⟩
      rw [List.mem_singleton.mp hb']
      exact q8.lt hb
    · intro b hb
      rcases List.mem_append.mp hb with hb | hb
      · exact q8.above b hb
      · rw [List.mem_singleton.mp hb]; exact q9
    · intro j b hj
      by_cases c1 : j < as.length
      · rw [List.getElem?_append_left c1] at hj
        obtain ⟨x, t, z1, z2⟩ := q8.at_ j b hj
        have hb := q8.above b (List.mem_of_getElem? hj)
        exact ⟨x, t, z1, up b _ (Nat.ne_of_gt (Nat.lt_of_le_of_lt Slo hb)) (y5 b _ (Nat.ne_of_gt (Nat.lt_of_le_of_lt elo hb)) (Nat.ne_of_gt (Nat.lt_of_le_of_lt ilo hb)) z2)⟩
      · by_cases c2 : j = as.length
        · subst c2
          have hb : h.objs.size = b := by simpa using hj
          subst hb
          exact ⟨its[i], tk, by rw [q7]; exact hx, by rw [q7]; exact up _ _ (Nat.ne_of_gt Sl) y3⟩
        · rw [List.getElem?_eq_none (by simp; omega)] at hj
          cases hj
    · have : (h'.update S (Obj.mapSeq (·.push (Value.ref h.objs.size)))).get? h.objs.size = _ := up _ _ (Nat.ne_of_gt Sl) y3
      exact Nat.lt_trans q9 (Heap.lt_size this)
end
theorem en_nolen : typeLookup (.type "enumerate") "__len__" = pure none := by rw [typeLookup_type, builtinLookup_eq_fast]; kernel_rfl
theorem en_nohint : typeLookup (.type "enumerate") "__length_hint__" = pure none := by rw [typeLookup_type, builtinLookup_eq_fast]; kernel_rfl
theorem en_hint {e : Addr} (hT : s.TypeIs (.ref e) "enumerate") {Q : Bool → Shared → Prop} (h : Q true s) : wpAny (model prog w) A (Builtin.List.listLengthHint (.ref e)) Q E s := by
  unfold Builtin.List.listLengthHint
  refine wpAny_bind (wpAny_specialOf hT en_nolen ?_)
  show wpAny _ _ (specialOf (Value.ref e) (Str.ofString "__length_hint__") >>= _) _ _ _
  refine wpAny_bind (wpAny_specialOf hT en_nohint ?_)
  exact wpAny_pure h
theorem en_extend {R : Result → Shared → Prop} {its : Array Value} {S : Addr} {c0 : Nat} (hh : A.handled = none) (he : IsEnum s.heap e it 0 .none) (hi : s.heap.IsListIter it l 0) (hl : s.heap.IsList l its) (ne : e ≠ it) (lS : l ≠ S) (le : l ≠ e) (li : l ≠ it) (eS : e < S) (iS : it < S)
    (hn : its.size ≤ sizeLine) (res : Value) (hS : s.heap.get? S = some { cls := .type "list", data := .seq #[] c0 })
    (hR : ∀ h' tk acc c as, (∀ b o, b ≠ S → b ≠ e → b ≠ it → s.heap.get? b = some o → h'.get? b = some o) → h'.get? S = some { cls := .type "list", data := .seq acc c } → as.length = its.size → EnG its S h' as → acc.toList = as.map Value.ref →
      R (.ok (.ret res)) { s with heap := h', toks := tk }) :
    wpAny (model prog w) A.in1 (Builtin.List.listExtendWith (.ref S) (.ref e) res)
      (fun fin s' => match fin with | .done f => R (.ok f) s' | .again c' => c'.quiet = true ∧ codeAny (model prog w) A c' R s') (fun e s' => R (.error e) s') s := by
  have hT : s.TypeIs (.ref e) "enumerate" := ⟨_, he, rfl⟩
  have key : ∀ (h : Heap) (c1 tk : Nat), (∀ b o, b ≠ S → s.heap.get? b = some o → h.get? b = some o) → h.get? S = some { cls := .type "list", data := .seq #[] c1 } →
      codeAny (model prog w) A (.builtin "list.extend.loop" ⟨[.ref S, .ref e, res], []⟩) R { s with heap := h, toks := tk } := by
    intro h c1 tk hk h1
    have Sl : S < h.objs.size := Heap.lt_size h1
    exact en_loop (s := s) (h0 := s.heap) hh (Nat.ne_of_gt eS) (Nat.ne_of_gt iS) ne lS le li hn res (Nat.le_refl S) (Nat.le_of_lt eS) (Nat.le_of_lt iS) hR its.size 0 h tk c1 #[] [] (Nat.zero_add _).symm (.inl ⟨.none, hk e _ (Nat.ne_of_lt eS) he⟩)
      (hi.at fun o y => hk it o (Nat.ne_of_lt iS) y) (hl.at fun o y => hk l o lS y) (fun b o n1 _ _ y => hk b o n1 y) h1 rfl rfl ⟨List.Pairwise.nil, (fun _ z => nomatch z), fun j b hj => by simp at hj⟩ Sl
  unfold Builtin.List.listExtendWith
  refine wpAny_bind (wpAny_typeOf (T := "enumerate") hT ?_)
  have h1 : Builtin.List.listSameRef (.ref S) (.ref e) = false := by simp [Builtin.List.listSameRef, Nat.ne_of_gt eS]
  have h2 : (Value.type "enumerate" == Value.type "list") = false := by decide
  have h3 : (Value.type "enumerate" == Value.type "tuple") = false := by decide
  simp only [h1, h2, h3, Bool.or_false, Bool.false_eq_true, if_false]
  refine wpAny_bind (wpAny_pyIter_enum he ?_)
  refine wpAny_bind (wpAny_holding (en_hint hT ?_))
  refine wpAny_ite_split (fun _ => ?_) (fun _ => wpAny_pure ⟨plainId_quiet PySem.F.plain_extend_loop _, key _ c0 _ (fun b o _ y => y) hS⟩)
  refine wpAny_bind (wpAny_rule (wpAny_bind ?_))
  show wpAny _ _ (updateSeq S (·.push .none) >>= fun _ => updateSeq S (·.pop)) _ _ _
  refine wpAny_bind (wpAny_updateSeq hS rfl ?_)
  have S2 := Heap.get?_update_self (Obj.mapSeq (·.push Value.none)) hS rfl
  refine wpAny_updateSeq (hz := by seq_fits) S2 rfl ?_
  have S3 := Heap.get?_update_self (Obj.mapSeq (·.pop)) S2 rfl
  exact wpAny_pure ⟨plainId_quiet PySem.F.plain_extend_loop _, key _ _ _ (fun b o n y => (Heap.get?_update_other _ _ (Ne.symm n)).trans ((Heap.get?_update_other _ _ (Ne.symm n)).trans y)) S3⟩
theorem en_list {its : Array Value} {Q : Value → Shared → Prop} (hh : A.handled = none) (he : IsEnum s.heap e it 0 .none) (hi : s.heap.IsListIter it l 0) (hl : s.heap.IsList l its) (ne : e ≠ it) (le : l ≠ e) (li : l ≠ it) (hn : its.size ≤ sizeLine)
    (hQ : ∀ h' tk acc c as, (∀ b o, b ≠ e → b ≠ it → s.heap.get? b = some o → h'.get? b = some o) → h'.get? s.heap.objs.size = some { cls := .type "list", data := .seq acc c } → as.length = its.size → EnG its s.heap.objs.size h' as → acc.toList = as.map Value.ref →
      Q (.ref s.heap.objs.size) { s with heap := h', toks := tk }) :
    wpAny (model prog w) A (call (.type "list") [.ref e]) Q E s := by
  have lt1 : e < s.heap.objs.size := Heap.lt_size he
  have lt2 : it < s.heap.objs.size := by obtain ⟨_, q, _⟩ := hi; exact Heap.lt_size q
  have lt3 : l < s.heap.objs.size := by obtain ⟨_, q, _⟩ := hl; exact Heap.lt_size q
  refine callType_codes (Q₁ := fun obj s1 => obj = .ref s.heap.objs.size ∧ s1 = { s with heap := s.heap.push { cls := .type "list", data := .seq #[] } }) PySem.F.called_list (PySem.F.typeCall_list_1 _) PySem.F.entry_list_init (code_list_new _ ⟨rfl, rfl⟩) fun obj s1 z => ?_
  obtain ⟨rfl, rfl⟩ := z
  have hS : (s.heap.push { cls := .type "list", data := .seq #[] }).get? s.heap.objs.size = some { cls := .type "list", data := .seq #[] } := Heap.get?_push_size _ rfl
  refine ⟨⟨_, hS, rfl⟩, PySem.F.args_list_init_2 _ _, ?_⟩
  show wpAny _ _ (do let old ← Builtin.List.listItems (.ref s.heap.objs.size); Builtin.List.listUpdate (.ref s.heap.objs.size) (fun _ => #[]); letGo old.toList.reverse; Builtin.List.listExtendWith (.ref s.heap.objs.size) (.ref e) .none) _ _ _
  refine wpAny_bind ?_
  unfold Builtin.List.listItems
  refine wpAny_bind (wpAny_seqItems hS rfl (wpAny_pure ?_))
  show wpAny _ _ (updateSeq s.heap.objs.size (fun _ => #[]) >>= fun _ => letGo (#[] : Array Value).toList.reverse >>= fun _ => Builtin.List.listExtendWith (.ref s.heap.objs.size) (.ref e) .none) _ _ _
  refine wpAny_bind (wpAny_updateSeq hS rfl ?_)
  have S2 := Heap.get?_update_self (Obj.mapSeq (fun _ => (#[] : Array Value))) hS rfl
  have oth : ∀ b o, s.heap.get? b = some o → ((s.heap.push { cls := .type "list", data := .seq #[] }).update s.heap.objs.size (Obj.mapSeq (fun _ => (#[] : Array Value)))).get? b = some o := fun b o y =>
    (Heap.get?_update_other _ _ (Nat.ne_of_gt (Heap.lt_size y))).trans (Heap.get?_push_of_some _ y)
  refine wpAny_bind (wpAny_letGo ?_)
  refine en_extend (A := A.in1) hh (oth _ _ he) (hi.at fun o y => oth it o y) (hl.at fun o y => oth l o y) ne (Nat.ne_of_lt lt3) le li lt1 lt2 hn .none S2 fun h' tk acc c as q1 q2 q3 q4 q5 => ?_
  exact ⟨rfl, hQ h' tk acc c as (fun b o n1 n2 y => q1 b o (Nat.ne_of_lt (Heap.lt_size y)) n1 n2 (oth b o y)) q2 q3 q4 q5⟩
end
/-- the pairs' tuples, tracked from turn k on -/
def putE : Hp → Nat → List Addr → List V → Hp
  | H, k, a :: as, x :: xs => putE (upd H a (.tup [.int (k : Nat), x])) (k + 1) as xs
  | H, _, _, _ => H
theorem putE_off {b : Addr} : ∀ (as : List Addr) (xs : List V) (k : Nat) (H : Hp), b ∉ as → putE H k as xs b = H b
  | [], _, _, _, _ => rfl
  | _ :: _, [], _, _, _ => rfl
  | a :: as, x :: xs, k, H, h => by
    have h1 : b ≠ a := fun z => h (z ▸ List.mem_cons_self)
    have h2 : b ∉ as := fun z => h (List.mem_cons_of_mem _ z)
    unfold putE
    rw [putE_off as xs _ _ h2, upd_ne h1]
theorem putE_on : ∀ (as : List Addr) (xs : List V) (k : Nat) (H : Hp) (j : Nat) (a : Addr) (x : V), as.Nodup → as[j]? = some a → xs[j]? = some x → putE H k as xs a = some (.tup [.int ((k + j : Nat) : Int), x])
  | [], _, _, _, _, _, _, _, h, _ => by simp at h
  | _ :: _, [], _, _, _, _, _, _, _, h => by simp at h
  | a :: as, x :: xs, k, H, 0, b, y, hn, h1, h2 => by
    have e1 : a = b := by simpa using h1
    have e2 : x = y := by simpa using h2
    subst e1; subst e2
    unfold putE
    rw [putE_off as xs _ _ (List.nodup_cons.mp hn).1, upd_same]
    rfl
  | a :: as, x :: xs, k, H, j + 1, b, y, hn, h1, h2 => by
    have ih := putE_on as xs (k + 1) (upd H a (.tup [.int (k : Nat), x])) j b y (List.nodup_cons.mp hn).2 (by simpa using h1) (by simpa using h2)
    unfold putE
    rw [ih, show k + 1 + j = k + (j + 1) by omega]
def tListEnum (K : PySem.W.Frag) (ta : TE) : TE := fun σ H Q => ta σ H fun x H1 => ∃ (l : Addr) (xs : List V), x = .ref l ∧ SqL K H1 l xs ∧ ∀ (H' : Hp) (p : Addr) (ts : List Addr), Same H1 H' → H1 p = none → (∀ t ∈ ts, H1 t = none ∧ t ≠ p) → H' p = some (.lst (ts.map V.ref)) → ts.length = xs.length →
  (∀ (j : Nat) (t : Addr) (x : V), ts[j]? = some t → xs[j]? = some x → H' t = some (.tup [.int (j : Nat), x])) → Q (.ref p) H'
section
variable {X : Cx} {e : Expr} {te : TE} {p p2 pos cpos : Pos}
theorem vals_ref : ∀ as : List Addr, Vals (as.map V.ref) (as.map Value.ref)
  | [] => .nil
  | _ :: as => .cons rfl (vals_ref as)
theorem enum_laid {pins : List (Addr × Obj)} {σ : L2.St} {H : Hp} {s : Shared} {h' : Heap} {tk : Nat} {xs : List V} {its : List Value} {acc : Array Value} {c : Nat} {as : List Addr} {q : Addr} (I : Inv X pins σ H s) (hz : xs.length ≤ sizeLine) (rv : Vals xs its) (hq : s.heap.objs.size ≤ q)
    (hk : ∀ b o, s.heap.get? b = some o → h'.get? b = some o) (hS : h'.get? q = some { cls := .type "list", data := .seq acc c }) (hl : as.length = its.length) (hG : EnG its.toArray q h' as) (ha : acc.toList = as.map Value.ref) :
    ∃ H' : Hp, Same H H' ∧ H q = none ∧ (∀ t ∈ as, H t = none ∧ t ≠ q) ∧ H' q = some (.lst (as.map V.ref)) ∧ as.length = xs.length ∧ (∀ (j : Nat) (t : Addr) (x : V), as[j]? = some t → xs[j]? = some x → H' t = some (.tup [.int (j : Nat), x])) ∧ Inv X pins σ H' { s with heap := h', toks := tk } := by
  have lx : xs.length = its.length := rv.length
  have nd : as.Nodup := List.Pairwise.imp (fun {a b} (h : a < b) => Nat.ne_of_lt h) hG.rise
  have nw : ∀ t ∈ as, H t = none := fun t ht => I.hok.fresh (Nat.le_trans hq (Nat.le_of_lt (hG.above t ht)))
  have nq : H q = none := I.hok.fresh hq
  have qn : ∀ t ∈ as, t ≠ q := fun t ht z => Nat.lt_irrefl _ (z ▸ hG.above t ht)
  obtain ⟨H', hH'⟩ : ∃ H', H' = putE (upd H q (.lst (as.map V.ref))) 0 as xs := ⟨_, rfl⟩
  have off : ∀ b, b ∉ as → b ≠ q → H' b = H b := fun b h1 h2 => by rw [hH', putE_off _ _ _ _ h1, upd_ne h2]
  have on : ∀ (j : Nat) (t : Addr) (x : V), as[j]? = some t → xs[j]? = some x → H' t = some (.tup [.int (j : Nat), x]) := fun j t x h1 h2 => by
    rw [hH', putE_on as xs 0 _ j t x nd h1 h2, Nat.zero_add]
  have eq : H' q = some (.lst (as.map V.ref)) := by rw [hH', putE_off _ _ _ _ (fun z => qn q z rfl), upd_same]
  have kp : Same H H' := fun b u y => by
    rw [off b (fun z => by rw [nw b z] at y; cases y) (fun z => by rw [z, nq] at y; cases y)]
    exact y
  refine ⟨H', kp, nq, fun t ht => ⟨nw t ht, qn t ht⟩, eq, by omega, on, ?_⟩
  refine I.call' (ch := []) rfl ⟨fun b o y _ _ _ => hk b o y, fun b o y _ _ _ => ⟨o.slots, hk b o y⟩, fun b o y n _ => ?_, fun b o y _ => ⟨o, hk b o y⟩, fun b _ y => kp b _ y, fun b o u y => kp b _ y, fun b ps y => ⟨#[], by rw [kp b _ y]; simp⟩⟩ (fun b u y => ?_) I.bare fun b z => by simp at z
  · have lb : b < s.heap.objs.size := Heap.lt_size y
    rw [off b (fun z => Nat.lt_irrefl _ (Nat.lt_trans lb (Nat.lt_of_le_of_lt hq (hG.above b z)))) (fun z => by subst z; exact Nat.lt_irrefl _ (Nat.lt_of_lt_of_le lb hq))]
    exact n
  · by_cases hb : b ∈ as
    · obtain ⟨j, hj⟩ := List.mem_iff_getElem?.mp hb
      have jl : j < as.length := (List.getElem?_eq_some_iff.mp hj).1
      have hx : xs[j]? = some (xs[j]'(by omega)) := List.getElem?_eq_getElem _
      obtain ⟨v, t, e1, e2⟩ := hG.at_ j b hj
      obtain ⟨v', g1, g2⟩ := rv.get hx
      have : v' = v := by
        have e3 : its[j]? = some v := by simpa using e1
        rw [e3] at g1; cases g1; rfl
      subst this
      rw [on j b _ hj hx] at y
      cases y
      exact ⟨by show 2 ≤ sizeLine; decide, [.int j t, v'], .cons ⟨_, rfl⟩ (.cons g2 .nil), ⟨_, e2, rfl, _, rfl⟩⟩
    · by_cases hb2 : b = q
      · subst hb2
        rw [eq] at y
        cases y
        exact ⟨by rw [List.length_map]; omega, acc.toList, c, by rw [ha]; exact vals_ref as, by rw [Array.toArray_toList]; exact hS⟩
      · rw [off b hb hb2] at y
        exact (I.hok b u y).stay (fun d v _ z => hk d v z) (fun d z => kp d _ z) fun d xs z => kp d _ z
theorem pe_listEnum (hc : X.calm = true) (he : PE X e te) (hg : Gl X "list") (hm : X.mg "list" = none) (hg2 : Gl X "enumerate") (hm2 : X.mg "enumerate" = none)
    (hs : starEach [.Call (.Name "enumerate" p2) [e] [] cpos] X.env = (false, eval (.Call (.Name "enumerate" p2) [e] [] cpos) X.env) :: starEach [] X.env := by rfl) (hs2 : starEach [e] X.env = [(false, eval e X.env)] := by rfl) (hs2' : starEach [e] X.env = (false, eval e X.env) :: starEach [] X.env := by rfl) :
    PE X (.Call (.Name "list" p) [.Call (.Name "enumerate" p2) [e] [] cpos] [] pos) (tListEnum X.K te) := by
  refine ⟨fun pins s σ H Q I hq => ?_⟩
  refine Call_ (ld_blt I hg hm boot_list (PyProof.Rows.callWith_type1 ?_ hs rfl))
  rw [hs]
  show wpAny _ _ (spliced ((false, eval (.Call (.Name "enumerate" p2) [e] [] cpos) X.env) :: backTo pos (starEach [] X.env))) _ _ s
  refine Calls.spliced_cons ?_
  have h0 := (pa_cons he pa_nil hs2').run cpos pins s σ H (fun vs H1 => match vs with
    | [x] => ∃ (l : Addr) (xs : List V), x = .ref l ∧ SqL X.K H1 l xs ∧ ∀ (H' : Hp) (p : Addr) (ts : List Addr), Same H1 H' → H1 p = none → (∀ t ∈ ts, H1 t = none ∧ t ≠ p) → H' p = some (.lst (ts.map V.ref)) → ts.length = xs.length →
      (∀ (j : Nat) (t : Addr) (x : V), ts[j]? = some t → xs[j]? = some x → H' t = some (.tup [.int (j : Nat), x])) → Q (.ref p) H'
    | _ => False) I hq
  refine Call_ (ld_blt I hg2 hm2 boot_enumerate (PyProof.Rows.callWith_type1 (thn h0 fun us s1 ⟨vs, H1, I1, r1, q⟩ => ?_) hs2 rfl))
  match vs, r1, q with
  | [x], r1, ⟨l, xs, ex, hl, q⟩ =>
    subst ex
    obtain ⟨u, rfl, ru⟩ := r1.one
    cases ru
    obtain ⟨its, rv, pl, hz⟩ := I1.list hl
    have ll : l < s1.heap.objs.size := by obtain ⟨_, y, _⟩ := pl.isList; exact Heap.lt_size y
    refine call_enumerate_list pl.isList fun h2 he2 hi2 hz2 hk2 => ?_
    refine Calls.spliced_nil ?_
    refine en_list (s := { s1 with heap := h2 }) (its := its.toArray) (I1.ok.hd hc) he2 hi2 (pl.isList.at fun o y => hk2 l o y) (Nat.succ_ne_self _) (Nat.ne_of_lt (Nat.lt_succ_of_lt ll)) (Nat.ne_of_lt ll) (by rw [List.size_toArray, ← rv.length]; exact hz) fun h' tk acc c as q1 q2 q3 q4 q5 => ?_
    have hk : ∀ b o, s1.heap.get? b = some o → h'.get? b = some o := fun b o y => q1 b o (Nat.ne_of_lt (Nat.lt_succ_of_lt (Heap.lt_size y))) (Nat.ne_of_lt (Heap.lt_size y)) (hk2 b o y)
    obtain ⟨H', k1, k2, k3, k4, k5, k6, J⟩ := enum_laid (tk := tk) I1 hz rv (show s1.heap.objs.size ≤ h2.objs.size by omega) hk q2 (by simpa using q3) q4 q5
    exact ⟨.ref _, H', J, rfl, q H' _ as k1 k2 k3 k4 k5 k6⟩
end
end C
namespace C
open PySem PySem.Spec PyProof.Rows L2
section
variable {X : Cx} {cl : Nat → Addr} {a b c e : Expr} {es : List Expr} {fa fb fc : EX} {qa qb qc : QX} {ta tb : TX} {ga : AX} {na : NX} {pos p2 p cpos : Pos} {x : Str}
theorem Reps.of_at {K : PySem.W.Frag} {G : Hp} : ∀ (ms : List MV) (vs : List V), vs.length = ms.length → (∀ (j : Nat) (m : MV) (v : V), ms[j]? = some m → vs[j]? = some v → Rep K cl G m v) → Reps K cl G ms vs
  | [], [], _, _ => Reps.nil
  | [], _ :: _, h, _ => by simp at h
  | _ :: _, [], h, _ => by simp at h
  | m :: ms, v :: vs, h, k => Reps.cons (k 0 m v rfl rfl) (Reps.of_at ms vs (by simpa using h) fun j m v h1 h2 => k (j + 1) m v (by simpa using h1) (by simpa using h2))
/-- list(enumerate(xs)) -/
def nEnum (qa : QX) : NX := fun env Q => qa env fun o => asL o fun ms => Q (.lst (enM ms))
theorem mn_enum (hc : X.calm = true) (ha : MQ X cl a qa) (hg : Gl X "list") (hm : X.mg "list" = none) (hg2 : Gl X "enumerate") (hm2 : X.mg "enumerate" = none)
    (hs : starEach [.Call (.Name "enumerate" p2) [a] [] cpos] X.env = (false, eval (.Call (.Name "enumerate" p2) [a] [] cpos) X.env) :: starEach [] X.env := by rfl) (hs2 : starEach [a] X.env = [(false, eval a X.env)] := by rfl) (hs2' : starEach [a] X.env = (false, eval a X.env) :: starEach [] X.env := by rfl) :
    MN X cl (.Call (.Name "list" p) [.Call (.Name "enumerate" p2) [a] [] cpos] [] pos) (nEnum qa) := by
  refine ⟨fun env Q Q' k q => ha.mo _ _ _ (fun m z => asL_mo (fun _ z => k _ z) z) q, PEmono (pe_listEnum hc ha.pe hg hm hg2 hm2 hs hs2 hs2') fun σ H Q ⟨β, G, env, r0, q⟩ => ?_⟩
  refine ⟨β, G, env, r0, ha.mo _ _ _ (fun o z v H' G' e rv => ?_) q⟩
  obtain ⟨ms, l, vs, rfl, y1, y2, z⟩ := asL_rep e.gh z rv
  refine ⟨l, vs, rfl, SqL.of y1, fun H2 q ts k1 k2 k3 k4 k5 k6 => ?_⟩
  have lm : vs.length = ms.length := Reps.len _ _ y2
  have gn : ∀ b ∈ ts, G' b = none := fun b hb => e.gh.free (k3 b hb).1
  have e2 : Ext H' G' H2 (frzG H2 G' ts) := by
    refine ⟨k1, frzG_same gn, fun b u h => ?_, fun b h1 h2 => ?_⟩
    · unfold frzG at h
      split at h
      · exact h
      · exact k1 b u (e.gh b u h)
    · unfold frzG
      rw [if_neg (fun z => h1 (k3 b z).1)]
      exact h2
  refine z _ _ _ [q] (e.trans e2) ?_ fun b hb => ?_
  · unfold RepO
    refine ⟨q, ts.map V.ref, rfl, rfl, k4, Reps.of_at _ _ (by unfold enM; simp; omega) fun j m v h1 h2 => ?_⟩
    unfold enM at h1
    rw [List.getElem?_mapIdx] at h1
    rw [List.getElem?_map] at h2
    cases em : ms[j]? with
    | none => rw [em] at h1; cases h1
    | some m0 =>
      cases et : ts[j]? with
      | none => rw [et] at h2; cases h2
      | some t =>
        rw [em] at h1; rw [et] at h2
        have h1' : MV.tup [.int (j : Nat), m0] = m := by simpa using h1
        have h2' : V.ref t = v := by simpa using h2
        subst h1'; subst h2'
        obtain ⟨w, w1, w2⟩ := Reps.get _ _ j m0 y2 em
        have tt := k6 j t w et w1
        unfold Rep
        exact ⟨t, [.int (j : Nat), w], rfl, SqT.of (by unfold frzG; rw [if_pos (List.mem_of_getElem? et)]; exact tt), Reps.cons rep_int (Reps.cons (Rep.same e2.gg _ _ w2) Reps.nil)⟩
  · have : b = q := by simpa using hb
    subst this
    refine ⟨e.hh.free k2, ?_, by rw [k4]; simp⟩
    unfold frzG
    rw [if_neg (fun z => (k3 b z).2 rfl)]
    exact e.gh.free k2
/-! range(i, j, -1) -/
@[irreducible] def rdM (lo : Int) (n : Nat) : List MV := (List.range n).map fun i => .int (lo - (i : Nat))
theorem rdM_len {lo : Int} {n : Nat} : (rdM lo n).length = n := by unfold rdM; simp
theorem rdM_at {lo : Int} {n i : Nat} {m : MV} (h : (rdM lo n)[i]? = some m) : i < n ∧ m = .int (lo - i) := by
  unfold rdM at h
  rw [List.getElem?_map] at h
  by_cases c : i < n
  · rw [List.getElem?_range c] at h
    exact ⟨c, by simpa using h.symm⟩
  · rw [List.getElem?_eq_none (by simp; omega)] at h
    cases h
theorem it_rangeD {K : PySem.W.Frag} {G KH : Hp} {lo : Int} {n : Nat} : ItOk K cl (Itc lo (-1) n) (rdM lo n) G KH := by
  refine ⟨YFn fun i => .int (lo - (i : Nat)), ?_, fun i H G1 x H' hi hk hg hh y => ?_⟩
  · rw [rdM_len]
    refine ⟨fun i H hi _ => hi, fun H _ => Nat.le_refl _, fun i H x H' hi _ y => ?_⟩
    obtain ⟨rfl, y⟩ := y
    subst y
    refine ⟨rfl, ?_⟩
    show V.int _ = V.int _
    congr 1
    omega
  · obtain ⟨rfl, y⟩ := y
    subst y
    rw [rdM_len] at hi
    exact ⟨G1, .int (lo - (i : Nat)), Ext.refl hh, by unfold rdM; simp [hi], rep_int⟩
def lRD (qa qb : QX) : LX := fun env Q => qa env fun m => qb env fun n => asFro m fun m => asFro n fun n => asInt m fun i => asInt n fun j => (small i ∧ small j) ∧ Q (rdM i (i - j).toNat)
theorem m_neg1 {j} {p3 : Pos} : PE X (.UnaryOp .USub (.Constant (.int 1) j p2) p3) (fun σ H Q => Q (.int (-1)) H) := PEmono (pe_un un_neg pe_int) fun σ H Q q => ⟨1, rfl, q⟩
theorem mi_rangeD {tg : Expr} {jj} {p3 : Pos} (hg : Gl X "range") (hm : X.mg "range" = none) (ha : MQ X cl a qa) (hb : MQ X cl b qb)
    (hs : starEach [a, b, .UnaryOp .USub (.Constant (.int 1) jj p2) p3] X.env = (false, eval a X.env) :: starEach [b, .UnaryOp .USub (.Constant (.int 1) jj p2) p3] X.env := by rfl)
    (hsb : starEach [b, .UnaryOp .USub (.Constant (.int 1) jj p2) p3] X.env = (false, eval b X.env) :: starEach [.UnaryOp .USub (.Constant (.int 1) jj p2) p3] X.env := by rfl)
    (hsc : starEach [.UnaryOp .USub (.Constant (.int 1) jj p2) p3] X.env = (false, eval (.UnaryOp .USub (.Constant (.int 1) jj p2) p3) X.env) :: starEach [] X.env := by rfl)
    (hpl : (backTo pos (starEach [b, .UnaryOp .USub (.Constant (.int 1) jj p2) p3] X.env)).any (·.1) = false := by rfl) :
    MI X cl tg (.Call (.Name "range" p) [a, b, .UnaryOp .USub (.Constant (.int 1) jj p2) p3] [] pos) (lRD qa qb) := by
  refine ⟨fun env Q Q' k q => ha.mo _ _ _ (fun m z => hb.mo _ _ _ (fun n z => asFro_mo (fun _ z => asFro_mo (fun _ z => asInt_mo (fun _ z => asInt_mo (fun _ z => ⟨z.1, k _ z.2⟩) z) z) z) z) z) q, PImono (pi_range3 hg hm (pa_cons ha.pe (pa_cons hb.pe (pa_cons m_neg1 pa_nil hsc) hsb) hs) hs hpl) fun σ H Q ⟨β, G, env, r0, q⟩ => ?_⟩
  refine ⟨β, G, env, r0, ha.mo _ _ _ (fun m z v H' G' e rv => ?_) q⟩
  refine ⟨β, G', env, r0.ext e, hb.mo _ _ _ (fun n z w H2 G2 e2 rw => ?_) z⟩
  have rv' := Same.repB rv e2
  cases m with
  | fro m =>
    cases n with
    | fro n =>
      unfold RepB at rv' rw
      obtain ⟨i, rfl, rfl, z⟩ := asInt_rep (show asInt m _ from z) rv'
      obtain ⟨j, rfl, rfl, z⟩ := asInt_rep z rw
      exact ⟨i, j, -1, _, rfl, RgC.neg z.1.1.1 z.1.1.2 z.1.2.1 z.1.2.2, z.2 _ H2 G2 G2 (e.trans e2) (Same.refl _) it_rangeD⟩
    | _ => exact (asFro_mo (Q' := fun _ => False) (fun _ z => z) z).elim
  | _ => exact z.elim
/-! sorted(ints), sorted(pairs) -/
def gSortI := onInts fun ns Q => ∀ ns' : List Int, ns'.Perm ns → ns'.Pairwise (· ≤ ·) → Q (.lst (ns'.map .int))
theorem gb_sortI : GB X cl (.builtin "sorted") gSortI := by
  refine ⟨onInts_mo fun i Q Q' k q ns' h1 h2 => k _ (q ns' h1 h2), _, cr_sortedI, fun m x H G Q g r q => ?_⟩
  obtain ⟨p, bs, rfl, h, q⟩ := onInts_rep g q r
  exact ⟨p, bs, rfl, h, fun ns' l h1 h2 hl => q ns' h1 h2 _ _ _ (Ext.new g hl) (new_lst g hl (reps_ints ns'))⟩
/-- xs[::-1] -/
def nRev (qa : QX) : NX := fun env Q => qa env fun o => asL o fun ms => Q (.lst ms.reverse)
theorem mn_rev {j} {p1 p2 p3 : Pos} (ha : MQ X cl a qa) : MN X cl (.Subscript a (.Slice none none (some (.UnaryOp .USub (.Constant (.int 1) j p1) p2)) p3) pos) (nRev qa) := by
  refine ⟨fun env Q Q' k q => ha.mo _ _ _ (fun m z => asL_mo (fun _ z => k _ z) z) q, PEmono (pe_revL ha.pe) fun σ H Q ⟨β, G, env, r0, q⟩ => ?_⟩
  refine ⟨β, G, env, r0, ha.mo _ _ _ (fun o z v H' G' e rv => ?_) q⟩
  obtain ⟨ms, l, vs, rfl, y1, y2, z⟩ := asL_rep e.gh z rv
  exact ⟨l, vs, rfl, SqL.of y1, fun p hp => new_own (Q := fun _ v H => Q v H) e hp (Reps.rev _ _ y2) z⟩
/-! x in xs, of ints -/
def gInI (neg : Bool) : GR := fun m n Q => asFro m fun m => asInt m fun i => asL n fun ms => match intsL ms with
  | some ns => Q (neg ^^ dB (i ∈ ns))
  | none => False
theorem gInI_mo {neg : Bool} : ∀ m n (Q Q' : Bool → Prop), (∀ k, Q k → Q' k) → gInI neg m n Q → gInI neg m n Q' := fun m n Q Q' k q =>
  asFro_mo (fun _ z => asInt_mo (fun _ z => asL_mo (fun _ z => by
    split at z
    · exact k _ z
    · exact z) z) z) q
theorem inV_ints (i : Int) (ns : List Int) : inV (.int i) (ns.map V.int) = dB (i ∈ ns) := by
  rw [dB_eq]
  unfold inV
  rw [List.any_map, Bool.eq_iff_iff, List.any_eq_true, decide_eq_true_iff]
  constructor
  · rintro ⟨y, h1, h2⟩
    have : y = i := by simpa [eqV] using h2
    exact this ▸ h1
  · intro h
    exact ⟨i, h, by simp [eqV]⟩
theorem gInI_out {neg : Bool} {K : PySem.W.Frag} {H G : Hp} {m n : OV} {x y : V} {Q : Bool → Prop} (g : Same G H) (rx : RepB K cl H G m x) (ry : RepB K cl H G n y) (q : gInI neg m n Q) : ∃ (p : Addr) (i : Int) (ns : List Int), x = .int i ∧ y = .ref p ∧ SqL K H p (ns.map V.int) ∧ Q (neg ^^ inV (.int i) (ns.map V.int)) := by
  cases m with
  | fro m =>
    unfold RepB at rx
    obtain ⟨i, rfl, rfl, q⟩ := asInt_rep (show asInt m _ from q) rx
    obtain ⟨ms, p, vs, rfl, h2, h3, q⟩ := asL_rep g q ry
    split at q
    · rename_i ns e
      rw [ints_rep e h3] at h2
      exact ⟨p, i, ns, rfl, rfl, SqL.of h2, by rw [inV_ints]; exact q⟩
    · exact q.elim
  | _ => exact q.elim
theorem ints_flat (ns : List Int) : (ns.map V.int).all flatV = true := by
  rw [List.all_map, List.all_eq_true]
  intro i _
  rfl
theorem gc_in : GC X cl .In (gInI false) := by
  refine ⟨gInI_mo, _, op_in_seq, fun m n x y H G Q g rx ry q => ?_⟩
  obtain ⟨p, i, ns, rfl, rfl, h, q⟩ := gInI_out (Q := fun k => Q (.bl k) H) g rx ry q
  exact ⟨p, _, rfl, .inl h, rfl, ints_flat ns, by simpa using q⟩
theorem gc_notin : GC X cl .NotIn (gInI true) := by
  refine ⟨gInI_mo, _, op_notIn_seq, fun m n x y H G Q g rx ry q => ?_⟩
  obtain ⟨p, i, ns, rfl, rfl, h, q⟩ := gInI_out (Q := fun k => Q (.bl k) H) g rx ry q
  exact ⟨p, _, rfl, .inl h, rfl, ints_flat ns, by simpa using q⟩
end
end C
namespace C
open PySem PySem.Spec PyProof.Rows L2
section
variable {X : Cx} {cl : Nat → Addr} {pos : Pos} {x : Str}
theorem m_globI {i : Int} (hg : Gl X x) (hm : ∃ t, X.mg x = some (.int i t)) (hd : (x == ("__debug__" : Str)) = false := by decide) : ME X cl (.Name x pos) (eK (.int i)) := by
  obtain ⟨t, hm⟩ := hm
  exact ⟨fun _ _ _ k q => k _ q, PEmono (pe_glob hg hm (v := .int i) ⟨t, rfl⟩ hd) fun σ H Q ⟨β, G, env, r0, q⟩ => q _ H G (Ext.refl r0.gh) rep_int⟩
theorem m_globS {i : Str} (hg : Gl X x) (hm : ∃ t, X.mg x = some (.str i t)) (hd : (x == ("__debug__" : Str)) = false := by decide) : ME X cl (.Name x pos) (eK (.str i)) := by
  obtain ⟨t, hm⟩ := hm
  exact ⟨fun _ _ _ k q => k _ q, PEmono (pe_glob hg hm (v := .str i) ⟨t, rfl⟩ hd) fun σ H Q ⟨β, G, env, r0, q⟩ => q _ H G (Ext.refl r0.gh) rep_str⟩
end
end C
namespace C
open PySem PySem.Spec PyProof.Rows L2
section
variable {X : Cx} {cl : Nat → Addr} {W : WX} {e : Expr} {fa : EX} {na : NX} {pos : Pos}
/-- a list that nobody holds gets an item -/
def xAppN (na : NX) (fa : EX) : XX := fun env Q _ => na env fun o => match o with
  | .lst ms => fa env fun m => ms.length < sizeLine ∧ Q (.fro .non) env
  | _ => False
theorem mx_appN {o : Expr} {apos cpos : Pos} (ho : MN X cl o na) (ha : ME X cl e fa) (he : starEach [e] X.env = (false, eval e X.env) :: starEach [] X.env := by rfl)
    (hbase : attributeBase o "append" X.env (eval o X.env) = eval o X.env := by rfl)
    (hfew : ((backTo cpos (starEach [e] X.env)).all (fun x => !x.1) && (backToKw cpos (keywordEach [] X.env)).all (fun x => x.1.isSome) && decide ([e].length + ([] : List Keyword).length + (if ([] : List Keyword).isEmpty then 0 else 1) < 30)) = true := by rfl)
    (hline : (apos.endLine == cpos.line) = true := by rfl) : MX X cl W (.Call (.Attribute o "append" apos) [e] [] cpos) (xAppN na fa) := by
  refine ⟨fun env Q Q' E E' k _ q => ?_, PEmono (pe_bm PySem.F.plainAttrs_list PySem.F.slot_list_append PySem.F.type_list_append mt_append ho.pe (pa_cons ha.pe pa_nil he) hbase hfew hline he rfl) fun σ H Q ⟨β, G, env, r0, q⟩ => ?_⟩
  · unfold xAppN at q ⊢
    refine ho.mo _ _ _ (fun o z => ?_) q
    split at z
    · exact ha.mo _ _ _ (fun m z => ⟨z.1, k _ _ z.2⟩) z
    · exact z.elim
  · unfold xAppN at q
    refine ⟨β, G, env, r0, ho.mo _ _ _ (fun o z v H' G' Xs e1 ro hX => ?_) q⟩
    split at z
    · unfold RepO at ro
      obtain ⟨p, vs, rfl, rfl, hp1, hp2⟩ := ro
      have hXp := hX p (by simp)
      refine ⟨.inl ⟨rfl, vs, SqL.of hp1⟩, β, G', env, r0.ext e1, ha.mo _ _ _ (fun m z2 w H2 G2 e2 rv => ?_) z⟩
      refine ⟨p, vs, w, rfl, rfl, e2.hh p _ hp1, by rw [Reps.len _ _ hp2]; exact z2.1, ?_⟩
      have hh : Same H (upd H2 p (.lst (vs ++ [w]))) := fun b u q => upd_off (fun y => by subst y; rw [hXp.1] at q; cases q) ((e1.hh.trans e2.hh) b u q)
      exact z2.2 .non _ G [] (r0.ext ⟨hh, Same.refl _, fun b u q => hh b u (r0.gh b u q), fun _ _ q => q⟩) (Same.refl _) rn
    · exact z.elim
end
section
variable {X : Cx} {cl : Nat → Addr} {W : WX} {a b c e : Expr} {es : List Expr} {sts : List Stmt} {s : SX} {g : GX} {vs : List Nat} {pos pp : Pos} {i : Nat} {pl : List Nat}
/-- ms_forBE, its place binder ahead (so that the kind of goal is known first) -/
theorem ms_forBE' {fpos : Pos} {elts : List Expr} {kk : Nat} {tpos : Pos} (hp : PassesOwn (model X.prog X.w) X.A X.env X.xe) (hc : X.calm = true) (hgl : Gl X "enumerate") (hm : X.mg "enumerate" = none) (ho : MP X a i pl) (hg : MG X cl (.Tuple elts kk tpos) g vs) (hb : MSs X cl W sts s) (hpl : fld38 pl = true := by rfl)
    (hs1 : starEach [a] X.env = (false, eval a X.env) :: starEach [] X.env := by rfl) (hs2 : starEach [a] X.env = [(false, eval a X.env)] := by rfl) (hs : ∀ x, foldedSetIterable (.Call (.Name "enumerate" pp) [a] [] pos) X.env x = pure x := by intro _; rfl) : MS X cl W (.For (.Tuple elts kk tpos) (.Call (.Name "enumerate" pp) [a] [] pos) sts [] fpos) (forBE i pl g s) :=
  ms_forBE hp hc hgl hm ho hg hb hpl hs1 hs2 hs
end
end C
namespace C
open PySem PySem.Spec PyProof.Rows L2
/-! ### for x in [a, b, c]: x.append(j), where a, b, c are new lists: nobody sees it but x -/
section
variable {X : Cx} {cl : Nat → Addr} {W : WX} {e1 e2 e3 : Expr} {n1 n2 n3 : NX} {pos : Pos} {x : Str} {i : Nat}
def lstO (o : OV) (Q : List MV → Prop) : Prop := match o with
  | .lst ms => ms.length < sizeLine ∧ Q ms
  | _ => False
theorem lstO_mo {o : OV} {Q Q' : List MV → Prop} (k : ∀ m, Q m → Q' m) (h : lstO o Q) : lstO o Q' := by
  unfold lstO at h ⊢
  split at h
  · exact ⟨h.1, k _ h.2⟩
  · exact h
def for3 (i : Nat) (n1 n2 n3 : NX) (j : Int) : SX := fun env k => n1 env fun o1 => lstO o1 fun m1 => n2 env fun o2 => lstO o2 fun m2 => n3 env fun o3 => lstO o3 fun m3 => i < env.length ∧ k.nx (env.set i (.ow (.lst (m3 ++ [.int j]))))
theorem repl {K : PySem.W.Frag} {H G : Hp} {o : OV} {v : V} {Xs : List Addr} {Q : List MV → Prop} (h : RepO K cl H G o v Xs) (q : lstO o Q) : ∃ p vs ms, o = .lst ms ∧ v = .ref p ∧ Xs = [p] ∧ H p = some (.lst vs) ∧ Reps K cl G ms vs ∧ ms.length < sizeLine ∧ Q ms := by
  unfold lstO at q
  split at q
  · unfold RepO at h
    obtain ⟨p, vs, rfl, rfl, h1, h2⟩ := h
    exact ⟨p, vs, _, rfl, rfl, rfl, h1, h2, q.1, q.2⟩
  · exact q.elim
theorem ms_for3 {p1 p2 p3 p4 p5 apos cpos : Pos} {j : Int} {jj} (hp : PassesOwn (model X.prog X.w) X.A X.env X.xe) (hc : X.calm = true) (hN : X.N.Nodup) (hv : Vis X.env.scope x) (h1 : MN X cl e1 n1) (h2 : MN X cl e2 n2) (h3 : MN X cl e3 n3)
    (hi : X.N[i]? = some x := by rfl) (hx : Loc X.env.scope x := by first | exact Or.inl rfl | exact Or.inr rfl) (hf : X.fn x = true ∨ X.env.scope.names.lookup x = some .local := by first | exact .inl rfl | exact .inr rfl | assumption)
    (hd : (x == ("__debug__" : Str)) = false := by decide) (hcd : (x == ("__classdict__" : Str)) = false := by decide)
    (s1 : starEach [e1, e2, e3] X.env = (false, eval e1 X.env) :: starEach [e2, e3] X.env := by rfl) (s2 : starEach [e2, e3] X.env = (false, eval e2 X.env) :: starEach [e3] X.env := by rfl) (s3 : starEach [e3] X.env = (false, eval e3 X.env) :: starEach [] X.env := by rfl)
    (he : starEach [.Constant (.int j) jj p4] X.env = (false, eval (.Constant (.int j) jj p4) X.env) :: starEach [] X.env := by rfl)
    (hbase : attributeBase (.Name x p3) "append" X.env (eval (.Name x p3) X.env) = eval (.Name x p3) X.env := by rfl)
    (hfew : ((backTo cpos (starEach [.Constant (.int j) jj p4] X.env)).all (fun x => !x.1) && (backToKw cpos (keywordEach [] X.env)).all (fun x => x.1.isSome) && decide ([(Expr.Constant (.int j) jj p4)].length + ([] : List Keyword).length + (if ([] : List Keyword).isEmpty then 0 else 1) < 30)) = true := by rfl)
    (hline : (apos.endLine == cpos.line) = true := by rfl) (hsw : swapsWith (.Call (.Attribute (.Name x p3) "append" apos) [.Constant (.int j) jj p4] [] cpos) none p5.line X.env = pure false := by rfl)
    (hs : ∀ y, foldedSetIterable (.List [e1, e2, e3] p2) X.env y = pure y := by intro _; rfl) :
    MS X cl W (.For (.Name x p1) (.List [e1, e2, e3] p2) [.Expr (.Call (.Attribute (.Name x p3) "append" apos) [.Constant (.int j) jj p4] [] cpos) p5] [] pos) (for3 i n1 n2 n3 j) := by
  have pb := pss_one (X := X) (ps_expr (pos := p5) (pe_bm (cpos := cpos) PySem.F.plainAttrs_list PySem.F.slot_list_append PySem.F.type_list_append mt_append (pe_var (pos := p3) hi hv hd hcd) (pa_cons (pe_int (i := j) (j := jj) (pos := p4)) pa_nil he) hbase hfew hline he rfl) hsw)
  have pl := pi_list (X := X) (tg := .Name x p1) (pe_lst (pos := p2) (pa_cons h1.pe (pa_cons h2.pe (pa_cons h3.pe pa_nil s3) s2) s1))
  refine ⟨fun env k k' l q => h1.mo _ _ _ (fun o z => lstO_mo (fun m z => h2.mo _ _ _ (fun o z => lstO_mo (fun m z => h3.mo _ _ _ (fun o z => lstO_mo (fun m z => ⟨z.1, l.nx _ z.2⟩) z) z) z) z) z) q, PSmono (ps_for hp hc pl (pg_name hN hi hx hf) pb hs) fun D σ H ⟨β, G, env, r0, q⟩ => ?_⟩
  refine ⟨β, G, env, r0, h1.mo _ _ _ (fun o1 z v1 H1 G1 X1 x1 ro1 f1 => ?_) q⟩
  obtain ⟨q1, vs1, ms1, rfl, rfl, rfl, a1, b1, c1, z⟩ := repl ro1 z
  have g1 := f1 q1 (by simp)
  refine ⟨β, G1, env, r0.ext x1, h2.mo _ _ _ (fun o2 z v2 H2 G2 X2 x2 ro2 f2 => ?_) z⟩
  obtain ⟨q2, vs2, ms2, rfl, rfl, rfl, a2, b2, c2, z⟩ := repl ro2 z
  have g2 := f2 q2 (by simp)
  refine ⟨β, G2, env, (r0.ext x1).ext x2, h3.mo _ _ _ (fun o3 z v3 H3 G3 X3 x3 ro3 f3 => ?_) z⟩
  obtain ⟨q3, vs3, ms3, rfl, rfl, rfl, a3, b3, c3, z⟩ := repl ro3 z
  have g3 := f3 q3 (by simp)
  refine ⟨(by decide : 3 ≤ sizeLine), fun p hp0 => ⟨p, rfl, ⟨_, SqL.of upd_same⟩, ?_⟩⟩
  obtain ⟨il, z⟩ := z
  have iσ : i < σ.length := by rw [← r0.len]; exact il
  -- what stands where
  have k1 : H3 q1 = some (.lst vs1) := x3.hh _ _ (x2.hh _ _ a1)
  have k2 : H3 q2 = some (.lst vs2) := x3.hh _ _ a2
  have d21 : q2 ≠ q1 := fun y => by rw [y] at g2; exact g1.2.2 g2.1
  have d31 : q3 ≠ q1 := fun y => by rw [y, x2.hh _ _ a1] at g3; cases g3.1
  have d32 : q3 ≠ q2 := fun y => by rw [y] at g3; exact g2.2.2 g3.1
  have dp1 : q1 ≠ p := fun y => by rw [y, hp0] at k1; cases k1
  have dp2 : q2 ≠ p := fun y => by rw [y, hp0] at k2; cases k2
  have dp3 : q3 ≠ p := fun y => by rw [y, hp0] at a3; cases a3
  obtain ⟨HP, hHP⟩ : ∃ HP, HP = upd H3 p (.lst [.ref q1, .ref q2, .ref q3]) := ⟨_, rfl⟩
  obtain ⟨A1, hA1⟩ : ∃ A, A = upd HP q1 (.lst (vs1 ++ [.int j])) := ⟨_, rfl⟩
  obtain ⟨A2, hA2⟩ : ∃ A, A = upd A1 q2 (.lst (vs2 ++ [.int j])) := ⟨_, rfl⟩
  obtain ⟨A3, hA3⟩ : ∃ A, A = upd A2 q3 (.lst (vs3 ++ [.int j])) := ⟨_, rfl⟩
  have P0 : HP p = some (.lst [.ref q1, .ref q2, .ref q3]) := by rw [hHP]; exact upd_same
  have P1 : A1 p = some (.lst [.ref q1, .ref q2, .ref q3]) := by rw [hA1, upd_ne (Ne.symm dp1)]; exact P0
  have P2 : A2 p = some (.lst [.ref q1, .ref q2, .ref q3]) := by rw [hA2, upd_ne (Ne.symm dp2)]; exact P1
  have P3 : A3 p = some (.lst [.ref q1, .ref q2, .ref q3]) := by rw [hA3, upd_ne (Ne.symm dp3)]; exact P2
  have M1 : HP q1 = some (.lst vs1) := by rw [hHP, upd_ne dp1]; exact k1
  have M2 : A1 q2 = some (.lst vs2) := by rw [hA1, upd_ne d21, hHP, upd_ne dp2]; exact k2
  have M3 : A2 q3 = some (.lst vs3) := by rw [hA2, upd_ne d32, hA1, upd_ne d31, hHP, upd_ne dp3]; exact a3
  rw [← hHP]
  refine ⟨fun n m σ' H' => (n = 0 ∧ m = 3 ∧ σ' = σ ∧ H' = HP) ∨ (n = 1 ∧ m = 2 ∧ σ' = σ.set i (some (.ref q1)) ∧ H' = A1) ∨ (n = 2 ∧ m = 1 ∧ σ' = σ.set i (some (.ref q2)) ∧ H' = A2) ∨ (n = 3 ∧ m = 0 ∧ σ' = σ.set i (some (.ref q3)) ∧ H' = A3), ⟨3, .inl ⟨rfl, rfl, rfl, rfl⟩⟩, ?_⟩
  have turn : ∀ (N : L2.St → Hp → Prop) (D' : Ends) (σ' : L2.St) (H' : Hp) (q : Addr) (vs : List V), σ'.length = σ.length → H' q = some (.lst vs) → vs.length < sizeLine → (∀ σ2 H2, σ2 = σ'.set i (some (.ref q)) → H2 = upd H' q (.lst (vs ++ [.int j])) → N σ2 H2) → gName i (.ref q) σ' H' fun σ2 H2 => tDrop (tBM X.K "list" rAppend (tVar i) (tCons (tC (V.int j)) tNil)) { D' with nx := N } σ2 H2 := fun N D' σ' H' q vs hl hq hs hN => by
    refine ⟨.ref q, ?_, .inl ⟨rfl, vs, SqL.of hq⟩, q, vs, .int j, rfl, rfl, hq, hs, hN _ _ rfl rfl⟩
    rw [List.getElem?_set_self (by omega)]
  have item : ∀ {H' : Hp} {n : Nat} {x : V} {q : Addr}, H' p = some (.lst [.ref q1, .ref q2, .ref q3]) → ([V.ref q1, .ref q2, .ref q3] : List V)[n]? = some (.ref q) → (∀ xs, SqL X.K H' p xs → xs[n]? = some x) → x = .ref q := fun h1 h2 h3 => by
    have := h3 _ (SqL.of h1)
    rw [h2] at this
    exact (Option.some.inj this).symm
  have cvs1 : vs1.length < sizeLine := by rw [Reps.len _ _ b1]; exact c1
  have cvs2 : vs2.length < sizeLine := by rw [Reps.len _ _ b2]; exact c2
  have cvs3 : vs3.length < sizeLine := by rw [Reps.len _ _ b3]; exact c3
  rintro n m σ' H' (⟨e1, e2, e3, e4⟩ | ⟨e1, e2, e3, e4⟩ | ⟨e1, e2, e3, e4⟩ | ⟨e1, e2, e3, e4⟩)
  · subst e1 e2 e3 e4
    refine Or.inr ⟨⟨[.ref q1, .ref q2, .ref q3], .ref q1, SqL.of P0, rfl⟩, fun σ2 H2 => σ2 = σ'.set i (some (.ref q1)) ∧ H2 = A1, fun σ2 H2 w => ⟨2, by decide, Or.inr (Or.inl ⟨rfl, rfl, w.1, w.2⟩)⟩, fun x H2 w => ?_⟩
    obtain ⟨w1, w2⟩ := w
    subst w1
    rw [item P0 rfl w2]
    exact turn (fun σ2 H2 => σ2 = σ'.set i (some (.ref q1)) ∧ H2 = A1) D σ' H2 q1 vs1 rfl M1 cvs1 fun σ2 H3 w3 w4 => ⟨w3, by rw [w4, hA1]⟩
  · subst e1 e2 e3 e4
    refine Or.inr ⟨⟨[.ref q1, .ref q2, .ref q3], .ref q2, SqL.of P1, rfl⟩, fun σ2 H2 => σ2 = σ.set i (some (.ref q2)) ∧ H2 = A2, fun σ2 H2 w => ⟨1, by decide, Or.inr (Or.inr (Or.inl ⟨rfl, rfl, w.1, w.2⟩))⟩, fun x H2 w => ?_⟩
    obtain ⟨w1, w2⟩ := w
    subst w1
    rw [item P1 rfl w2]
    exact turn (fun σ2 H2 => σ2 = σ.set i (some (.ref q2)) ∧ H2 = A2) D _ H2 q2 vs2 (by simp) M2 cvs2 fun σ2 H3 w3 w4 => ⟨by rw [w3, List.set_set], by rw [w4, hA2]⟩
  · subst e1 e2 e3 e4
    refine Or.inr ⟨⟨[.ref q1, .ref q2, .ref q3], .ref q3, SqL.of P2, rfl⟩, fun σ2 H2 => σ2 = σ.set i (some (.ref q3)) ∧ H2 = A3, fun σ2 H2 w => ⟨0, by decide, Or.inr (Or.inr (Or.inr ⟨rfl, rfl, w.1, w.2⟩))⟩, fun x H2 w => ?_⟩
    obtain ⟨w1, w2⟩ := w
    subst w1
    rw [item P2 rfl w2]
    exact turn (fun σ2 H2 => σ2 = σ.set i (some (.ref q3)) ∧ H2 = A3) D _ H2 q3 vs3 (by simp) M3 cvs3 fun σ2 H3 w3 w4 => ⟨by rw [w3, List.set_set], by rw [w4, hA3]⟩
  · subst e1 e2 e3 e4
    refine Or.inl ⟨⟨_, SqL.of P3, Nat.le_refl 3⟩, ?_⟩
    have xx := x1.trans (x2.trans x3)
    have n1 : G3 q1 = none := x3.gn _ (by rw [x2.hh _ _ a1]; simp) (x2.gn _ g1.2.2 g1.2.1)
    have n2 : G3 q2 = none := x3.gn _ g2.2.2 g2.2.1
    have n3 : G3 q3 = none := g3.2.1
    have np : G3 p = none := x3.gh.free hp0
    have h1 : H q1 = none := g1.1
    have h2 : H q2 = none := x1.hh.free g2.1
    have h3 : H q3 = none := (x1.hh.trans x2.hh).free g3.1
    have hp' : H p = none := xx.hh.free hp0
    have off : ∀ b, b ≠ p → b ≠ q1 → b ≠ q2 → b ≠ q3 → H' b = H3 b := fun b y0 y1 y2 y3 => by rw [hA3, upd_ne y3, hA2, upd_ne y2, hA1, upd_ne y1, hHP, upd_ne y0]
    have E : Ext H G H' G3 := by
      refine ⟨fun b u y => ?_, xx.gg, fun b u y => ?_, xx.gn⟩
      · rw [off b (ne_of_none y hp') (ne_of_none y h1) (ne_of_none y h2) (ne_of_none y h3)]; exact xx.hh b u y
      · rw [off b (ne_of_none y np) (ne_of_none y n1) (ne_of_none y n2) (ne_of_none y n3)]; exact x3.gh b u y
    have hq3 : H' q3 = some (.lst (vs3 ++ [.int j])) := by rw [hA3]; exact upd_same
    have ro : RepO X.K cl H' G3 (.lst (ms3 ++ [.int j])) (.ref q3) [q3] := by
      unfold RepO
      exact ⟨q3, _, rfl, rfl, hq3, Reps.app _ _ _ _ b3 (Reps.one (by unfold Rep; rfl))⟩
    have hz : ∀ b ∈ [q3], H b = none ∧ G3 b = none ∧ H' b ≠ none := fun b hb => by
      have : b = q3 := by simpa using hb
      subst this
      exact ⟨h3, n3, by rw [hq3]; simp⟩
    exact z _ H' G3 ((r0.extX E hz).setv il ro) xx.gg
end
end C
namespace C
open PySem PySem.Spec PyProof.Rows L2
/-! ### o.m()[0].append(j), where m() is a new list of new lists: nobody sees it -/
section
variable {X : Cx} {cl : Nat → Addr} {W : WX} {a b c e : Expr} {g : GX} {na : NX} {pos : Pos}
def nnLc (vs : List Nat) (f : LX) (g : GX) (na : NX) : Env → Prop := fun env => f env fun ms => ms.length < sizeLine ∧ 0 < ms.length ∧ ∀ m ∈ ms, g m (wipeE env vs) fun e => na e fun o => lstO o fun _ => True
def nnQ (H : Hp) (Q : VK) : Prop := ∀ D us H', Same H H' → H D = none → H' D = some (.lst us) → 0 < us.length → (∀ u ∈ us, ∃ q xs, u = .ref q ∧ H q = none ∧ H' q = some (.lst xs) ∧ xs.length < sizeLine) → Q (.ref D) H'
def nnOf (K : PySem.W.Frag) (cl : Nat → Addr) (f : Env → Prop) : TE := fun σ H Q => ∃ β G env, R K cl β σ H G env [] ∧ f env ∧ nnQ H Q
theorem pe_nn {scope : Scope} {tg iter elt : Expr} {own : List (Str × Nat)} {f : LX} (hc : X.calm = true) (hN : X.N.Nodup) (hi : MJ X cl tg iter f) (ok : BlkOk X.N X.env.scope scope own)
    (hg : ∃ is, (∀ j ∈ is, j ∈ own.map (·.2)) ∧ ∀ (s : Shared) (H : Hp) (C : Addr) (cl' : List (Str × Addr)) (fp : List Addr), MG (BlkX X scope s H C cl' fp) cl tg g is)
    (he : ∀ (s : Shared) (H : Hp) (C : Addr) (cl' : List (Str × Addr)) (fp : List Addr), MN (BlkX X scope s H C cl' fp) cl elt na) (m0 : Nonempty (Shared × Hp)) (hs : ∀ x, foldedSetIterable iter X.env x = pure x := by intro _; rfl) :
    PE X (.ListComp elt [⟨tg, iter, [], 0⟩] scope pos) (nnOf X.K cl (nnLc (own.map (·.2)) f g na)) := by
  obtain ⟨is, his, hg⟩ := hg
  obtain ⟨s0, H0⟩ := m0
  have gmo := (hg s0 H0 0 [] []).mo
  have emo := (he s0 H0 0 [] []).mo
  refine PEmono (pe_lc (te := nOf X.K cl na) (tt := tOf X.K cl tYesX) (g := gOf X.K cl g is) hc hN hi.pi ok (fun s H C cl' fp => (hg s H C cl' fp).pg) (fun s H C cl' fp => (mts_nil (X := BlkX X scope s H C cl' fp) (cl := cl)).pt) (fun s H C cl' fp => (he s H C cl' fp).pe) hs) fun σ H Q ⟨β, G, env, r0, q, hQ⟩ => ?_
  refine ⟨β, G, env, r0, hi.mo _ _ _ (fun ms z J H1 G1 KH e1 hk it D hD => ?_) q⟩
  obtain ⟨Y, w, hy⟩ := it
  obtain ⟨zl, z0, z⟩ := z
  generalize own.map (·.2) = vs at *
  refine lc_it w (fun i H2 => ∃ G2 us, Ext H1 G1 H2 G2 ∧ H2 D = some (.lst us) ∧ G2 D = none ∧ us.length = i ∧ ∀ u ∈ us, ∃ q xs, u = .ref q ∧ q ≠ D ∧ H q = none ∧ H2 q = some (.lst xs) ∧ xs.length < sizeLine)
    ⟨G1, [], Ext.new0 e1.gh hD, upd_same, e1.gh.free hD, rfl, fun u hu => (by cases hu)⟩ (fun i H2 _ ⟨G2, _, e2, _⟩ => hk.trans e2.hh) (fun i x H2 H3 hi' ⟨G2, us, e2, hd, gd, lu, ra⟩ y => ?_) fun H2 ⟨G2, us, e2, hd, gd, lu, ra⟩ => ?_
  · obtain ⟨G3, m, e3, hm, rm⟩ := hy i H2 G2 x H3 hi' (hk.trans e2.hh) e2.gg e2.gh y
    have qm := z m (List.mem_of_getElem? hm)
    have e13 := e2.trans e3
    have r3 := (r0.ext (e1.trans e13)).wipe vs
    have hd3 := e3.hh _ _ hd
    have gd3 := e3.gn D (by rw [hd]; simp) gd
    refine ⟨β, G3, _, m, r3, rm, gmo _ _ _ _ (fun en z2 σ2 r4 ag => ⟨wipe_agr ag his, β, G3, en, r4, (fun H5 G5 e5 => ?_ : ∀ H5 G5, Ext H3 G3 H5 G5 → _)⟩) qm⟩
    show if (true = true) then _ else _
    rw [if_pos rfl]
    refine ⟨β, G5, en, r4.ext e5, emo _ _ _ (fun o z3 v H6 G6 X6 e6 ro hX => ?_) z2⟩
    obtain ⟨q, xs, ms', rfl, rfl, rfl, h6, _, l6, _⟩ := repl ro z3
    have hq := hX q (by simp)
    have e56 := e5.trans e6
    have hd6 := e56.hh _ _ hd3
    have gd6 := e56.gn D (by rw [hd3]; simp) gd3
    have e16 := e13.trans e56
    have qD : q ≠ D := fun y => by rw [y, e5.hh _ _ hd3] at hq; cases hq.1
    have lx : xs.length < sizeLine := by rw [Reps.len _ _ ‹_›]; exact l6
    refine ⟨us, hd6, by omega, G6, us ++ [.ref q], ⟨fun b u hb => ?_, e16.gg, fun b u hb => ?_, e16.gn⟩, upd_same, gd6, by simp [lu], fun u hu => ?_⟩
    · rw [upd_ne (ne_of_none hb hD)]; exact e16.hh b u hb
    · rw [upd_ne (ne_of_none hb gd6)]; exact e16.gh b u hb
    · rcases List.mem_append.mp hu with y | y
      · obtain ⟨q', xs', w1, w2, w3, w4, w5⟩ := ra u y
        exact ⟨q', xs', w1, w2, w3, by rw [upd_ne w2]; exact (e3.trans e56).hh _ _ w4, w5⟩
      · have : u = .ref q := by simpa using y
        exact ⟨q, xs, this, qD, ((e1.trans e13).trans e5).hh.free hq.1, by rw [upd_ne qD]; exact h6, lx⟩
  · exact hQ D us H2 (e1.hh.trans e2.hh) (e1.hh.free hD) hd (by omega) fun u hu => by
      obtain ⟨q', xs', w1, w2, w3, w4, w5⟩ := ra u hu
      exact ⟨q', xs', w1, w3, w4, w5⟩
def sp2 (K : PySem.W.Frag) (cl : Nat → Addr) (n : Nat) (F2 : Env → Prop) : Sp := fun vs H Q _ => sp0 K cl n (fun ss _ _ => F2 ss) vs H (fun _ _ => True) E0 ∧ nnQ H Q
structure FB2 (P : Program) (w : World) (K : PySem.W.Frag) (mg : Str → Option Value) (base : Heap) (cl : Nat → Addr) (k n : Nat) (f : Addr) (F2 : Env → Prop) : Prop where
  ex : ∃ fd ps, FnOk P w K mg base CX0 k f fd ps (sp2 K cl n F2) ∧ Binds K fd ps []
theorem fb2_mk {P : Program} {w : World} {K : PySem.W.Frag} {mg : Str → Option Value} {base : Heap} {cl : Nat → Addr} {x qual : Str} {st : Stmt} {f : Addr} {fd : FuncData} {N ps : List Str} {k : Nat} {s : Env → Prop} (F : Fun K x qual st f fd) (S : FnScope N ps (defScope st)) (B : Binds K fd ps [])
    {p3 : Pos} {e : Expr} (hd : defBody st = [.Return (some e) p3])
    (body : ∀ (cdv : Value) (A : Around) (outer : List PySem.Env) (sh : Shared) (H : Hp) (E : XK), Room k (A.deeper (envOfC qual (defScope st) sh.heap.objs.size f cdv)) → PE (cxOf CX0 P w K mg base N qual (defScope st) f cdv A outer sh H E).nox e (nnOf K cl s)) :
    FB2 P w K mg base cl (k + 1) ps.length f (fun ss => s (ss ++ List.replicate (N.length - ps.length) .un)) := by
  refine ⟨fd, ps, F.ok S (fun vs H Q E h => h.1.1) fun cdv A outer sh H vs Q E hr h => ?_, B⟩
  obtain ⟨⟨hl, G, Fl, ss, r, q⟩, hQ⟩ := h
  refine ⟨_, hd ▸ pss_one (ps_ret (body cdv A outer sh H E hr)), ⟨H, G, Fl, vs.map some⟩, G, ss ++ List.replicate (N.length - ps.length) .un, ?_, q, hQ⟩
  have := r.pad (N.length - ps.length)
  unfold L2.start
  rw [hl]
  exact this
def sNN (n : Nat) (F2 : Env → Prop) (ga : AX) : SX := fun env k => ga env fun as => match arSlots env as with
  | some ss => ((arOk (muS as) as && noMu as) && Nat.beq as.length n) = true ∧ F2 ss ∧ k.nx env
  | none => False
theorem ms_nnApp {k n : Nat} {f : Addr} {F2 : Env → Prop} {rx : RX} {o : Expr} {m : Str} {apos0 cpos0 apos cpos spos pz p4 p5 : Pos} {jz jj} {j : Int} {pl : Sem Bool} (c : Nat) (hF : FB2 X.prog X.w X.K X.mg X.base cl k n f F2) (hr : Room k X.A) (hx : MR X cl o rx) (hC : Cls X.K (cl c)) (hM : Meth X.K (cl c) m f) (hno : ∀ f ∈ fsOf c, fn f ≠ m)
    (ht : eval (.Call (.Attribute o m apos0) [] [] cpos0) X.env = (do
      let ov ← eval o X.env
      standAt apos0.atName
      let (f, first) ← holding [ov] (getMethod ov m pl)
      callWith cpos0 f first (backTo cpos0 (starEach [] X.env)) (backToKw cpos0 (keywordEach [] X.env))) := by rfl)
    (he : starEach [.Constant (.int j) jj p4] X.env = (false, eval (.Constant (.int j) jj p4) X.env) :: starEach [] X.env := by rfl)
    (hbase : attributeBase (.Subscript (.Call (.Attribute o m apos0) [] [] cpos0) (.Constant (.int 0) jz pz) spos) "append" X.env (eval (.Subscript (.Call (.Attribute o m apos0) [] [] cpos0) (.Constant (.int 0) jz pz) spos) X.env) = eval (.Subscript (.Call (.Attribute o m apos0) [] [] cpos0) (.Constant (.int 0) jz pz) spos) X.env := by rfl)
    (hfew : ((backTo cpos (starEach [.Constant (.int j) jj p4] X.env)).all (fun x => !x.1) && (backToKw cpos (keywordEach [] X.env)).all (fun x => x.1.isSome) && decide ([(Expr.Constant (.int j) jj p4)].length + ([] : List Keyword).length + (if ([] : List Keyword).isEmpty then 0 else 1) < 30)) = true := by rfl)
    (hline : (apos.endLine == cpos.line) = true := by rfl) (hsw : swapsWith (.Call (.Attribute (.Subscript (.Call (.Attribute o m apos0) [] [] cpos0) (.Constant (.int 0) jz pz) spos) "append" apos) [.Constant (.int j) jj p4] [] cpos) none p5.line X.env = pure false := by rfl)
    (hpx : PlainIx (.Constant (.int 0) jz pz) := by exact fun _ _ => rfl) :
    MS X cl W (.Expr (.Call (.Attribute (.Subscript (.Call (.Attribute o m apos0) [] [] cpos0) (.Constant (.int 0) jz pz) spos) "append" apos) [.Constant (.int j) jj p4] [] cpos) p5) (sNN n F2 (rcG c rx aN)) := by
  obtain ⟨fd, ps, F0, hb⟩ := hF.ex
  have ha : MA X cl [] aN := ma_nil
  have ga := rcG_mo (c := c) hx.mo ha.mo
  have pe := ps_expr (pos := p5) (pe_bm (cpos := cpos) (apos := apos) PySem.F.plainAttrs_list PySem.F.slot_list_append PySem.F.type_list_append mt_append (pe_ix (pos := spos) ix_list (pe_meth0 (E := E0) hx.pe hC hM F0 hr hb .nil pass0 ht) (pe_int (i := 0) (j := jz) (pos := pz)) hpx) (pa_cons (pe_int (i := j) (j := jj) (pos := p4)) pa_nil he) hbase hfew hline he rfl) hsw
  refine ⟨fun env k k' l q => ga _ _ _ (fun as z => ?_) q, PSmono pe fun D σ H ⟨β, G, env, r0, q⟩ => ?_⟩
  · cases h : arSlots env as with
    | none => rw [h] at z; exact z.elim
    | some ss => rw [h] at z; exact ⟨z.1, z.2.1, l.nx _ z.2.2⟩
  · have key : ∀ as, (match arSlots env as with
      | some ss => ((arOk (muS as) as && noMu as) && Nat.beq as.length n) = true ∧ F2 ss ∧ (kOf X.K cl W β G D).nx env
      | none => False) → ∀ vs H' G', Ext H G H' G' → ArReps X.K cl σ H' G' as vs → sp2 X.K cl n F2 vs H' (fun x H1 => rIxL X.K x (.int 0) H1 fun v H3 => tyV X.K "list" v H3 ∧ rAppend v [.int j] H3 fun _ H5 => D.nx σ H5) E0 := fun as z vs H' G' e rs => by
      cases h : arSlots env as with
      | none => rw [h] at z; exact z.elim
      | some ss =>
        rw [h] at z
        obtain ⟨z1, z2, z3⟩ := z
        refine ⟨nCall_in (X := X) (n := n) (F := fun ss _ _ => F2 ss) (fun _ _ _ _ _ _ _ q => q) r0 e rs (by rw [h]; exact ⟨z1, z2⟩) rfl, fun D1 us H2 s1 d1 d2 d3 d4 => ?_⟩
        cases us with
        | nil => exact absurd d3 (by simp)
        | cons u us =>
          obtain ⟨q, xs, rfl, w1, w2, w3⟩ := d4 u List.mem_cons_self
          refine ⟨D1, _, 0, .ref q, rfl, rfl, SqL.of d2, atI_nat (j := 0) rfl, .inl ⟨rfl, xs, SqL.of w2⟩, q, xs, .int j, rfl, rfl, w2, w3, ?_⟩
          have hq : H q = none := e.hh.free w1
          have hh : Same H (upd H2 q (.lst (xs ++ [.int j]))) := fun b u y => by rw [upd_ne (ne_of_none y hq)]; exact (e.hh.trans s1) b u y
          exact z3 σ _ G (r0.ext ⟨hh, Same.refl _, fun b u y => hh b u (r0.gh b u y), fun _ _ y => y⟩) (Same.refl _)
    obtain ⟨β', G', env', r1, q1⟩ := meth_in (n := n) (sp := sp2 X.K cl n F2) (E := E0) hx ha hno r0 (ga _ _ _ key q)
    refine ⟨β', G', env', r1, hx.mo _ _ _ (fun r z v H2 G2 e2 rr => ?_) q1⟩
    obtain ⟨a, dx, fs, h1, h2, h3, β3, G3, env3, r3, h4⟩ := z v H2 G2 e2 rr
    exact ⟨a, dx, fs, h1, h2, h3, h4 [] H2 G3 (Ext.refl r3.gh) rfl⟩
end
end C
namespace C
open PySem PySem.Spec PyProof.Rows L2
/-! ### dicts -/
def dGet (kvs : List (Key × MV)) (k : Key) : Option MV := (kvs.find? fun kv => decide (kv.1 = k)).map (·.2)
def dPut (kvs : List (Key × MV)) (k : Key) (m : MV) : List (Key × MV) := if (kvs.any fun kv => decide (kv.1 = k)) = true then kvs.map (fun kv => if kv.1 = k then (kv.1, m) else kv) else kvs ++ [(k, m)]
def dDrop (kvs : List (Key × MV)) (k : Key) : List (Key × MV) := kvs.filter fun kv => decide (kv.1 ≠ k)
def kMV : Key → MV
  | .inl i => .int i
  | .inr x => .str x
section
variable {K : PySem.W.Frag} {cl : Nat → Addr} {G : Hp}
def DR (K : PySem.W.Frag) (cl : Nat → Addr) (G : Hp) (kvs : List (Key × MV)) (vs : List (Key × V)) : Prop := vs.map (·.1) = kvs.map (·.1) ∧ Reps K cl G (kvs.map (·.2)) (vs.map (·.2))
theorem DR.out {p : Key × MV} {kvs : List (Key × MV)} : ∀ {ws : List (Key × V)}, DR K cl G (p :: kvs) ws → ∃ v vs, ws = (p.1, v) :: vs ∧ Rep K cl G p.2 v ∧ DR K cl G kvs vs
  | [], h => by cases h.1
  | w :: ws, h => by
    obtain ⟨h1, h2⟩ := h
    rw [List.map_cons, List.map_cons] at h1 h2
    injection h1 with h3 h4
    unfold Reps at h2
    obtain ⟨v, ws', e, h5, h6⟩ := h2
    injection e with e1 e2
    subst e1 e2
    exact ⟨w.2, ws, by rw [← h3], h5, h4, h6⟩
theorem DR.mk1 {p : Key × MV} {v : V} {kvs : List (Key × MV)} {vs : List (Key × V)} (h : Rep K cl G p.2 v) (r : DR K cl G kvs vs) : DR K cl G (p :: kvs) ((p.1, v) :: vs) :=
  ⟨by rw [List.map_cons, List.map_cons, r.1], by rw [List.map_cons, List.map_cons]; exact Reps.cons h r.2⟩
theorem DR.nil : DR K cl G [] [] := ⟨rfl, Reps.nil⟩
theorem DR.nil_out {ws : List (Key × V)} (h : DR K cl G [] ws) : ws = [] := by
  have := h.1
  simpa using this
theorem DR.len {kvs : List (Key × MV)} {vs : List (Key × V)} (h : DR K cl G kvs vs) : vs.length = kvs.length := by
  have := congrArg List.length h.1
  simpa using this
theorem DR.get (k : Key) : ∀ {kvs : List (Key × MV)} {vs : List (Key × V)}, DR K cl G kvs vs → (dGet kvs k = none ∧ valV vs k = none) ∨ ∃ m v, dGet kvs k = some m ∧ valV vs k = some v ∧ Rep K cl G m v
  | [], vs, h => by
    have e := h.nil_out
    subst e
    exact .inl ⟨rfl, rfl⟩
  | p :: kvs, vs, h => by
    obtain ⟨v, ws, rfl, h1, h2⟩ := h.out
    by_cases c : p.1 = k
    · exact .inr ⟨p.2, v, by simp [dGet, List.find?_cons, c], valV_pos (p := (p.1, v)) c, h1⟩
    · rw [valV_neg (p := (p.1, v)) c, show dGet (p :: kvs) k = dGet kvs k by simp [dGet, List.find?_cons, c]]
      exact DR.get k h2
theorem DR.any (k : Key) {kvs : List (Key × MV)} {vs : List (Key × V)} (h : DR K cl G kvs vs) : (vs.any fun kv => decide (kv.1 = k)) = kvs.any fun kv => decide (kv.1 = k) := by
  have e1 : ∀ (l : List (Key × V)), (l.any fun kv => decide (kv.1 = k)) = (l.map (·.1)).any fun j => decide (j = k) := fun l => by rw [List.any_map]; rfl
  have e2 : ∀ (l : List (Key × MV)), (l.any fun kv => decide (kv.1 = k)) = (l.map (·.1)).any fun j => decide (j = k) := fun l => by rw [List.any_map]; rfl
  rw [e1, e2, h.1]
theorem DR.repl {m : MV} {x : V} (k : Key) (r : Rep K cl G m x) : ∀ {kvs : List (Key × MV)} {vs : List (Key × V)}, DR K cl G kvs vs → DR K cl G (kvs.map fun kv => if kv.1 = k then (kv.1, m) else kv) (vs.map fun kv => if kv.1 = k then (kv.1, x) else kv)
  | [], vs, h => by rw [h.nil_out]; exact DR.nil
  | p :: kvs, vs, h => by
    obtain ⟨v, ws, rfl, h1, h2⟩ := h.out
    rw [List.map_cons, List.map_cons]
    have ih := DR.repl k r h2
    by_cases c : p.1 = k
    · rw [if_pos c, if_pos (show ((p.1, v) : Key × V).1 = k from c)]
      exact DR.mk1 (p := (p.1, m)) r ih
    · rw [if_neg c, if_neg (show ¬ ((p.1, v) : Key × V).1 = k from c)]
      exact DR.mk1 h1 ih
theorem DR.app {a b : List (Key × MV)} {x y : List (Key × V)} (h : DR K cl G a x) (h' : DR K cl G b y) : DR K cl G (a ++ b) (x ++ y) :=
  ⟨by rw [List.map_append, List.map_append, h.1, h'.1], by rw [List.map_append, List.map_append]; exact Reps.app _ _ _ _ h.2 h'.2⟩
theorem DR.put {m : MV} {x : V} (k : Key) (r : Rep K cl G m x) {kvs : List (Key × MV)} {vs : List (Key × V)} (h : DR K cl G kvs vs) : DR K cl G (dPut kvs k m) (putK vs k x) := by
  unfold dPut putK
  rw [h.any]
  split
  · exact h.repl k r
  · exact h.app (DR.mk1 (p := (k, m)) r DR.nil)
theorem DR.drop (k : Key) : ∀ {kvs : List (Key × MV)} {vs : List (Key × V)}, DR K cl G kvs vs → DR K cl G (dDrop kvs k) (dropK vs k)
  | [], vs, h => by rw [h.nil_out]; exact DR.nil
  | p :: kvs, vs, h => by
    obtain ⟨v, ws, rfl, h1, h2⟩ := h.out
    have ih := DR.drop k h2
    unfold dDrop dropK at ih ⊢
    by_cases c : p.1 = k
    · rw [List.filter_cons_of_neg (by simp [c]), List.filter_cons_of_neg (by simp [c])]
      exact ih
    · rw [List.filter_cons_of_pos (by simp [c]), List.filter_cons_of_pos (by simp [c])]
      exact DR.mk1 h1 ih
theorem DR.keys : ∀ {kvs : List (Key × MV)} {vs : List (Key × V)}, DR K cl G kvs vs → Reps K cl G (kvs.map fun kv => kMV kv.1) (vs.map fun kv => kV kv.1)
  | [], vs, h => by rw [h.nil_out]; exact Reps.nil
  | p :: kvs, vs, h => by
    obtain ⟨v, ws, rfl, h1, h2⟩ := h.out
    rw [List.map_cons, List.map_cons]
    refine Reps.cons ?_ (DR.keys h2)
    cases e : p.1 with
    | inl i => unfold kMV kV Rep; rfl
    | inr x => unfold kMV kV Rep; rfl
end
/-- d[k], the key there: not unfolded by itself -/
inductive gDG (kvs : List (Key × MV)) (k : Key) (Q : MV → Prop) : Prop where
  | mk (m : MV) (h : dGet kvs k = some m) (q : Q m)
def gDx (m n : OV) (Q : MV → Prop) : Prop := match m, n with
  | .dct kvs, .fro (.int j) => gDG kvs (.inl j) Q
  | _, _ => False
def nDict : NX := fun _ Q => Q (.dct [])
/-- list(d) -/
def gListD (o : OV) (Q : MV → Prop) : Prop := match o with
  | .dct kvs => Q (.lst (kvs.map fun kv => kMV kv.1))
  | _ => False
section
variable {X : Cx} {cl : Nat → Addr} {W : WX} {a b c e value o ix : Expr} {fa fb fc : EX} {qa qb qc : QX} {xa : XX} {pos p : Pos} {i : Nat} {pl : List Nat}
theorem gDx_mo : ∀ m n (Q Q' : MV → Prop), (∀ k, Q k → Q' k) → gDx m n Q → gDx m n Q' := fun m n Q Q' k q => by
  unfold gDx at q ⊢
  split at q
  · obtain ⟨m, h, q⟩ := q
    exact .mk m h (k _ q)
  · exact q.elim
theorem m_dx (hu : X.A.units + 64 < cLine) (ha : MQ X cl a qa) (hb : MQ X cl b qb) (hs : NoSl b := by exact fun _ _ => rfl) : ME X cl (.Subscript a b pos) (eBin gDx qa qb) := by
  refine ⟨fun env Q Q' k q => ha.mo _ _ _ (fun m z => hb.mo _ _ _ (fun n z' => gDx_mo m n _ _ k z') z) q, PEmono (pe_dget (by omega) ha.pe hb.pe hs) fun σ H Q ⟨β, G, env, r0, q⟩ => ?_⟩
  refine ⟨β, G, env, r0, ha.mo _ _ _ (fun m q1 v H' G' e1 rv => ?_) q⟩
  refine ⟨β, G', env, r0.ext e1, hb.mo _ _ _ (fun n q2 w H2 G2 e2 rw => ?_) q1⟩
  have rv' := Same.repB rv e2
  have ee := e1.trans e2
  have q3 : gDx m n (fun k => ∀ v H' G', Ext H G H' G' → Rep X.K cl G' k v → Q v H') := q2
  unfold gDx at q3
  split at q3
  · rename_i kvs j
    unfold RepB at rv'
    obtain ⟨p, vs, rfl, h2, h3, h4⟩ := rv'
    unfold RepB Rep at rw
    subst rw
    obtain ⟨mm, hm, q4⟩ := q3
    rcases DR.get (.inl j) (show DR X.K cl G2 kvs vs from ⟨h3, h4⟩) with ⟨z, _⟩ | ⟨m', x, z, y1, y2⟩
    · rw [z] at hm; cases hm
    · rw [z] at hm; cases hm
      refine ⟨p, x, rfl, ?_, q4 x H2 G2 ee y2⟩
      have := DGet.k (k := .inl j) h2
      rw [y1] at this
      exact this
  · exact q3.elim
theorem mn_dict : MN X cl (.Dict [] [] pos) nDict := by
  refine ⟨fun env Q Q' k q => k _ q, PEmono pe_dnewK fun σ H Q ⟨β, G, env, r0, q⟩ p hp => ?_⟩
  refine q _ _ G [p] (Ext.new0 r0.gh hp) ?_ fun b hb => ?_
  · unfold RepO
    exact ⟨p, [], rfl, rfl, upd_same, rfl, Reps.nil⟩
  · have : b = p := by simpa using hb
    subst this
    exact ⟨hp, r0.gh.free hp, by rw [upd_same]; simp⟩
theorem gb_listD (hc : X.calm = true) : GB X cl (.type "list") gListD := by
  refine ⟨fun m Q Q' k q => ?_, _, call_listD hc, fun m x H G Q g r q => ?_⟩
  · unfold gListD at q ⊢
    split at q
    · exact k _ q
    · exact q.elim
  · unfold gListD at q
    split at q
    · rename_i kvs
      unfold RepB at r
      obtain ⟨p, vs, rfl, h2, h3, h4⟩ := r
      refine ⟨p, vs, rfl, .inl h2, fun l hl => ?_⟩
      refine q _ _ (upd G l (.lst (vs.map fun kv => kV kv.1))) (Ext.new g hl) ?_
      unfold Rep
      exact ⟨l, _, rfl, upd_same, Reps.same (same_upd (g.free hl)) _ _ (DR.keys ⟨h3, h4⟩)⟩
    · exact q.elim
theorem dct_write {K : PySem.W.Frag} {β : Bs} {σ : L2.St} {H G : Hp} {env : Env} {i : Nat} {p : List Nat} {kvs : List (Key × MV)} (r : R K cl β σ H G env []) (hp : ∀ f ∈ p, f < 60) (h : ownP env i p = some (.dct kvs)) :
    ∃ v0 l vs, σ[i]? = some (some v0) ∧ PAt K H v0 p (.ref l) ∧ H l = some (.dK vs) ∧ DR K cl G kvs vs ∧ ∀ kvs' vs', DR K cl G kvs' vs' → R K cl β σ (upd H l (.dK vs')) G (setP env i p (.dct kvs')) [] := by
  obtain ⟨v0, w, f1, h1, h2, h3, h4, _, h6⟩ := r.write hp h
  unfold RepO at h3
  obtain ⟨l, vs, rfl, rfl, y1, y2⟩ := h3
  refine ⟨v0, l, vs, h1, h2, y1, y2, fun ms' vs' rs => h6 _ G (.dct ms') [l] (Same.refl _) (fun b u q => ?_) (fun b hb u q => upd_off (by simpa using hb) q) (fun b _ q => q) ?_ (fun b hb => .inl hb) (fun b hb => h4 b hb)⟩
  · refine upd_off (fun z => ?_) (r.gh b u q)
    subst z
    rw [h4 b (by simp)] at q; cases q
  · unfold RepO
    exact ⟨l, vs', rfl, rfl, upd_same, rs.1, rs.2⟩
def setDB (i : Nat) (p : List Nat) (qi : QX) (m : MV) (env : Env) (Q : Env → Prop) : Prop := match ownP env i p with
  | some (.dct kvs) => qi env fun x => asFro x fun x => asInt x fun j => kvs.length < sizeLine ∧ Q (setP env i p (.dct (dPut kvs (.inl j) m)))
  | _ => False
def setD (i : Nat) (p : List Nat) (qi : QX) (xa : XX) : SX := fun env k => xa env (fun o env2 => asFro o fun m => setDB i p qi m env2 k.nx) k.ex
theorem setDB_mo {i : Nat} {qi : QX} {m : MV} {env : Env} {Q Q' : Env → Prop} (hq : ∀ env (Q Q' : OV → Prop), (∀ m, Q m → Q' m) → qi env Q → qi env Q') (k : ∀ e, Q e → Q' e) (h : setDB i pl qi m env Q) : setDB i pl qi m env Q' := by
  unfold setDB at h ⊢
  split at h
  · exact hq _ _ _ (fun x z => asFro_mo (fun x z => asInt_mo (fun j z => ⟨z.1, k _ z.2⟩) z) z) h
  · exact h.elim
theorem ms_setD {i : Nat} {spos : Pos} (hu : X.A.units + 64 < cLine) (ho : MP X o i pl) (hi : MQ X cl ix qa) (hv : MX X cl W value xa) (hp : fld38 pl = true := by rfl) (hs : swapsWith value (some (.Subscript o ix pos)) spos.line X.env = pure false := by rfl) :
    MS X cl W (.Assign [.Subscript o ix pos] value spos) (setD i pl qa xa) := by
  refine ⟨fun env k k' l q => hv.mo _ _ _ _ _ (fun o e z => asFro_mo (fun m z => setDB_mo hi.mo l.nx z) z) l.ex q, PSmono (ps_dput (by omega) ho hi.pe hv.pe hs) fun D σ H ⟨β, G, env, r0, q⟩ => ⟨β, G, env, r0, hv.mo _ _ _ _ _ (fun o e z v H' G' X' r' gg ro => ?_) (fun _ z => z) q⟩⟩
  cases o with
  | fro m =>
    unfold RepO at ro
    have z' : setDB i pl qa m e (kOf X.K cl W β G D).nx := z
    unfold setDB at z'
    split at z'
    · rename_i ms h
      have r1 := r'.drop
      obtain ⟨v0, l, vs, g1, g2, g3, g4, g5⟩ := dct_write r1 (fld38_out hp) h
      refine ⟨v0, .ref l, g1, g2, β, G', e, r1, hi.mo _ _ _ (fun x z w H2 G2 e2 rw => ?_) z'⟩
      cases x with
      | fro x =>
        unfold RepB at rw
        obtain ⟨j, rfl, rfl, z⟩ := asInt_rep (show asInt x _ from z) rw
        have r2 := r1.ext e2
        obtain ⟨v0', l', vs', y1, y2, y3, y4, y5⟩ := dct_write r2 (fld38_out hp) h
        rw [g1] at y1; cases y1
        have := PAt.uniq (PAt.same e2.hh g2) y2
        cases this
        refine ⟨l, _, rfl, DPut.k (k := .inl j) y3 (by rw [y4.len]; exact z.1), ?_⟩
        exact z.2 σ _ G2 (y5 _ _ (DR.put (.inl j) (Rep.same e2.gg _ _ ro.2) y4)) (gg.trans e2.gg)
      | _ => exact z.elim
    · exact z'.elim
  | _ => exact z.elim
end
end C
namespace C
open PySem PySem.Spec PyProof.Rows L2
/-! ### for x in [a, b]: x.append(None), where a, b are new lists: nobody sees it but x -/
section
variable {X : Cx} {cl : Nat → Addr} {W : WX} {e1 e2 : Expr} {n1 n2 : NX} {pos : Pos} {x : Str} {i : Nat}
def for2 (i : Nat) (n1 n2 : NX) : SX := fun env k => n1 env fun o1 => lstO o1 fun m1 => n2 env fun o2 => lstO o2 fun m2 => i < env.length ∧ k.nx (env.set i (.ow (.lst (m2 ++ [.non]))))
theorem ms_for2 {p1 p2 p3 p4 p5 apos cpos : Pos} {jj} (hp : PassesOwn (model X.prog X.w) X.A X.env X.xe) (hc : X.calm = true) (hN : X.N.Nodup) (hv : Vis X.env.scope x) (h1 : MN X cl e1 n1) (h2 : MN X cl e2 n2)
    (hi : X.N[i]? = some x := by rfl) (hx : Loc X.env.scope x := by first | exact Or.inl rfl | exact Or.inr rfl) (hf : X.fn x = true ∨ X.env.scope.names.lookup x = some .local := by first | exact .inl rfl | exact .inr rfl | assumption)
    (hd : (x == ("__debug__" : Str)) = false := by decide) (hcd : (x == ("__classdict__" : Str)) = false := by decide)
    (s1 : starEach [e1, e2] X.env = (false, eval e1 X.env) :: starEach [e2] X.env := by rfl) (s2 : starEach [e2] X.env = (false, eval e2 X.env) :: starEach [] X.env := by rfl)
    (he : starEach [.Constant .none jj p4] X.env = (false, eval (.Constant .none jj p4) X.env) :: starEach [] X.env := by rfl)
    (hbase : attributeBase (.Name x p3) "append" X.env (eval (.Name x p3) X.env) = eval (.Name x p3) X.env := by rfl)
    (hfew : ((backTo cpos (starEach [.Constant .none jj p4] X.env)).all (fun x => !x.1) && (backToKw cpos (keywordEach [] X.env)).all (fun x => x.1.isSome) && decide ([(Expr.Constant .none jj p4)].length + ([] : List Keyword).length + (if ([] : List Keyword).isEmpty then 0 else 1) < 30)) = true := by rfl)
    (hline : (apos.endLine == cpos.line) = true := by rfl) (hsw : swapsWith (.Call (.Attribute (.Name x p3) "append" apos) [.Constant .none jj p4] [] cpos) none p5.line X.env = pure false := by rfl)
    (hs : ∀ y, foldedSetIterable (.List [e1, e2] p2) X.env y = pure y := by intro _; rfl) :
    MS X cl W (.For (.Name x p1) (.List [e1, e2] p2) [.Expr (.Call (.Attribute (.Name x p3) "append" apos) [.Constant .none jj p4] [] cpos) p5] [] pos) (for2 i n1 n2) := by
  have pb := pss_one (X := X) (ps_expr (pos := p5) (pe_bm (cpos := cpos) PySem.F.plainAttrs_list PySem.F.slot_list_append PySem.F.type_list_append mt_append (pe_var (pos := p3) hi hv hd hcd) (pa_cons (pe_non (pos := p4)) pa_nil he) hbase hfew hline he rfl) hsw)
  have pl := pi_list (X := X) (tg := .Name x p1) (pe_lst (pos := p2) (pa_cons h1.pe (pa_cons h2.pe pa_nil s2) s1))
  refine ⟨fun env k k' l q => h1.mo _ _ _ (fun o z => lstO_mo (fun m z => h2.mo _ _ _ (fun o z => lstO_mo (fun m z => ⟨z.1, l.nx _ z.2⟩) z) z) z) q, PSmono (ps_for hp hc pl (pg_name hN hi hx hf) pb hs) fun D σ H ⟨β, G, env, r0, q⟩ => ?_⟩
  refine ⟨β, G, env, r0, h1.mo _ _ _ (fun o1 z v1 H1 G1 X1 x1 ro1 f1 => ?_) q⟩
  obtain ⟨q1, vs1, ms1, rfl, rfl, rfl, a1, b1, c1, z⟩ := repl ro1 z
  have g1 := f1 q1 (by simp)
  refine ⟨β, G1, env, r0.ext x1, h2.mo _ _ _ (fun o2 z v2 H2 G2 X2 x2 ro2 f2 => ?_) z⟩
  obtain ⟨q2, vs2, ms2, rfl, rfl, rfl, a2, b2, c2, z⟩ := repl ro2 z
  have g2 := f2 q2 (by simp)
  refine ⟨(by decide : 2 ≤ sizeLine), fun p hp0 => ⟨p, rfl, ⟨_, SqL.of upd_same⟩, ?_⟩⟩
  obtain ⟨il, z⟩ := z
  have iσ : i < σ.length := by rw [← r0.len]; exact il
  have k1 : H2 q1 = some (.lst vs1) := x2.hh _ _ a1
  have d21 : q2 ≠ q1 := fun y => by rw [y] at g2; exact g1.2.2 g2.1
  have dp1 : q1 ≠ p := fun y => by rw [y, hp0] at k1; cases k1
  have dp2 : q2 ≠ p := fun y => by rw [y, hp0] at a2; cases a2
  obtain ⟨HP, hHP⟩ : ∃ HP, HP = upd H2 p (.lst [.ref q1, .ref q2]) := ⟨_, rfl⟩
  obtain ⟨A1, hA1⟩ : ∃ A, A = upd HP q1 (.lst (vs1 ++ [.non])) := ⟨_, rfl⟩
  obtain ⟨A2, hA2⟩ : ∃ A, A = upd A1 q2 (.lst (vs2 ++ [.non])) := ⟨_, rfl⟩
  have P0 : HP p = some (.lst [.ref q1, .ref q2]) := by rw [hHP]; exact upd_same
  have P1 : A1 p = some (.lst [.ref q1, .ref q2]) := by rw [hA1, upd_ne (Ne.symm dp1)]; exact P0
  have P2 : A2 p = some (.lst [.ref q1, .ref q2]) := by rw [hA2, upd_ne (Ne.symm dp2)]; exact P1
  have M1 : HP q1 = some (.lst vs1) := by rw [hHP, upd_ne dp1]; exact k1
  have M2 : A1 q2 = some (.lst vs2) := by rw [hA1, upd_ne d21, hHP, upd_ne dp2]; exact a2
  rw [← hHP]
  refine ⟨fun n m σ' H' => (n = 0 ∧ m = 2 ∧ σ' = σ ∧ H' = HP) ∨ (n = 1 ∧ m = 1 ∧ σ' = σ.set i (some (.ref q1)) ∧ H' = A1) ∨ (n = 2 ∧ m = 0 ∧ σ' = σ.set i (some (.ref q2)) ∧ H' = A2), ⟨2, .inl ⟨rfl, rfl, rfl, rfl⟩⟩, ?_⟩
  have turn : ∀ (N : L2.St → Hp → Prop) (D' : Ends) (σ' : L2.St) (H' : Hp) (q : Addr) (vs : List V), σ'.length = σ.length → H' q = some (.lst vs) → vs.length < sizeLine → (∀ σ2 H2, σ2 = σ'.set i (some (.ref q)) → H2 = upd H' q (.lst (vs ++ [.non])) → N σ2 H2) → gName i (.ref q) σ' H' fun σ2 H2 => tDrop (tBM X.K "list" rAppend (tVar i) (tCons (tC V.non) tNil)) { D' with nx := N } σ2 H2 := fun N D' σ' H' q vs hl hq hs hN => by
    refine ⟨.ref q, ?_, .inl ⟨rfl, vs, SqL.of hq⟩, q, vs, .non, rfl, rfl, hq, hs, hN _ _ rfl rfl⟩
    rw [List.getElem?_set_self (by omega)]
  have item : ∀ {H' : Hp} {n : Nat} {x : V} {q : Addr}, H' p = some (.lst [.ref q1, .ref q2]) → ([V.ref q1, .ref q2] : List V)[n]? = some (.ref q) → (∀ xs, SqL X.K H' p xs → xs[n]? = some x) → x = .ref q := fun h1 h2 h3 => by
    have := h3 _ (SqL.of h1)
    rw [h2] at this
    exact (Option.some.inj this).symm
  have cvs1 : vs1.length < sizeLine := by rw [Reps.len _ _ b1]; exact c1
  have cvs2 : vs2.length < sizeLine := by rw [Reps.len _ _ b2]; exact c2
  rintro n m σ' H' (⟨e1, e2, e3, e4⟩ | ⟨e1, e2, e3, e4⟩ | ⟨e1, e2, e3, e4⟩)
  · subst e1 e2 e3 e4
    refine Or.inr ⟨⟨[.ref q1, .ref q2], .ref q1, SqL.of P0, rfl⟩, fun σ2 H2 => σ2 = σ'.set i (some (.ref q1)) ∧ H2 = A1, fun σ2 H2 w => ⟨1, by decide, Or.inr (Or.inl ⟨rfl, rfl, w.1, w.2⟩)⟩, fun x H2 w => ?_⟩
    obtain ⟨w1, w2⟩ := w
    subst w1
    rw [item P0 rfl w2]
    exact turn (fun σ2 H2 => σ2 = σ'.set i (some (.ref q1)) ∧ H2 = A1) D σ' H2 q1 vs1 rfl M1 cvs1 fun σ2 H3 w3 w4 => ⟨w3, by rw [w4, hA1]⟩
  · subst e1 e2 e3 e4
    refine Or.inr ⟨⟨[.ref q1, .ref q2], .ref q2, SqL.of P1, rfl⟩, fun σ2 H2 => σ2 = σ.set i (some (.ref q2)) ∧ H2 = A2, fun σ2 H2 w => ⟨0, by decide, Or.inr (Or.inr ⟨rfl, rfl, w.1, w.2⟩)⟩, fun x H2 w => ?_⟩
    obtain ⟨w1, w2⟩ := w
    subst w1
    rw [item P1 rfl w2]
    exact turn (fun σ2 H2 => σ2 = σ.set i (some (.ref q2)) ∧ H2 = A2) D _ H2 q2 vs2 (by simp) M2 cvs2 fun σ2 H3 w3 w4 => ⟨by rw [w3, List.set_set], by rw [w4, hA2]⟩
  · subst e1 e2 e3 e4
    refine Or.inl ⟨⟨_, SqL.of P2, Nat.le_refl 2⟩, ?_⟩
    have xx := x1.trans x2
    have n1 : G2 q1 = none := x2.gn _ g1.2.2 g1.2.1
    have n2 : G2 q2 = none := g2.2.1
    have np : G2 p = none := x2.gh.free hp0
    have h1 : H q1 = none := g1.1
    have h2 : H q2 = none := x1.hh.free g2.1
    have hp' : H p = none := xx.hh.free hp0
    have off : ∀ b, b ≠ p → b ≠ q1 → b ≠ q2 → H' b = H2 b := fun b y0 y1 y2 => by rw [hA2, upd_ne y2, hA1, upd_ne y1, hHP, upd_ne y0]
    have E : Ext H G H' G2 := by
      refine ⟨fun b u y => ?_, xx.gg, fun b u y => ?_, xx.gn⟩
      · rw [off b (ne_of_none y hp') (ne_of_none y h1) (ne_of_none y h2)]; exact xx.hh b u y
      · rw [off b (ne_of_none y np) (ne_of_none y n1) (ne_of_none y n2)]; exact x2.gh b u y
    have hq2 : H' q2 = some (.lst (vs2 ++ [.non])) := by rw [hA2]; exact upd_same
    have ro : RepO X.K cl H' G2 (.lst (ms2 ++ [.non])) (.ref q2) [q2] := by
      unfold RepO
      exact ⟨q2, _, rfl, rfl, hq2, Reps.app _ _ _ _ b2 (Reps.one (by unfold Rep; rfl))⟩
    have hz : ∀ b ∈ [q2], H b = none ∧ G2 b = none ∧ H' b ≠ none := fun b hb => by
      have : b = q2 := by simpa using hb
      subst this
      exact ⟨h2, n2, by rw [hq2]; simp⟩
    exact z _ H' G2 ((r0.extX E hz).setv il ro) xx.gg
end
end C
namespace C
open PySem PySem.Spec PyProof.Rows L2
/-! ### texts -/
def strsL : List MV → Option (List Str)
  | [] => some []
  | .str i :: ms => match strsL ms with
    | some is => some (i :: is)
    | none => none
  | _ :: _ => none
theorem strsL_map : ∀ l : List Str, strsL (l.map .str) = some l
  | [] => rfl
  | b :: l => by
    have h := strsL_map l
    simp only [List.map_cons]
    unfold strsL
    rw [h]
theorem strs_rep {K : PySem.W.Frag} {cl : Nat → Addr} {G : Hp} : ∀ (ms : List MV) (vs : List V) (ys : List Str), strsL ms = some ys → Reps K cl G ms vs → vs = ys.map V.str
  | [], vs, ys, e, h => by
    unfold strsL at e; cases e
    unfold Reps at h; subst h; rfl
  | .str i :: ms, vs, ys, e, h => by
    unfold strsL at e
    cases q : strsL ms with
    | none => rw [q] at e; cases e
    | some is =>
      rw [q] at e; cases e
      unfold Reps at h
      obtain ⟨v, ws, rfl, h2, h3⟩ := h
      unfold Rep at h2; subst h2
      rw [strs_rep ms ws is q h3]; rfl
  | .non :: _, _, _, e, _ | .bl _ :: _, _, _, e, _ | .int _ :: _, _, _, e, _ | .tup _ :: _, _, _, e, _ | .lst _ :: _, _, _, e, _ | .obj _ _ :: _, _, _, e, _ | .fn _ :: _, _, _, e, _ | .dct _ _ :: _, _, _, e, _ => by cases e
theorem reps_strs {K : PySem.W.Frag} {cl : Nat → Addr} {G : Hp} : ∀ ys : List Str, Reps K cl G (ys.map .str) (ys.map V.str)
  | [] => Reps.nil
  | i :: ns => Reps.cons rep_str (reps_strs ns)
section
variable {X : Cx} {cl : Nat → Addr} {a b c e : Expr} {fa : EX} {qa qb : QX} {pos p : Pos}
/-- a sign in a text -/
noncomputable def gInC (neg : Bool) : GR := fun m n Q => asFro m fun m => asFro n fun n => asStr m fun x => asStr n fun z => match x.cps.toList with
  | [c] => eqQ neg (c ∈ z.cps.toList) Q
  | _ => False
theorem gInC_mo {neg : Bool} : ∀ m n (Q Q' : Bool → Prop), (∀ k, Q k → Q' k) → gInC neg m n Q → gInC neg m n Q' := fun m n Q Q' k q =>
  asFro_mo (fun m z => asFro_mo (fun n z => asStr_mo (fun x z => asStr_mo (fun y z => by
    split at z
    · exact eqQ_mo k z
    · exact z) z) z) z) q
theorem gInC_out {neg : Bool} {K : PySem.W.Frag} {H G : Hp} {m n : OV} {x y : V} {Q : Bool → Prop} (rx : RepB K cl H G m x) (ry : RepB K cl H G n y) (q : gInC neg m n Q) : ∃ (c : Nat) (z : Str), x = .str ⟨#[c]⟩ ∧ y = .str z ∧ Q (neg ^^ decide (c ∈ z.cps.toList)) := by
  cases m with
  | fro m =>
    cases n with
    | fro n =>
      unfold RepB at rx ry
      obtain ⟨x', rfl, rfl, q⟩ := asStr_rep (show asStr m _ from q) rx
      obtain ⟨y', rfl, rfl, q⟩ := asStr_rep (show asStr n _ from q) ry
      split at q
      · rename_i c hc
        refine ⟨c, y', ?_, rfl, eqQ_eq q⟩
        congr 1
        exact TL.ext_tl hc
      · exact q.elim
    | _ => exact q.elim
  | _ => exact q.elim
theorem gc_inC : GC X cl .In (gInC false) := ⟨gInC_mo, _, op_in_sign, fun m n x y H G Q g rx ry q => by
  obtain ⟨c, z, rfl, rfl, q⟩ := gInC_out rx ry q
  exact ⟨c, z, rfl, rfl, by simpa using q⟩⟩
theorem gc_notinC : GC X cl .NotIn (gInC true) := ⟨gInC_mo, _, op_notIn_sign, fun m n x y H G Q g rx ry q => by
  obtain ⟨c, z, rfl, rfl, q⟩ := gInC_out rx ry q
  exact ⟨c, z, rfl, rfl, by simpa using q⟩⟩
/-- a slice of a text -/
def eSlS (qa : QX) (l h : OX) : EX := fun env Q => qa env fun m => l env fun lo => h env fun hi => asFro m fun m => asStr m fun x => x.length ≤ sizeLine ∧ Q (.str (Txt.slice x lo hi))
theorem m_slS {lo hi : Option Expr} {l h : OX} {p2 : Pos} (ha : MQ X cl a qa) (hl : MO X cl lo l) (hh : MO X cl hi h) : ME X cl (.Subscript a (.Slice lo hi none p2) pos) (eSlS qa l h) := by
  refine ⟨fun env Q Q' k q => ha.mo _ _ _ (fun m z => hl.mo _ _ _ (fun _ z => hh.mo _ _ _ (fun _ z => asFro_mo (fun _ z => asStr_mo (fun _ z => ⟨z.1, k _ z.2⟩) z) z) z) z) q, PEmono (pe_slice C8.sl_txt ha.pe hl.po hh.po) fun σ H Q ⟨β, G, env, r0, q⟩ => ?_⟩
  refine ⟨β, G, env, r0, ha.mo _ _ _ (fun m z v H' G' e rv => ?_) q⟩
  refine ⟨β, G', env, r0.ext e, hl.mo _ _ _ (fun lo z H2 G2 e2 => ?_) z⟩
  refine ⟨β, G2, env, (r0.ext e).ext e2, hh.mo _ _ _ (fun hi z H3 G3 e3 => ?_) z⟩
  cases m with
  | fro m =>
    unfold RepB at rv
    obtain ⟨x, rfl, rfl, z⟩ := asStr_rep (show asStr m _ from z) rv
    exact ⟨x, rfl, z.1, z.2 _ H3 G3 ((e.trans e2).trans e3) rep_str⟩
  | _ => exact z.elim
/-- x.startswith(y) -/
def eStw (qa : QX) (fb : EX) : EX := fun env Q => qa env fun m => asFro m fun m => asStr m fun x => fb env fun n => asStr n fun y => Q (.bl (Txt.startswith x y))
theorem m_stw {apos : Pos} (ha : MQ X cl a qa) (hb : ME X cl b fa) (hs : starEach [b] X.env = [(false, eval b X.env)] := by rfl) (hbase : attributeBase a "startswith" X.env (eval a X.env) = eval a X.env := by rfl) (hline : (apos.endLine == pos.line) = true := by rfl) :
    ME X cl (.Call (.Attribute a "startswith" apos) [b] [] pos) (eStw qa fa) := by
  refine ⟨fun env Q Q' k q => ha.mo _ _ _ (fun m z => asFro_mo (fun _ z => asStr_mo (fun _ z => hb.mo _ _ _ (fun n z => asStr_mo (fun _ z => k _ z) z) z) z) z) q, PEmono (pe_m1 F.slot_str_startswith F.type_str_startswith mt_startswith ha.pe hb.pe hs hbase hline) fun σ H Q ⟨β, G, env, r0, q⟩ => ?_⟩
  refine ⟨β, G, env, r0, ha.mo _ _ _ (fun m z v H' G' e rv => ?_) q⟩
  cases m with
  | fro m =>
    unfold RepB at rv
    obtain ⟨x, rfl, rfl, z⟩ := asStr_rep (show asStr m _ from z) rv
    refine ⟨⟨x, rfl⟩, β, G', env, r0.ext e, hb.mo _ _ _ (fun n z w H2 G2 e2 rw => ?_) z⟩
    obtain ⟨y, rfl, rfl, z⟩ := asStr_rep z rw
    exact ⟨x, y, rfl, rfl, z _ H2 G2 (e.trans e2) (by unfold Rep; rfl)⟩
  | _ => exact z.elim
/-- x.split(y): a new list -/
def nSplit (qa : QX) (fb : EX) : NX := fun env Q => qa env fun m => asFro m fun m => asStr m fun x => fb env fun n => asStr n fun y => ((y.length == 0) = false ∧ x.length + 2 ≤ sizeLine) ∧ Q (.lst ((Txt.split x y).map .str))
theorem mn_split {apos : Pos} (ha : MQ X cl a qa) (hb : ME X cl b fa) (hs : starEach [b] X.env = [(false, eval b X.env)] := by rfl) (hbase : attributeBase a "split" X.env (eval a X.env) = eval a X.env := by rfl) (hline : (apos.endLine == pos.line) = true := by rfl) :
    MN X cl (.Call (.Attribute a "split" apos) [b] [] pos) (nSplit qa fa) := by
  refine ⟨fun env Q Q' k q => ha.mo _ _ _ (fun m z => asFro_mo (fun _ z => asStr_mo (fun _ z => hb.mo _ _ _ (fun n z => asStr_mo (fun _ z => ⟨z.1, k _ z.2⟩) z) z) z) z) q, PEmono (pe_split ha.pe hb.pe hs hbase hline) fun σ H Q ⟨β, G, env, r0, q⟩ => ?_⟩
  refine ⟨β, G, env, r0, ha.mo _ _ _ (fun m z v H' G' e rv => ?_) q⟩
  cases m with
  | fro m =>
    unfold RepB at rv
    obtain ⟨x, rfl, rfl, z⟩ := asStr_rep (show asStr m _ from z) rv
    refine ⟨⟨x, rfl⟩, β, G', env, r0.ext e, hb.mo _ _ _ (fun n z w H2 G2 e2 rw => ?_) z⟩
    obtain ⟨y, rfl, rfl, z⟩ := asStr_rep z rw
    exact ⟨x, y, rfl, rfl, z.1.1, z.1.2, fun l hl => new_own (Q := fun _ v H => Q v H) (e.trans e2) hl (reps_strs _) z.2⟩
  | _ => exact z.elim
/-- x.split(y, i) -/
def nSplitM (qa : QX) (fb fc : EX) : NX := fun env Q => qa env fun m => asFro m fun m => asStr m fun x => fb env fun n => asStr n fun y => fc env fun o => asInt o fun i => ((y.length == 0) = false ∧ (-(2 ^ 63) ≤ i ∧ i < 2 ^ 63) ∧ x.length + 2 ≤ sizeLine) ∧ Q (.lst ((Txt.splitMax x y i).map .str))
theorem mn_splitM {apos : Pos} (ha : MQ X cl a qa) (hb : ME X cl b fa) {fc : EX} (hcc : ME X cl c fc) (hs : starEach [b, c] X.env = (false, eval b X.env) :: starEach [c] X.env := by rfl) (hs2 : starEach [c] X.env = (false, eval c X.env) :: starEach [] X.env := by rfl)
    (hbase : attributeBase a "split" X.env (eval a X.env) = eval a X.env := by rfl)
    (hfew : ((backTo pos (starEach [b, c] X.env)).all (fun x => !x.1) && (backToKw pos (keywordEach [] X.env)).all (fun x => x.1.isSome) && decide ([b, c].length + ([] : List Keyword).length + (if ([] : List Keyword).isEmpty then 0 else 1) < 30)) = true := by rfl)
    (hline : (apos.endLine == pos.line) = true := by rfl) (hpl : (backTo pos (starEach [c] X.env)).any (·.1) = false := by rfl) :
    MN X cl (.Call (.Attribute a "split" apos) [b, c] [] pos) (nSplitM qa fa fc) := by
  refine ⟨fun env Q Q' k q => ha.mo _ _ _ (fun m z => asFro_mo (fun _ z => asStr_mo (fun _ z => hb.mo _ _ _ (fun n z => asStr_mo (fun _ z => hcc.mo _ _ _ (fun o z => asInt_mo (fun _ z => ⟨z.1, k _ z.2⟩) z) z) z) z) z) z) q,
    PEmono (pe_bm (cpos := pos) PySem.F.plainAttrs_str PySem.F.slot_str_split PySem.F.type_str_split mt_splitMax ha.pe (pa_cons hb.pe (pa_cons hcc.pe pa_nil hs2) hs) hbase hfew hline hs hpl) fun σ H Q ⟨β, G, env, r0, q⟩ => ?_⟩
  refine ⟨β, G, env, r0, ha.mo _ _ _ (fun m z v H' G' e rv => ?_) q⟩
  cases m with
  | fro m =>
    unfold RepB at rv
    obtain ⟨x, rfl, rfl, z⟩ := asStr_rep (show asStr m _ from z) rv
    refine ⟨rfl, β, G', env, r0.ext e, hb.mo _ _ _ (fun n z w H2 G2 e2 rw => ?_) z⟩
    obtain ⟨y, rfl, rfl, z⟩ := asStr_rep z rw
    refine ⟨β, G2, env, (r0.ext e).ext e2, hcc.mo _ _ _ (fun o z w H3 G3 e3 rw => ?_) z⟩
    obtain ⟨i, rfl, rfl, z⟩ := asInt_rep z rw
    exact ⟨x, y, i, rfl, rfl, z.1.1, z.1.2.1.1, z.1.2.1.2, z.1.2.2, fun l hl => new_own (Q := fun _ v H => Q v H) ((e.trans e2).trans e3) hl (reps_strs _) z.2⟩
  | _ => exact z.elim
/-- x.join(ys) -/
def asStrs (o : OV) (Q : List Str → Prop) : Prop := asL o fun ms => match strsL ms with
  | some ys => Q ys
  | none => False
theorem asStrs_mo {o : OV} {Q Q' : List Str → Prop} (k : ∀ m, Q m → Q' m) (h : asStrs o Q) : asStrs o Q' := asL_mo (fun ms z => by
  split at z
  · exact k _ z
  · exact z) h
def eJoin (qa qb : QX) : EX := fun env Q => qa env fun m => asFro m fun m => asStr m fun x => qb env fun n => asStrs n fun ys => (ys.map (·.length)).sum + ys.length * x.length ≤ 16777216 ∧ Q (.str (Txt.join x ys))
theorem m_join {apos : Pos} (ha : MQ X cl a qa) (hb : MQ X cl b qb) (hs : starEach [b] X.env = [(false, eval b X.env)] := by rfl) (hbase : attributeBase a "join" X.env (eval a X.env) = eval a X.env := by rfl) (hline : (apos.endLine == pos.line) = true := by rfl) :
    ME X cl (.Call (.Attribute a "join" apos) [b] [] pos) (eJoin qa qb) := by
  refine ⟨fun env Q Q' k q => ha.mo _ _ _ (fun m z => asFro_mo (fun _ z => asStr_mo (fun _ z => hb.mo _ _ _ (fun n z => asStrs_mo (fun _ z => ⟨z.1, k _ z.2⟩) z) z) z) z) q, PEmono (pe_join ha.pe hb.pe hs hbase hline) fun σ H Q ⟨β, G, env, r0, q⟩ => ?_⟩
  refine ⟨β, G, env, r0, ha.mo _ _ _ (fun m z v H' G' e rv => ?_) q⟩
  cases m with
  | fro m =>
    unfold RepB at rv
    obtain ⟨x, rfl, rfl, z⟩ := asStr_rep (show asStr m _ from z) rv
    refine ⟨⟨x, rfl⟩, β, G', env, r0.ext e, hb.mo _ _ _ (fun n z w H2 G2 e2 rw => ?_) z⟩
    obtain ⟨ms, q, vs, rfl, h2, h3, z⟩ := asL_rep e2.gh (show asL n _ from z) rw
    split at z
    · rename_i ys hy
      have := strs_rep ms vs ys hy h3
      subst this
      exact ⟨x, q, ys, rfl, rfl, .inl (SqL.of h2), z.1, z.2 _ H2 G2 (e.trans e2) rep_str⟩
    · exact z.elim
  | _ => exact z.elim
/-- ord(x) -/
def gOrd (o : OV) (Q : MV → Prop) : Prop := asFro o fun m => asStr m fun x => x.length = 1 ∧ Q (.int (x.cps.getD 0 0 : Nat))
theorem gb_ord : GB X cl (.builtin "ord") gOrd := by
  refine ⟨fun o Q Q' k q => asFro_mo (fun _ z => asStr_mo (fun _ z => ⟨z.1, k _ z.2⟩) z) q, _, call_ord, fun m x H G Q g r q => ?_⟩
  cases m with
  | fro m =>
    unfold RepB at r
    obtain ⟨x, rfl, rfl, z⟩ := asStr_rep (show asStr m _ from q) r
    exact ⟨x, rfl, z.1, z.2 _ H G (Ext.refl g) rep_int⟩
  | _ => exact q.elim
end
/-- a statement that is not reached -/
def sNever : SX := fun _ _ => False
theorem ms_never {X : Cx} {cl : Nat → Addr} {W : WX} (st : Stmt) : MS X cl W st sNever := ⟨fun _ _ _ _ q => q, ⟨fun pins s σ H D I h => by obtain ⟨_, _, _, _, h⟩ := h; exact h.elim⟩⟩
end C
namespace C
open PySem PySem.Spec PyProof.Rows L2 TL
/-! ### texts by their signs -/
def txt (l : List Nat) : Str := ⟨l.toArray⟩
theorem tl_txt (l : List Nat) : tl (txt l) = l := rfl
theorem txt_tl (x : Str) : txt (tl x) = x := mk_tl x
theorem txt_len (l : List Nat) : (txt l).length = l.length := by rw [len_tl]; rfl
theorem txt_app (a b : List Nat) : txt a ++ txt b = txt (a ++ b) := ext_tl (by rw [tl_append]; rfl)
theorem txt_inj {a b : List Nat} (h : txt a = txt b) : a = b := by
  have := congrArg tl h
  exact this
theorem txt_eq {a b : List Nat} : (txt a = txt b) = (a = b) := propext ⟨txt_inj, fun h => by rw [h]⟩
theorem txt_lit (s : String) : Str.ofString s = txt (s.toList.map Char.toNat) := ext_tl (tl_ofString s)
theorem map_txt {ws : List Str} {ls : List (List Nat)} (h : ws.map tl = ls) : ws = ls.map txt := by
  refine map_tl_inj ?_
  rw [h, List.map_map]
  have : tl ∘ txt = id := rfl
  rw [this, List.map_id]
/-! splitting -/
def hdC (c : Nat) : List (List Nat) → List (List Nat)
  | w :: ws => (c :: w) :: ws
  | [] => [[c]]
def spN (s : Nat) : Nat → List Nat → List (List Nat)
  | _, [] => [[]]
  | 0, c :: r => [c :: r]
  | n + 1, c :: r => if c = s then [] :: spN s n r else hdC c (spN s (n + 1) r)
def sp (s : Nat) : List Nat → List (List Nat)
  | [] => [[]]
  | c :: r => if c = s then [] :: sp s r else hdC c (sp s r)
def idx (s : Nat) : List Nat → Nat → List Nat
  | [], _ => []
  | c :: r, a => if c = s then a :: idx s r (a + 1) else idx s r (a + 1)
def cutA (l : List Nat) : Nat → List Nat → List (List Nat)
  | a, [] => [l.drop a]
  | a, c :: r => (l.drop a).take (c - a) :: cutA l (c + 1) r
theorem parts_cut (x : Str) : ∀ (cuts : List Nat) (a : Nat), (StrLaws.partsFrom x 1 a cuts).map tl = cutA (tl x) a cuts
  | [], a => by
    show [tl (Builtin.Str.strSub x a x.length)] = _
    rw [tl_strSub_end]; rfl
  | c :: r, a => by
    show tl (Builtin.Str.strSub x a c) :: (StrLaws.partsFrom x 1 (c + 1) r).map tl = _
    rw [tl_strSub, parts_cut x r (c + 1)]; rfl
theorem idx_ge {s : Nat} : ∀ (m : List Nat) (a i : Nat), i ∈ idx s m a → a ≤ i
  | [], a, i, h => by cases h
  | c :: r, a, i, h => by
    unfold idx at h
    split at h
    · rcases List.mem_cons.mp h with rfl | h
      · exact Nat.le_refl _
      · have := idx_ge r (a + 1) i h; omega
    · have := idx_ge r (a + 1) i h; omega
theorem idx_len {s : Nat} : ∀ (m : List Nat) (a : Nat), (idx s m a).length ≤ m.length
  | [], a => Nat.le_refl _
  | c :: r, a => by
    unfold idx
    have := idx_len (s := s) r (a + 1)
    split
    · rw [List.length_cons, List.length_cons]; omega
    · rw [List.length_cons]; omega
theorem cutA_cons {l : List Nat} {a c : Nat} {m : List Nat} (h : l.drop a = c :: m) (h2 : l.drop (a + 1) = m) : ∀ cuts : List Nat, (∀ i ∈ cuts, a + 1 ≤ i) → cutA l a cuts = hdC c (cutA l (a + 1) cuts)
  | [], _ => by
    show [l.drop a] = hdC c [l.drop (a + 1)]
    rw [h, h2]; rfl
  | i :: r, hc => by
    have := hc i List.mem_cons_self
    show (l.drop a).take (i - a) :: cutA l (i + 1) r = hdC c ((l.drop (a + 1)).take (i - (a + 1)) :: cutA l (i + 1) r)
    rw [h, h2, show i - a = (i - (a + 1)) + 1 by omega]; rfl
theorem cut_idx (s : Nat) (l : List Nat) : ∀ (m : List Nat) (a n : Nat), l.drop a = m → cutA l a ((idx s m a).take n) = spN s n m
  | [], a, n, h => by
    have e : (idx s [] a).take n = [] := by unfold idx; exact List.take_nil
    rw [e]
    show [l.drop a] = spN s n []
    rw [h]
    unfold spN
    rfl
  | c :: r, a, 0, h => by
    rw [List.take_zero]
    show [l.drop a] = [c :: r]
    rw [h]
  | c :: r, a, n + 1, h => by
    have h2 : l.drop (a + 1) = r := by rw [← List.drop_drop, h]; rfl
    unfold idx spN
    by_cases e : c = s
    · rw [if_pos e, if_pos e]
      show (l.drop a).take (a - a) :: cutA l (a + 1) ((idx s r (a + 1)).take n) = _
      rw [Nat.sub_self, List.take_zero, cut_idx s l r (a + 1) n h2]
    · rw [if_neg e, if_neg e, cutA_cons h h2 _ fun i hi => idx_ge r (a + 1) i (List.mem_of_mem_take hi), cut_idx s l r (a + 1) (n + 1) h2]
open Builtin Builtin.Str StrLaws in
theorem occ_run (x : Str) (s limit : Nat) : ∀ (m : List Nat) (a f : Nat) (acc : Array Nat), (tl x).drop a = m → a + m.length = (tl x).length → f ≤ a → acc.size ≤ limit →
    (forIn (List.range' a (m.length + 1)) (acc, f) (occBody x ⟨#[s]⟩ x.length limit)).run.fst.toList = acc.toList ++ (idx s m a).take (limit - acc.size)
  | [], a, f, acc, h, hl, hf, hs => by
    rw [show List.range' a (([] : List Nat).length + 1) = [a] from rfl, List.forIn_cons]
    unfold occBody
    have hx := len_tl x
    rw [List.length_nil] at hl
    rw [if_neg (fun z => by have := z.1.2; rw [show (⟨#[s]⟩ : Str).length = 1 from rfl] at this; omega)]
    show acc.toList = _
    unfold idx
    rw [List.take_nil, List.append_nil]
  | c :: r, a, f, acc, h, hl, hf, hs => by
    have h2 : (tl x).drop (a + 1) = r := by rw [← List.drop_drop, h]; rfl
    have hx := len_tl x
    rw [List.length_cons] at hl
    have sub : subAt x ⟨#[s]⟩ a = decide (c = s) := by
      rw [subAt_eq, show x.cps.toList = tl x from rfl, h]
      show ([c] == [s]) = _
      by_cases e : c = s
      · rw [e, decide_eq_true rfl]; exact beq_self_eq_true _
      · rw [decide_eq_false e]
        exact beq_eq_false_iff_ne.mpr fun z => e (List.cons.inj z).1
    rw [List.length_cons, List.range'_succ, List.forIn_cons]
    unfold occBody
    rw [sub, show (⟨#[s]⟩ : Str).length = 1 from rfl]
    unfold idx
    by_cases e : c = s
    · by_cases l : acc.size < limit
      · rw [if_pos ⟨⟨⟨l, hf⟩, by omega⟩, decide_eq_true e⟩, if_pos e]
        have ih := occ_run x s limit r (a + 1) (a + 1) (acc.push a) h2 (by omega) (Nat.le_refl _) (by rw [Array.size_push]; omega)
        refine Eq.trans ih ?_
        rw [Array.size_push, Array.toList_push, List.append_assoc, show limit - acc.size = (limit - (acc.size + 1)) + 1 by omega]
        rfl
      · rw [if_neg (fun z => l z.1.1.1), if_pos e]
        have ih := occ_run x s limit r (a + 1) f acc h2 (by omega) (by omega) hs
        refine Eq.trans ih ?_
        rw [show limit - acc.size = 0 by omega, List.take_zero, List.take_zero]
    · rw [if_neg (fun z => e (of_decide_eq_true z.2)), if_neg e]
      exact occ_run x s limit r (a + 1) f acc h2 (by omega) (by omega) hs
open Builtin Builtin.Str StrLaws in
theorem occ_idx (x : Str) (s limit : Nat) : occurrences x ⟨#[s]⟩ 0 x.length limit = (idx s (tl x) 0).take limit := by
  rw [occ_eq]
  have := occ_run x s limit (tl x) 0 0 #[] rfl (by omega) (Nat.le_refl _) (Nat.zero_le _)
  rw [← len_tl] at this
  exact this
open Builtin Builtin.Str StrLaws in
theorem parts_spN (x : Str) (s n : Nat) : (partsBetween x ((idx s (tl x) 0).take n) 1).map tl = spN s n (tl x) := by
  rw [partsBetween_eq, parts_cut, cut_idx s (tl x) (tl x) 0 n rfl]
open Builtin Builtin.Str StrLaws in
theorem splitMax_txt (x : Str) {s : Nat} (hs : s < 256) (k : Int) (h0 : 0 ≤ k) : Txt.splitMax x (txt [s]) k = (spN s k.toNat (tl x)).map txt := by
  refine map_txt ?_
  have hy : (txt [s] : Str) = ⟨#[s]⟩ := rfl
  have p := parts_spN x s k.toNat
  have none_case : (idx s (tl x) 0).take k.toNat = [] → [x].map tl = spN s k.toNat (tl x) := fun e => by
    rw [e, partsBetween_eq] at p
    rw [← p]
    show [tl x] = [tl (strSub x 0 x.length)]
    rw [sub_whole]
  unfold Txt.splitMax
  rw [show (txt [s]).length = 1 from rfl, hy]
  have hk : ¬ strKind x < strKind ⟨#[s]⟩ := kind_ok (by simp; exact hs)
  by_cases h1 : x.length < 1
  · rw [if_pos (by rw [decide_eq_true h1]; rfl)]
    refine none_case ?_
    have : tl x = [] := List.eq_nil_of_length_eq_zero (by rw [← len_tl]; omega)
    rw [this]
    exact List.take_nil
  · rw [if_neg (by rw [decide_eq_false h1, decide_eq_false hk]; exact fun z => by cases z)]
    have el : limitOf x k = k.toNat := by unfold limitOf; rw [if_neg (by omega)]
    rw [el, occ_idx]
    by_cases h2 : ((idx s (tl x) 0).take k.toNat).isEmpty = true
    · rw [if_pos h2]
      exact none_case (List.isEmpty_iff.mp h2)
    · rw [if_neg h2]
      exact p
theorem spN_sp (s : Nat) : ∀ (l : List Nat) (n : Nat), l.length ≤ n → spN s n l = sp s l
  | [], n, _ => by unfold spN sp; rfl
  | c :: r, 0, h => by rw [List.length_cons] at h; omega
  | c :: r, n + 1, h => by
    rw [List.length_cons] at h
    unfold spN sp
    rw [spN_sp s r n (by omega), spN_sp s r (n + 1) (by omega)]
open Builtin Builtin.Str StrLaws in
theorem split_txt (x : Str) {s : Nat} (hs : s < 256) : Txt.split x (txt [s]) = (sp s (tl x)).map txt := by
  refine map_txt ?_
  have hy : (txt [s] : Str) = ⟨#[s]⟩ := rfl
  have p := parts_spN x s (x.length + 1)
  rw [spN_sp s (tl x) _ (by rw [← len_tl]; omega)] at p
  have none_case : (idx s (tl x) 0).take (x.length + 1) = [] → [x].map tl = sp s (tl x) := fun e => by
    rw [e, partsBetween_eq] at p
    rw [← p]
    show [tl x] = [tl (strSub x 0 x.length)]
    rw [sub_whole]
  unfold Txt.split
  rw [show (txt [s]).length = 1 from rfl, hy]
  have hk : ¬ strKind x < strKind ⟨#[s]⟩ := kind_ok (by simp; exact hs)
  by_cases h1 : x.length < 1
  · rw [if_pos (by rw [decide_eq_true h1]; rfl)]
    refine none_case ?_
    have : tl x = [] := List.eq_nil_of_length_eq_zero (by rw [← len_tl]; omega)
    rw [this]
    exact List.take_nil
  · rw [if_neg (by rw [decide_eq_false h1, decide_eq_false hk]; exact fun z => by cases z)]
    rw [occ_idx]
    by_cases h2 : ((idx s (tl x) 0).take (x.length + 1)).isEmpty = true
    · rw [if_pos h2]
      exact none_case (List.isEmpty_iff.mp h2)
    · rw [if_neg h2]
      exact p
theorem join_txt (S : List Nat) (ws : List (List Nat)) : Txt.join (txt S) (ws.map txt) = txt (joinL S ws) := by
  rw [join_eq]
  refine ext_tl ?_
  rw [tl_join, List.map_map]
  have : tl ∘ txt = id := rfl
  rw [this, List.map_id]; rfl
theorem sp_ne (s : Nat) : ∀ l : List Nat, sp s l ≠ []
  | [], h => by cases h
  | c :: r, h => by
    unfold sp at h
    split at h
    · cases h
    · cases q : sp s r with
      | nil => exact sp_ne s r q
      | cons w ws => rw [q] at h; cases h
theorem joinL_hd (s c : Nat) : ∀ ws : List (List Nat), ws ≠ [] → joinL [s] (hdC c ws) = c :: joinL [s] ws
  | [], h => absurd rfl h
  | [w], _ => rfl
  | w :: v :: ws, _ => rfl
theorem joinL_nil (s : Nat) : ∀ ws : List (List Nat), ws ≠ [] → joinL [s] ([] :: ws) = s :: joinL [s] ws
  | [], h => absurd rfl h
  | w :: ws, _ => rfl
theorem sp_join (s : Nat) : ∀ l : List Nat, joinL [s] (sp s l) = l
  | [] => rfl
  | c :: r => by
    unfold sp
    by_cases e : c = s
    · rw [if_pos e, joinL_nil s _ (sp_ne s r), sp_join s r, e]
    · rw [if_neg e, joinL_hd s c _ (sp_ne s r), sp_join s r]
theorem sp_free {s : Nat} : ∀ (l w : List Nat), w ∈ sp s l → s ∉ w
  | [], w, h, q => by
    have : w = [] := by simpa [sp] using h
    rw [this] at q; cases q
  | c :: r, w, h, q => by
    unfold sp at h
    by_cases e : c = s
    · rw [if_pos e] at h
      rcases List.mem_cons.mp h with rfl | h
      · cases q
      · exact sp_free r w h q
    · rw [if_neg e] at h
      cases hz : sp s r with
      | nil => exact sp_ne s r hz
      | cons v vs =>
        rw [hz] at h
        rcases List.mem_cons.mp h with rfl | h
        · rcases List.mem_cons.mp q with q | q
          · exact e q.symm
          · exact sp_free r v (by rw [hz]; exact List.mem_cons_self) q
        · exact sp_free r w (by rw [hz]; exact List.mem_cons_of_mem _ h) q
theorem sp_none {s : Nat} : ∀ l : List Nat, s ∉ l → sp s l = [l]
  | [], _ => rfl
  | c :: r, h => by
    unfold sp
    rw [if_neg fun e => h (by rw [e]; exact List.mem_cons_self), sp_none r fun q => h (List.mem_cons_of_mem _ q)]
    rfl
theorem sp_app {s : Nat} : ∀ (w l : List Nat), s ∉ w → sp s (w ++ s :: l) = w :: sp s l
  | [], l, _ => by
    show sp s (s :: l) = _
    rw [sp, if_pos rfl]
  | c :: r, l, h => by
    show sp s (c :: (r ++ s :: l)) = _
    rw [sp, if_neg fun e => h (by rw [e]; exact List.mem_cons_self), sp_app r l fun q => h (List.mem_cons_of_mem _ q)]
    rfl
theorem sp_joinL {s : Nat} : ∀ ws : List (List Nat), ws ≠ [] → (∀ w ∈ ws, s ∉ w) → sp s (joinL [s] ws) = ws
  | [], h, _ => absurd rfl h
  | [w], _, h => sp_none w (h w (List.mem_singleton.mpr rfl))
  | w :: v :: ws, _, h => by
    show sp s (w ++ ([s] ++ joinL [s] (v :: ws))) = _
    rw [show ([s] ++ joinL [s] (v :: ws)) = s :: joinL [s] (v :: ws) from rfl, sp_app w _ (h w List.mem_cons_self), sp_joinL (v :: ws) (by simp) fun w hw => h w (List.mem_cons_of_mem _ hw)]
theorem hdC_len (c : Nat) {ws : List (List Nat)} (h : ws ≠ []) : (hdC c ws).length = ws.length := by
  cases ws with
  | nil => exact absurd rfl h
  | cons w ws => rfl
theorem spN_ne (s n : Nat) (l : List Nat) : spN s n l ≠ [] := by
  cases l with
  | nil => unfold spN; simp
  | cons c r =>
    cases n with
    | zero => unfold spN; simp
    | succ n =>
      unfold spN
      split
      · simp
      · cases spN s (n + 1) r <;> simp [hdC]
/-- split at most n times, by the words -/
theorem spN_words (s : Nat) : ∀ (l : List Nat) (n : Nat), spN s n l = (sp s l).take n ++ (match (sp s l).drop n with | [] => [] | w :: ws => [joinL [s] (w :: ws)])
  | [], 0 => rfl
  | [], n + 1 => by
    have e1 : (sp s []).take (n + 1) = [[]] := List.take_of_length_le (by show 1 ≤ n + 1; omega)
    have e2 : (sp s []).drop (n + 1) = [] := List.drop_eq_nil_of_le (by show 1 ≤ n + 1; omega)
    rw [e1, e2]
    unfold spN
    rfl
  | c :: r, 0 => by
    have h := sp_ne s (c :: r)
    have j := sp_join s (c :: r)
    rw [List.take_zero, List.drop_zero, List.nil_append]
    cases q : sp s (c :: r) with
    | nil => exact absurd q h
    | cons w ws =>
      rw [q] at j
      show [c :: r] = [joinL [s] (w :: ws)]
      rw [j]
  | c :: r, n + 1 => by
    have i0 := spN_words s r n
    have i1 := spN_words s r (n + 1)
    unfold spN sp
    by_cases e : c = s
    · rw [if_pos e, if_pos e, i0]; rfl
    · rw [if_neg e, if_neg e, i1]
      cases q : sp s r with
      | nil => exact absurd q (sp_ne s r)
      | cons w ws => rfl
end C
namespace C
open PySem PySem.Spec PyProof.Rows L2 TL
/-! ### numbers in texts -/
def numI (i : Int) : List Nat := if i < 0 then 45 :: numL i.natAbs else numL i.natAbs
theorem str_int (i : Int) : (Str.ofString (toString i) : Str) = txt (numI i) := by
  refine ext_tl ?_
  unfold numI
  cases i with
  | ofNat n =>
    rw [if_neg (by show ¬ (n : Int) < 0; omega)]
    exact tl_num n
  | negSucc n =>
    rw [if_pos (by show Int.negSucc n < 0; omega)]
    have h := tl_num (n + 1)
    rw [tl_ofString] at h ⊢
    have e : toString (Int.negSucc n) = "-" ++ toString ((n + 1 : Nat) : Int) := rfl
    rw [e, String.toList_append, List.map_append, h]
    rfl
theorem numI_nat (n : Nat) : numI (n : Int) = numL n := by unfold numI; rw [if_neg (by omega)]; rfl
/-- a word that writes a number without a minus -/
structure Pln (w : List Nat) : Prop where
  ne : w ≠ []
  le : w.length ≤ 60
  dg : ∀ c ∈ w, 48 ≤ c ∧ c ≤ 57
  hd : w = [48] ∨ w.head? ≠ some 48
def Sgn (w : List Nat) : Prop := match w with
  | 45 :: v => w ≠ [45, 48] ∧ Pln v
  | _ => Pln w
theorem numL_head {n : Nat} (h : 0 < n) : (numL n).head? ≠ some 48 := by
  induction n using Nat.strongRecOn with
  | ind n ih =>
    by_cases c : n < 10
    · rw [numL_lt c]
      intro z
      have := Option.some.inj z
      omega
    · rw [numL_step (by omega), List.head?_append]
      have h1 := ih (n / 10) (by omega) (by omega)
      have h2 := numL_ne (n / 10)
      cases q : numL (n / 10) with
      | nil => exact absurd q h2
      | cons d r => rw [q] at h1; exact h1
theorem pln_num {n : Nat} (h : n < 10 ^ 60) : Pln (numL n) := by
  refine ⟨numL_ne n, numL_len (by decide) h, numL_digits n, ?_⟩
  by_cases c : n = 0
  · subst c
    exact .inl (numL_lt (by decide))
  · exact .inr (numL_head (by omega))
theorem sgn_num {i : Int} (h : i.natAbs < 10 ^ 60) : Sgn (numI i) := by
  unfold numI
  by_cases c : i < 0
  · rw [if_pos c]
    refine ⟨fun z => ?_, pln_num h⟩
    have : numL i.natAbs = [48] := (List.cons.inj z).2
    exact numL_head (n := i.natAbs) (by omega) (by rw [this]; rfl)
  · rw [if_neg c]
    have p := pln_num h
    cases q : numL i.natAbs with
    | nil => exact absurd q p.ne
    | cons d r =>
      have := p.dg d (by rw [q]; exact List.mem_cons_self)
      rw [q] at p
      unfold Sgn
      split
      · rename_i v hv
        have := (List.cons.inj hv).1
        omega
      · exact p
theorem pln_val {w : List Nat} (h : Pln w) : intText? (txt w) = some ((NumText.digitsVal w : Nat) : Int) :=
  intText_digits (x := txt w) h.dg h.ne (by rw [txt_len]; have := h.le; omega)
def valS (w : List Nat) : Int := match w with
  | 45 :: v => -((NumText.digitsVal v : Nat) : Int)
  | _ => ((NumText.digitsVal w : Nat) : Int)
theorem sgn_val {w : List Nat} (h : Sgn w) : intText? (txt w) = some (valS w) := by
  unfold Sgn at h
  unfold valS
  split at h
  · rename_i v
    exact intText_neg (x := txt (45 :: v)) rfl h.2.dg h.2.ne (by rw [txt_len, List.length_cons]; have := h.2.le; omega)
  · exact pln_val h
theorem sgn_len {w : List Nat} (h : Sgn w) : w.length ≤ 61 := by
  unfold Sgn at h
  split at h
  · have := h.2.le; rw [List.length_cons]; omega
  · have := h.le; omega
theorem val_num (n : Nat) : NumText.digitsVal (numL n) = n := numL_val n
theorem valS_num (i : Int) : valS (numI i) = i := by
  unfold numI
  by_cases c : i < 0
  · rw [if_pos c]
    show -((NumText.digitsVal (numL i.natAbs) : Nat) : Int) = i
    rw [val_num]; omega
  · rw [if_neg c]
    have hd := numL_digits i.natAbs
    unfold valS
    split
    · rename_i v hv
      have := hd 45 (by rw [hv]; exact List.mem_cons_self)
      omega
    · rw [val_num]; omega
theorem val_app (v : List Nat) (d : Nat) : NumText.digitsVal (v ++ [d]) = NumText.digitsVal v * 10 + (d - 48) := by
  unfold NumText.digitsVal
  rw [List.foldl_append]; rfl
theorem num_val : ∀ (k : Nat) (w : List Nat), w.length = k → w ≠ [] → (∀ c ∈ w, 48 ≤ c ∧ c ≤ 57) → (w = [48] ∨ w.head? ≠ some 48) → numL (NumText.digitsVal w) = w ∧ (w ≠ [48] → 0 < NumText.digitsVal w)
  | 0, w, hk, hn, _, _ => absurd (List.eq_nil_of_length_eq_zero hk) hn
  | k + 1, w, hk, hn, hd, hh => by
    obtain ⟨v, d, rfl⟩ : ∃ v d, w = v ++ [d] := ⟨w.dropLast, w.getLast hn, (List.dropLast_concat_getLast hn).symm⟩
    have hd1 := hd d (List.mem_append_right _ (List.mem_singleton.mpr rfl))
    rw [val_app]
    rw [List.length_append, List.length_singleton] at hk
    by_cases c : v = []
    · subst c
      rw [List.nil_append]
      have e : NumText.digitsVal [] = 0 := rfl
      rw [e, Nat.zero_mul, Nat.zero_add]
      refine ⟨?_, fun z => ?_⟩
      · rw [numL_lt (by omega), show 48 + (d - 48) = d by omega]
      · have : d ≠ 48 := fun q => z (by rw [q])
        omega
    · have hv : v ≠ [48] → True := fun _ => trivial
      have hh2 : v.head? ≠ some 48 := by
        rcases hh with z | z
        · have : v.length = 0 := by
            have := congrArg List.length z
            rw [List.length_append, List.length_singleton, List.length_singleton] at this
            omega
          exact absurd (List.eq_nil_of_length_eq_zero this) c
        · rw [List.head?_append] at z
          intro q
          rw [q] at z
          exact z rfl
      obtain ⟨i1, i2⟩ := num_val k v (by omega) c (fun x hx => hd x (List.mem_append_left _ hx)) (.inr hh2)
      have p := i2 fun z => hh2 (by rw [z]; rfl)
      refine ⟨?_, fun _ => by omega⟩
      rw [numL_step (by omega), show (NumText.digitsVal v * 10 + (d - 48)) / 10 = NumText.digitsVal v by omega, i1, show 48 + (NumText.digitsVal v * 10 + (d - 48)) % 10 = d by omega]
theorem pln_back {w : List Nat} (h : Pln w) : numL (NumText.digitsVal w) = w := (num_val w.length w rfl h.ne h.dg h.hd).1
theorem sgn_back {w : List Nat} (h : Sgn w) : numI (valS w) = w := by
  unfold Sgn at h
  unfold valS
  split at h
  · rename_i v
    have p := (num_val v.length v rfl h.2.ne h.2.dg h.2.hd)
    have q := p.2 fun z => h.1 (by rw [z])
    unfold numI
    show (if -((NumText.digitsVal v : Nat) : Int) < 0 then 45 :: numL (-((NumText.digitsVal v : Nat) : Int)).natAbs else _) = _
    rw [if_pos (by omega), show (-((NumText.digitsVal v : Nat) : Int)).natAbs = NumText.digitsVal v by omega, p.1]
  · rw [numI_nat]
    exact pln_back h
theorem pln_sgn {w : List Nat} (h : Pln w) : Sgn w := by
  unfold Sgn
  split
  · rename_i v
    have := h.dg 45 List.mem_cons_self
    omega
  · exact h
theorem valS_pln {w : List Nat} (h : Pln w) : valS w = ((NumText.digitsVal w : Nat) : Int) := by
  unfold valS
  split
  · rename_i v
    have := h.dg 45 List.mem_cons_self
    omega
  · rfl
theorem num_free {i : Int} {s : Nat} (h : s < 45 ∨ 57 < s) : s ∉ numI i := fun z => by
  unfold numI at z
  split at z
  · rcases List.mem_cons.mp z with q | q
    · omega
    · exact numL_free (n := i.natAbs) (s := s) (by omega) q
  · exact numL_free (n := i.natAbs) (s := s) (by omega) z
theorem pln_free {w : List Nat} (h : Pln w) {s : Nat} (k : s < 48 ∨ 57 < s) : s ∉ w := fun z => by
  have := h.dg s z
  omega
theorem numI_len {i : Int} {k : Nat} (h : i.natAbs < 10 ^ k) (hk : 0 < k) : (numI i).length ≤ k + 1 := by
  have := numL_len hk h
  unfold numI
  split
  · rw [List.length_cons]; omega
  · omega
/-! slices of texts by their signs -/
theorem slice_txt (l : List Nat) (lo hi : Option Int) : Txt.slice (txt l) lo hi = txt ((l.drop (HT.sIx l.length 0 lo)).take (HT.sIx l.length l.length hi - HT.sIx l.length 0 lo)) := by
  rw [← C8.cutS_slice]
  refine ext_tl ?_
  show ((tl (txt l)).drop (HT.sIx (txt l).length 0 lo)).take _ = _
  rw [txt_len]
  rfl
theorem slice_from (l : List Nat) (a : Nat) : Txt.slice (txt l) (some (a : Int)) none = txt (l.drop a) := by
  rw [slice_txt, HT.sIx_nat, show HT.sIx l.length l.length none = l.length from rfl]
  congr 1
  by_cases h : a ≤ l.length
  · rw [Nat.min_eq_left h, List.take_of_length_le (by rw [List.length_drop]; omega)]
  · rw [Nat.min_eq_right (by omega), List.drop_eq_nil_of_le (Nat.le_refl _), List.drop_eq_nil_of_le (by omega)]
    simp
theorem slice_to (l : List Nat) (a : Nat) : Txt.slice (txt l) none (some (a : Int)) = txt (l.take a) := by
  rw [slice_txt, HT.sIx_nat, show HT.sIx l.length 0 none = 0 from rfl, List.drop_zero, Nat.sub_zero]
  congr 1
  by_cases h : a ≤ l.length
  · rw [Nat.min_eq_left h]
  · rw [Nat.min_eq_right (by omega), List.take_of_length_le (Nat.le_refl _), List.take_of_length_le (by omega)]
open Builtin.Str StrLaws in
theorem stw_txt (l : List Nat) (s : Nat) : Txt.startswith (txt l) (txt [s]) = decide (l.head? = some s) := by
  unfold Txt.startswith
  rw [subAt_eq, txt_len, txt_len, show (txt l).cps.toList = l from rfl, show (txt [s]).cps.toList = [s] from rfl, List.drop_zero]
  cases l with
  | nil => rfl
  | cons c r =>
    show (decide (0 + 1 ≤ r.length + 1) && ([c] == [s])) = decide (some c = some s)
    rw [decide_eq_true (show 0 + 1 ≤ r.length + 1 by omega), Bool.true_and]
    by_cases e : c = s
    · rw [e, decide_eq_true rfl]; exact beq_self_eq_true _
    · rw [decide_eq_false fun z => e (Option.some.inj z)]
      exact beq_eq_false_iff_ne.mpr fun z => e (List.cons.inj z).1
theorem lit_put : ("put" : Str) = txt [112, 117, 116] := txt_lit "put"
theorem lit_digits : ("0123456789" : Str) = txt [48, 49, 50, 51, 52, 53, 54, 55, 56, 57] := txt_lit "0123456789"
theorem in_digits {c : Nat} : c ∈ ([48, 49, 50, 51, 52, 53, 54, 55, 56, 57] : List Nat) ↔ 48 ≤ c ∧ c ≤ 57 := by
  simp only [List.mem_cons, List.not_mem_nil, or_false]
  omega
end C
namespace C
open PySem PySem.Spec PyProof.Rows L2
section
variable {X : Cx} {cl : Nat → Addr} {W : WX} {a b c e e1 o : Expr} {es : List Expr} {fa f1 : EX} {xa : XX} {na : NX} {pos p : Pos} {x : Str} {i : Nat}
/-! ### o.m(e1, e), where e changes things -/
def xMethE1 (n : Nat) (F : FX) (c i : Nat) (xa : XX) : XX := fun env Q E => rPl (.mu i []) i [] env fun r => (isC (arCls env r) c && rcG.p38 r) = true ∧ xa env (fun o env2 => match frz o with
  | some m => xCall n F (fun _ Q => Q [.mu i [], .v m]) env2 Q E
  | none => False) E
def xMethE2 (n : Nat) (F : FX) (c i : Nat) (f1 : EX) (xa : XX) : XX := fun env Q E => rPl (.mu i []) i [] env fun r => (isC (arCls env r) c && rcG.p38 r) = true ∧ f1 env fun m1 => xa env (fun o env2 => match frz o with
  | some m => xCall n F (fun _ Q => Q [.mu i [], .v m1, .v m]) env2 Q E
  | none => False) E
theorem rPl_mo {mk : Ar} {p : List Nat} {env : Env} {Q Q' : Ar → Prop} (k : ∀ r, Q r → Q' r) (q : rPl mk i p env Q) : rPl mk i p env Q' := by
  unfold rPl at q ⊢
  split at q
  · exact k _ q
  · exact q
theorem cE_mo {n : Nat} {F : FX} (hF : FMono F) {as : List Ar} {env : Env} {Q Q' : OV → Env → Prop} {E E' : Int → Prop} (k : ∀ o e, Q o e → Q' o e) (q : xCall n F (fun _ Q => Q as) env Q E) : xCall n F (fun _ Q => Q as) env Q' E' :=
  xCall_mo (ga := fun _ Q => Q as) (fun env Q Q' k q => k _ q) hF env Q Q' (fun _ => False) E' k (fun _ z => z.elim) q
theorem rPl_is {mk : Ar} {p : List Nat} {env : Env} {Q : Ar → Prop} (q : rPl mk i p env Q) : rPl mk i p env fun r => r = mk ∧ Q r := by
  unfold rPl at q ⊢
  split at q
  · exact ⟨rfl, q⟩
  · exact q
theorem pat_nil {K : PySem.W.Frag} {H H' : Hp} {v0 v : V} (h : PAt K H v0 [] v) : PAt K H' v0 [] v := h
theorem mx_methE2 {k n : Nat} {f : Addr} {F : FX} {m : Str} {apos : Pos} {pl : Sem Bool} (c : Nat) (hF : FB X.prog X.w X.K X.mg X.base cl k n f F) (hr : Room k X.A) (hx : MP X o i []) (h1 : ME X cl e1 f1) (h2 : MX X cl W e xa) (hC : Cls X.K (cl c)) (hM : Meth X.K (cl c) m f) (hno : ∀ f ∈ fsOf c, fn f ≠ m)
    (hst : starEach [e1, e] X.env = (false, eval e1 X.env) :: starEach [e] X.env := by rfl) (hst2 : starEach [e] X.env = (false, eval e X.env) :: starEach [] X.env := by rfl) (hpl : (backTo pos (starEach [e] X.env)).any (·.1) = false := by rfl)
    (ht : eval (.Call (.Attribute o m apos) [e1, e] [] pos) X.env = (do
      let ov ← eval o X.env
      standAt apos.atName
      let (f, first) ← holding [ov] (getMethod ov m pl)
      callWith pos f first (backTo pos (starEach [e1, e] X.env)) (backToKw pos (keywordEach [] X.env))) := by rfl) : MX X cl W (.Call (.Attribute o m apos) [e1, e] [] pos) (xMethE2 n F c i f1 xa) := by
  obtain ⟨fd, ps, F0, hb⟩ := hF.ex
  have mo := hF.mo X.A hr
  have hm := mr_mu (cl := cl) hx
  refine ⟨fun env Q Q' E E' k ke q => rPl_mo (fun r z => ⟨z.1, h1.mo _ _ _ (fun m1 z => h2.mo _ _ _ _ _ (fun o env2 z => ?_) ke z) z.2⟩) q,
    PEmono (pe_meth (E := E0) hm.pe hC hM F0 hr hb .nil pass0 (pa_cons h1.pe (pa_cons h2.pe pa_nil hst2) hst) hst hpl ht) fun σ H Q ⟨β, G, env, r0, q⟩ => ?_⟩
  · split at z
    · exact cE_mo mo k z
    · exact z
  refine ⟨β, G, env, r0, hm.mo _ _ _ (fun r z v H' G' ee rr => ?_) (rPl_is q)⟩
  obtain ⟨hrr, z⟩ := z
  · subst hrr
    obtain ⟨p, dx, vs, rfl, hp⟩ := arCls_rep (r0.ext ee) rr z.1
    obtain ⟨v0, hs0, hv0⟩ : ∃ v0, σ[i]? = some (some v0) ∧ PAt X.K H' v0 [] (.ref p) := rr
    refine ⟨p, dx, _, rfl, hp, nf_none hno, β, G', env, r0.ext ee, h1.mo _ _ _ (fun m1 z v1 H2 G2 e2 r1 => ?_) z.2⟩
    refine ⟨β, G2, env, (r0.ext ee).ext e2, h2.mo _ _ _ _ _ (fun o env2 z v2 H3 G3 X3 r3 gg ro => ?_) (fun _ z => z) z⟩
    cases hf : frz o with
    | none => rw [hf] at z; exact z.elim
    | some m =>
      rw [hf] at z
      have rf := r3.frz
      have rm := frz_rep ro r3.xn hf
      have g4 := frzG_same (H := H3) r3.xn
      have rs : ArReps X.K cl σ H3 (frzG H3 G3 X3) [.mu i [], .v m1, .v m] [.ref p, v1, v2] :=
        ⟨_, _, rfl, ⟨v0, hs0, pat_nil hv0⟩, _, _, rfl, Rep.same (gg.trans g4) _ _ r1, _, _, rfl, rm, rfl⟩
      have z2 := cE_mo (E' := fun _ => False) mo (Q' := fun o env2 => ∀ v H' G' X_, R X.K cl β σ H' G' env2 X_ → Same (frzG H3 G3 X3) G' → RepO X.K cl H' G' o v X_ → Q v H') (fun o env2 w v H' G' X_ r s ro => w v H' G' X_ r (((ee.gg.trans e2.gg).trans (gg.trans g4)).trans s) ro) z
      have := xCall_in (X := X) (n := n) (as := [.mu i [], .v m1, .v m]) (vs := [.ref p, v1, v2]) (Q := Q) mo rf (Ext.refl rf.gh) rs z2
      exact this
theorem mx_methE1 {k n : Nat} {f : Addr} {F : FX} {m : Str} {apos : Pos} {pl : Sem Bool} (c : Nat) (hF : FB X.prog X.w X.K X.mg X.base cl k n f F) (hr : Room k X.A) (hx : MP X o i []) (h2 : MX X cl W e xa) (hC : Cls X.K (cl c)) (hM : Meth X.K (cl c) m f) (hno : ∀ f ∈ fsOf c, fn f ≠ m)
    (hst2 : starEach [e] X.env = (false, eval e X.env) :: starEach [] X.env := by rfl) (hpl : (backTo pos (starEach [] X.env)).any (·.1) = false := by rfl)
    (ht : eval (.Call (.Attribute o m apos) [e] [] pos) X.env = (do
      let ov ← eval o X.env
      standAt apos.atName
      let (f, first) ← holding [ov] (getMethod ov m pl)
      callWith pos f first (backTo pos (starEach [e] X.env)) (backToKw pos (keywordEach [] X.env))) := by rfl) : MX X cl W (.Call (.Attribute o m apos) [e] [] pos) (xMethE1 n F c i xa) := by
  obtain ⟨fd, ps, F0, hb⟩ := hF.ex
  have mo := hF.mo X.A hr
  have hm := mr_mu (cl := cl) hx
  refine ⟨fun env Q Q' E E' k ke q => rPl_mo (fun r z => ⟨z.1, h2.mo _ _ _ _ _ (fun o env2 z => ?_) ke z.2⟩) q,
    PEmono (pe_meth (E := E0) hm.pe hC hM F0 hr hb .nil pass0 (pa_cons h2.pe pa_nil hst2) hst2 hpl ht) fun σ H Q ⟨β, G, env, r0, q⟩ => ?_⟩
  · split at z
    · exact cE_mo mo k z
    · exact z
  refine ⟨β, G, env, r0, hm.mo _ _ _ (fun r z v H' G' ee rr => ?_) (rPl_is q)⟩
  obtain ⟨hrr, z⟩ := z
  · subst hrr
    obtain ⟨p, dx, vs, rfl, hp⟩ := arCls_rep (r0.ext ee) rr z.1
    obtain ⟨v0, hs0, hv0⟩ : ∃ v0, σ[i]? = some (some v0) ∧ PAt X.K H' v0 [] (.ref p) := rr
    refine ⟨p, dx, _, rfl, hp, nf_none hno, β, G', env, r0.ext ee, h2.mo _ _ _ _ _ (fun o env2 z v2 H3 G3 X3 r3 gg ro => ?_) (fun _ z => z) z.2⟩
    cases hf : frz o with
    | none => rw [hf] at z; exact z.elim
    | some m =>
      rw [hf] at z
      have rf := r3.frz
      have rm := frz_rep ro r3.xn hf
      have g4 := frzG_same (H := H3) r3.xn
      have rs : ArReps X.K cl σ H3 (frzG H3 G3 X3) [.mu i [], .v m] [.ref p, v2] :=
        ⟨_, _, rfl, ⟨v0, hs0, pat_nil hv0⟩, _, _, rfl, rm, rfl⟩
      have z2 := cE_mo (E' := fun _ => False) mo (Q' := fun o env2 => ∀ v H' G' X_, R X.K cl β σ H' G' env2 X_ → Same (frzG H3 G3 X3) G' → RepO X.K cl H' G' o v X_ → Q v H') (fun o env2 w v H' G' X_ r s ro => w v H' G' X_ r ((ee.gg.trans (gg.trans g4)).trans s) ro) z
      have := xCall_in (X := X) (n := n) (as := [.mu i [], .v m]) (vs := [.ref p, v2]) (Q := Q) mo rf (Ext.refl rf.gh) rs z2
      exact this

/-! ### e[j], where e changes things -/
def xIxC (xa : XX) (j : Int) : XX := fun env Q E => xa env (fun o env2 => gIx o (.fro (.int j)) fun m => Q (.fro m) env2) E
theorem mx_ixC {j : Int} {jj} {p4 : Pos} (ha : MX X cl W a xa) (hs : PlainIx (.Constant (.int j) jj p4) := by exact fun _ _ => rfl) : MX X cl W (.Subscript a (.Constant (.int j) jj p4) pos) (xIxC xa j) := by
  refine ⟨fun env Q Q' E E' k ke q => ha.mo _ _ _ _ _ (fun o e z => gIx_mo _ _ _ _ (fun m w => k _ _ w) z) ke q, PEmono (pe_ix ix_seq ha.pe (pe_int (i := j) (j := jj) (pos := p4)) hs) fun σ H Q ⟨β, G, env, r0, q⟩ => ?_⟩
  refine ⟨β, G, env, r0, ha.mo _ _ _ _ _ (fun o e2 z v H' G' X' r' gg ro => ?_) (fun _ z => z) q⟩
  have rv := RepO.b _ _ _ ro
  have g := r'.gh
  obtain ⟨P, hP⟩ : ∃ P : MV → Prop, P = fun m => ∀ v H' G' X_, R X.K cl β σ H' G' e2 X_ → Same G G' → RepO X.K cl H' G' (.fro m) v X_ → Q v H' := ⟨_, rfl⟩
  have fin : ∀ m x, Rep X.K cl G' m x → P m → Q x H' := fun m x r w => by
    rw [hP] at w
    exact w x H' G' [] r'.drop gg (by unfold RepO; exact ⟨rfl, r⟩)
  have z : gIx o (.fro (.int j)) P := by rw [hP]; exact z
  clear hP ro
  have seqL : ∀ ms, RepB X.K cl H' G' (.lst ms) v → gAt ms j P → ∃ p vs x, v = .ref p ∧ SqL X.K H' p vs ∧ atI vs j = some x ∧ Q x H' := fun ms rv z => by
    unfold RepB at rv
    obtain ⟨p, vs, rfl, h2, h3⟩ := rv
    obtain ⟨x, m, y1, y2, y3⟩ := gAt_rep z h3
    exact ⟨p, vs, x, rfl, SqL.of h2, y1, fin m x y2 y3⟩
  cases o with
  | fro m =>
    cases m with
    | lst ms =>
      have z : gAt ms j P := z
      unfold RepB Rep at rv
      obtain ⟨p, vs, rfl, h2, h3⟩ := rv
      obtain ⟨x, m, y1, y2, y3⟩ := gAt_rep z h3
      exact .inl ⟨p, vs, j, x, rfl, rfl, SqL.of (g _ _ h2), y1, fin m x y2 y3⟩
    | tup ms =>
      have z : gAt ms j P := z
      unfold RepB Rep at rv
      obtain ⟨p, vs, rfl, h2, h3⟩ := rv
      obtain ⟨x, m, y1, y2, y3⟩ := gAt_rep z h3
      exact .inr (.inl ⟨p, vs, j, x, rfl, rfl, sqT_same g h2, y1, fin m x y2 y3⟩)
    | str x =>
      have z : x.length ≤ sizeLine ∧ (match atI x.cps.toList j with | some ch => P (.str ⟨#[ch]⟩) | none => False) := z
      unfold RepB Rep at rv; subst rv
      have z2 := z.2
      cases ec : atI x.cps.toList j with
      | none => rw [ec] at z2; exact z2.elim
      | some ch => rw [ec] at z2; exact .inr (.inr ⟨x, j, ch, rfl, rfl, z.1, ec, fin _ _ rep_str z2⟩)
    | _ => exact z.elim
  | lst ms =>
    obtain ⟨p, vs, x, rfl, y1, y2, y3⟩ := seqL ms rv z
    exact .inl ⟨p, vs, j, x, rfl, rfl, y1, y2, y3⟩
  | scr ms =>
    have z : gAt ms j P := z
    unfold RepB at rv
    obtain ⟨p, vs, rfl, h2, h3⟩ := rv
    obtain ⟨x, m, y1, y2, y3⟩ := gAt_rep z h3
    exact .inl ⟨p, vs, j, x, rfl, rfl, h2, y1, fin m x y2 y3⟩
  | _ => exact z.elim
/-! ### C(..).m(), which changes the new thing -/
def nMk0 (c : Nat) (F : FX) (na : NX) : NX := fun env Q => na env fun o => match o with
  | .obj c' fs => Nat.beq c' c = true ∧ F [.rf (.obj c' fs)] (fun r _ => Q r) (fun _ => False)
  | _ => False
theorem mn_mk0 {k : Nat} {f : Addr} {F : FX} {m : Str} {apos : Pos} {pl : Sem Bool} (c : Nat) (hF : FB X.prog X.w X.K X.mg X.base cl k 1 f F) (hr : Room k X.A) (ho : MN X cl o na) (hC : Cls X.K (cl c)) (hM : Meth X.K (cl c) m f) (hno : ∀ f ∈ fsOf c, fn f ≠ m)
    (ht : eval (.Call (.Attribute o m apos) [] [] pos) X.env = (do
      let ov ← eval o X.env
      standAt apos.atName
      let (f, first) ← holding [ov] (getMethod ov m pl)
      callWith pos f first (backTo pos (starEach [] X.env)) (backToKw pos (keywordEach [] X.env))) := by rfl) : MN X cl (.Call (.Attribute o m apos) [] [] pos) (nMk0 c F na) := by
  obtain ⟨fd, ps, F0, hb⟩ := hF.ex
  have mo := hF.mo X.A hr
  refine ⟨fun env Q Q' k q => ho.mo _ _ _ (fun o z => ?_) q, PEmono (pe_meth0 (E := E0) ho.pe hC hM F0 hr hb .nil pass0 ht) fun σ H Q ⟨β, G, env, r0, q⟩ => ?_⟩
  · split at z
    · exact ⟨z.1, mo _ _ _ _ _ (fun o e w => k _ w) (fun _ w => w) z.2⟩
    · exact z
  refine ⟨β, G, env, r0, ho.mo _ _ _ (fun o z v H1 G1 X1 e1 ro hX => ?_) q⟩
  split at z
  · rename_i c' fs
    have ec := Nat.eq_of_beq_eq_true z.1
    subst ec
    have ro' := ro
    unfold RepO at ro'
    obtain ⟨a, dx, vs, Xs, rfl, hXX, ha, _⟩ := ro'
    refine ⟨a, dx, _, rfl, ha, nf_none hno, ?_⟩
    obtain ⟨Hm, hHm⟩ : ∃ Hm : Hp, Hm = fun b => if b ∈ X1 then none else H1 b := ⟨_, rfl⟩
    have hmX : ∀ b ∈ X1, Hm b = none := fun b hb => by rw [hHm]; exact if_pos hb
    have hmN : ∀ b, b ∉ X1 → Hm b = H1 b := fun b hb => by rw [hHm]; exact if_neg hb
    have ex : Ext H G Hm G1 := by
      refine ⟨fun b u h => ?_, e1.gg, fun b u h => ?_, e1.gn⟩
      · rw [hmN b fun hb => by have := (hX b hb).1; rw [this] at h; cases h]
        exact e1.hh b u h
      · rw [hmN b fun hb => by have := (hX b hb).2.1; rw [this] at h; cases h]
        exact e1.gh b u h
    obtain ⟨Fl, r1, _, hFl⟩ := (r0.ext ex).callF (as := []) (vs := []) (ss := []) (by unfold ArReps; rfl) rfl rfl
    have nF : ∀ b, ¬ Fl b := fun b y => by
      obtain ⟨i, p, hh⟩ := hFl b y
      cases hh
    have r2 := R.consNew (fp := X1) r1 nF (fun b u h => by
      by_cases hb : b ∈ X1
      · rw [hmX b hb] at h; cases h
      · rw [hmN b hb] at h; exact h) hmX ro
    refine ⟨rfl, G1, fun b => b ∈ X1, _, r2, mo _ _ _ _ _ (fun r env' w v σ' H' G' X' r3 ro3 => ?_) (fun _ w => w) z.2⟩
    obtain ⟨fp, _, _, _, s4⟩ := r3.sl
    refine w v H' G' X' ⟨fun b u h => r3.hk b u (e1.hh b u h) fun hb => (by have := (hX b hb).1; rw [this] at h; cases h), e1.gg.trans r3.g0, r3.gh, fun b hb hg => ?_⟩ ro3 fun b hb => ?_
    · refine r3.gk b (fun z => hb (e1.hh.free z)) (fun hbx => hb (hX b hbx).1) (e1.gn b hb hg)
    · obtain ⟨h1, h2, h3, _⟩ := s4 b hb
      refine ⟨?_, h2, h1⟩
      rcases h3 with y | y
      · exact e1.hh.free y
      · exact (hX b y).1
  · exact z.elim
/-! a, b = a list -/
section
variable {ess : List Expr} {gs : GXs} {vs : List Nat}
def gLstX (gs : GXs) : GX := fun m env Q => match m with
  | .lst ms => gs ms env Q
  | _ => False
theorem mg_lst {k n : Nat} (hc : X.calm = true) (h : MGs X cl ess gs vs) (hn : (assignEach ess X.env).length = n := by rfl) (hst : (assignEach ess X.env).findIdx? (·.1) = none := by rfl) : MG X cl (.Tuple ess k pos) (gLstX (gLen n gs)) vs := by
  refine ⟨fun m env Q Q' k q => ?_, PGmono (pg_lst hc h.pg hn hst) fun v σ H Q ⟨β, G, env, m, r0, rv, q⟩ => ?_⟩
  · cases m with
    | lst ms => exact ⟨q.1, h.mo _ _ _ _ k q.2⟩
    | _ => exact q.elim
  · cases m with
    | lst ms =>
      unfold Rep at rv
      obtain ⟨a, vs, rfl, y1, y2⟩ := rv
      exact ⟨a, vs, rfl, SqL.of (r0.gh _ _ y1), by rw [Reps.len _ _ y2]; exact Nat.eq_of_beq_eq_true q.1, β, G, env, ms, r0, y2, q.2⟩
    | _ => exact q.elim
end
end
end C
namespace C
open PySem PySem.Spec PyProof.Rows L2
section
variable {X : Cx} {cl : Nat → Addr} {W : WX} {a b : Expr} {xa : XX} {pos : Pos}
/-! ### e is (not) None, where e changes things -/
def uIsN (neg : Bool) (xa : XX) : UX := fun env Q E => xa env (fun o env2 => Q (neg ^^ isNon o) env2) E
theorem mu_isnot {jj} {p4 : Pos} (ha : MX X cl W a xa) (hm : behindInMarks .IsNot (.Constant .none jj p4) = false := by rfl) : MU X cl W (.Compare a [.IsNot] [.Constant .none jj p4] pos) (uIsN true xa) := by
  refine ⟨fun env Q Q' E E' k ke q => ha.mo _ _ _ _ _ (fun o e z => k _ _ z) ke q, PTmono (pt_cmpR op_notN ha.pe (pe_non (j := jj) (pos := p4)) hm) fun σ H Q ⟨β, G, env, r0, q⟩ => ?_⟩
  refine ⟨β, G, env, r0, ha.mo _ _ _ _ _ (fun o e2 z v H' G' X' r' gg ro => ?_) (fun _ z => z) q⟩
  have e := isNon_rep (RepO.b _ _ _ ro)
  have z2 := z H' G' r'.drop gg
  refine ⟨rfl, _, rfl, ?_⟩
  rw [e]
  simpa using z2
theorem mu_is {jj} {p4 : Pos} (ha : MX X cl W a xa) (hm : behindInMarks .Is (.Constant .none jj p4) = false := by rfl) : MU X cl W (.Compare a [.Is] [.Constant .none jj p4] pos) (uIsN false xa) := by
  refine ⟨fun env Q Q' E E' k ke q => ha.mo _ _ _ _ _ (fun o e z => k _ _ z) ke q, PTmono (pt_cmpR op_isN ha.pe (pe_non (j := jj) (pos := p4)) hm) fun σ H Q ⟨β, G, env, r0, q⟩ => ?_⟩
  refine ⟨β, G, env, r0, ha.mo _ _ _ _ _ (fun o e2 z v H' G' X' r' gg ro => ?_) (fun _ z => z) q⟩
  have e := isNon_rep (RepO.b _ _ _ ro)
  have z2 := z H' G' r'.drop gg
  refine ⟨rfl, _, rfl, ?_⟩
  rw [e]
  simpa using z2
end
end C
namespace C
open PySem PySem.Spec PyProof.Rows L2
/-! ### more of dicts: in, del, get, sorted -/
theorem op_in_dict {X : Cx} (hu : X.A.units + 1 < cLine) : OpR X (compareOp .In) (fun x y H Q => ∃ a o, y = .ref a ∧ DGet H a x o ∧ Q (.bl o.isSome) H) := by
  intro pins s σ H x y v u Q I rx ry h
  obtain ⟨a, o, rfl, g, q⟩ := h
  obtain rfl : u = Value.ref a := ry
  exact d_in hu I g rx fun s' I' => ⟨.bl o.isSome, H, I', rfl, q⟩
theorem op_notin_dict {X : Cx} (hu : X.A.units + 1 < cLine) : OpR X (compareOp .NotIn) (fun x y H Q => ∃ a o, y = .ref a ∧ DGet H a x o ∧ Q (.bl (!o.isSome)) H) := by
  intro pins s σ H x y v u Q I rx ry h
  obtain ⟨a, o, rfl, g, q⟩ := h
  obtain rfl : u = Value.ref a := ry
  exact d_notIn hu I g rx fun s' I' => ⟨.bl (!o.isSome), H, I', rfl, q⟩
def gInD (neg : Bool) : GR := fun m n Q => match n, m with
  | .dct kvs, .fro (.int j) => Q (neg ^^ (dGet kvs (.inl j)).isSome)
  | _, _ => False
/-- the ints that are a dict's keys -/
def keysI : List (Key × MV) → Option (List Int)
  | [] => some []
  | (.inl i, _) :: r => (keysI r).map (i :: ·)
  | (.inr _, _) :: _ => none
theorem keysI_is : ∀ {kvs : List (Key × MV)} {ks : List Int}, keysI kvs = some ks → kvs.map (·.1) = ks.map Sum.inl
  | [], ks, h => by cases h; rfl
  | (.inl i, m) :: r, ks, h => by
    unfold keysI at h
    cases q : keysI r with
    | none => rw [q] at h; cases h
    | some ls =>
      rw [q] at h; cases h
      show Sum.inl i :: r.map (·.1) = Sum.inl i :: ls.map Sum.inl
      rw [keysI_is q]
  | (.inr _, _) :: _, _, h => by cases h
def gSortD (o : OV) (Q : MV → Prop) : Prop := match o with
  | .dct kvs => match keysI kvs with
    | some ks => ks.length < 64 ∧ ∀ ys : List Int, ys.Perm ks → ys.Pairwise (· ≤ ·) → Q (.lst (ys.map .int))
    | none => False
  | _ => False
/-- d.get(k), d.get(k, x) -/
def eGetD (qa qb : QX) : EX := fun env Q => qa env fun m => match m with
  | .dct kvs => qb env fun n => asFro n fun n => asInt n fun j => Q ((dGet kvs (.inl j)).getD .non)
  | _ => False
def eGetD2 (qa qb : QX) (fc : EX) : EX := fun env Q => qa env fun m => match m with
  | .dct kvs => qb env fun n => asFro n fun n => asInt n fun j => fc env fun d => Q ((dGet kvs (.inl j)).getD d)
  | _ => False
section
variable {X : Cx} {cl : Nat → Addr} {W : WX} {a b c e value o ix : Expr} {fa fb fc : EX} {qa qb qc : QX} {xa : XX} {pos p : Pos} {i : Nat} {pl : List Nat}
theorem gInD_mo {neg : Bool} : ∀ m n (Q Q' : Bool → Prop), (∀ k, Q k → Q' k) → gInD neg m n Q → gInD neg m n Q' := fun m n Q Q' k q => by
  unfold gInD at q ⊢
  split at q
  · exact k _ q
  · exact q.elim
theorem gInD_out {neg : Bool} {K : PySem.W.Frag} {H G : Hp} {m n : OV} {x y : V} {Q : Bool → Prop} (rx : RepB K cl H G m x) (ry : RepB K cl H G n y) (q : gInD neg m n Q) : ∃ a o, y = .ref a ∧ DGet H a x o ∧ Q (neg ^^ o.isSome) := by
  unfold gInD at q
  split at q
  · rename_i kvs j
    unfold RepB at ry
    obtain ⟨p, vs, rfl, h2, h3, h4⟩ := ry
    unfold RepB Rep at rx
    subst rx
    have g := DGet.k (k := .inl j) h2
    refine ⟨p, _, rfl, g, ?_⟩
    rcases DR.get (.inl j) (show DR K cl G kvs vs from ⟨h3, h4⟩) with ⟨z, y⟩ | ⟨m', x, z, y1, y2⟩
    · rw [y]; rw [z] at q; exact q
    · rw [y1]; rw [z] at q; exact q
  · exact q.elim
theorem gc_inD (hu : X.A.units + 64 < cLine) : GC X cl .In (gInD false) := ⟨gInD_mo, _, op_in_dict (by omega), fun m n x y H G Q g rx ry q => by
  obtain ⟨a, o, h1, h2, q⟩ := gInD_out rx ry q
  exact ⟨a, o, h1, h2, by simpa using q⟩⟩
theorem gc_notinD (hu : X.A.units + 64 < cLine) : GC X cl .NotIn (gInD true) := ⟨gInD_mo, _, op_notin_dict (by omega), fun m n x y H G Q g rx ry q => by
  obtain ⟨a, o, h1, h2, q⟩ := gInD_out rx ry q
  exact ⟨a, o, h1, h2, by simpa using q⟩⟩
theorem gb_sortD (hc : X.calm = true) : GB X cl (.builtin "sorted") gSortD := by
  refine ⟨fun m Q Q' k q => ?_, _, call_sortedDI hc, fun m x H G Q g r q => ?_⟩
  · unfold gSortD at q ⊢
    split at q
    · split at q
      · exact ⟨q.1, fun ys h1 h2 => k _ (q.2 ys h1 h2)⟩
      · exact q.elim
    · exact q.elim
  · unfold gSortD at q
    split at q
    · rename_i kvs
      split at q
      · rename_i ks hk
        unfold RepB at r
        obtain ⟨p, vs, rfl, h2, h3, h4⟩ := r
        refine ⟨p, vs, ks, rfl, .inl h2, h3.trans (keysI_is hk), q.1, fun ys l hp hs hl => ?_⟩
        exact q.2 ys hp hs _ _ _ (Ext.new g hl) (new_lst g hl (reps_ints ys))
      · exact q.elim
    · exact q.elim
theorem m_getD {apos : Pos} (hu : X.A.units + 64 < cLine) (ha : MQ X cl a qa) (hb : MQ X cl b qb) (m : M1 X a "get" apos b pos := by exact ⟨rfl, rfl, rfl, rfl⟩) : ME X cl (.Call (.Attribute a "get" apos) [b] [] pos) (eGetD qa qb) := by
  refine ⟨fun env Q Q' k q => ha.mo _ _ _ (fun m z => ?_) q, PEmono (pe_dget1 (by omega) ha.pe hb.pe m) fun σ H Q ⟨β, G, env, r0, q⟩ => ?_⟩
  · split at z
    · exact hb.mo _ _ _ (fun _ z => asFro_mo (fun _ z => asInt_mo (fun _ z => k _ z) z) z) z
    · exact z.elim
  refine ⟨β, G, env, r0, ha.mo _ _ _ (fun m q1 v H' G' e1 rv => ?_) q⟩
  split at q1
  · rename_i kvs
    have rv0 := rv
    unfold RepB at rv0
    obtain ⟨p, vs, rfl, h2, h3, h4⟩ := rv0
    refine ⟨p, rfl, .inl ⟨vs, .inl h2⟩, ?_⟩
    refine ⟨β, G', env, r0.ext e1, hb.mo _ _ _ (fun n q2 w H2 G2 e2 rw => ?_) q1⟩
    have rv' := Same.repB rv e2
    unfold RepB at rv'
    obtain ⟨p', vs', e', y2, y3, y4⟩ := rv'
    cases e'
    cases n with
    | fro n =>
      unfold RepB at rw
      obtain ⟨j, rfl, rfl, z⟩ := asInt_rep (show asInt n _ from q2) rw
      have g := DGet.k (k := .inl j) y2
      refine ⟨_, g, ?_⟩
      rcases DR.get (.inl j) (show DR X.K cl G2 kvs vs' from ⟨y3, y4⟩) with ⟨u, y⟩ | ⟨m', x, u, y1, y2⟩
      · rw [y]; rw [u] at z
        exact z _ H2 G2 (e1.trans e2) rep_non
      · rw [y1]; rw [u] at z
        exact z _ H2 G2 (e1.trans e2) y2
    | _ => exact q2.elim
  · exact q1.elim
theorem m_getD2 {apos : Pos} (hu : X.A.units + 64 < cLine) (ha : MQ X cl a qa) (hb : MQ X cl b qb) (hc : ME X cl c fc) (m : M2 X a "get" apos b c pos := by exact ⟨rfl, rfl, rfl, rfl⟩) : ME X cl (.Call (.Attribute a "get" apos) [b, c] [] pos) (eGetD2 qa qb fc) := by
  refine ⟨fun env Q Q' k q => ha.mo _ _ _ (fun m z => ?_) q, PEmono (pe_dget2 (by omega) ha.pe hb.pe hc.pe m) fun σ H Q ⟨β, G, env, r0, q⟩ => ?_⟩
  · split at z
    · exact hb.mo _ _ _ (fun _ z => asFro_mo (fun _ z => asInt_mo (fun _ z => hc.mo _ _ _ (fun _ z => k _ z) z) z) z) z
    · exact z.elim
  refine ⟨β, G, env, r0, ha.mo _ _ _ (fun m q1 v H' G' e1 rv => ?_) q⟩
  split at q1
  · rename_i kvs
    have rv0 := rv
    unfold RepB at rv0
    obtain ⟨p, vs, rfl, h2, h3, h4⟩ := rv0
    refine ⟨p, rfl, .inl ⟨vs, .inl h2⟩, ?_⟩
    refine ⟨β, G', env, r0.ext e1, hb.mo _ _ _ (fun n q2 w H2 G2 e2 rw => ?_) q1⟩
    cases n with
    | fro n =>
      unfold RepB at rw
      obtain ⟨j, rfl, rfl, z⟩ := asInt_rep (show asInt n _ from q2) rw
      refine ⟨β, G2, env, (r0.ext e1).ext e2, hc.mo _ _ _ (fun d q3 w3 H3 G3 e3 rd => ?_) z⟩
      have rv' := Same.repB (Same.repB rv e2) e3
      unfold RepB at rv'
      obtain ⟨p', vs', e', y2, y3, y4⟩ := rv'
      cases e'
      have g := DGet.k (k := .inl j) y2
      refine ⟨_, g, ?_⟩
      rcases DR.get (.inl j) (show DR X.K cl G3 kvs vs' from ⟨y3, y4⟩) with ⟨u, y⟩ | ⟨m', x, u, y1, y2⟩
      · rw [y]; rw [u] at q3
        exact q3 _ H3 G3 ((e1.trans e2).trans e3) rd
      · rw [y1]; rw [u] at q3
        exact q3 _ H3 G3 ((e1.trans e2).trans e3) y2
    | _ => exact q2.elim
  · exact q1.elim
/-- del d[k] -/
def delD (i : Nat) (p : List Nat) (qi : QX) : SX := fun env k => match ownP env i p with
  | some (.dct kvs) => qi env fun x => asFro x fun x => asInt x fun j => (dGet kvs (.inl j)).isSome = true ∧ k.nx (setP env i p (.dct (dDrop kvs (.inl j))))
  | _ => False
theorem ms_delD {i : Nat} {tpos spos : Pos} (ho : MP X o i pl) (hi : MQ X cl ix qa) (hp : fld38 pl = true := by rfl) :
    MS X cl W (.Delete [.Subscript o ix tpos] spos) (delD i pl qa) := by
  refine ⟨fun env k k' l q => ?_, PSmono (ps_ddel ho hi.pe) fun D σ H ⟨β, G, env, r0, q⟩ => ?_⟩
  · unfold delD at q ⊢
    split at q
    · exact hi.mo _ _ _ (fun x z => asFro_mo (fun x z => asInt_mo (fun j z => ⟨z.1, l.nx _ z.2⟩) z) z) q
    · exact q.elim
  unfold delD at q
  split at q
  · rename_i kvs h
    obtain ⟨v0, l, vs, g1, g2, g3, g4, g5⟩ := dct_write r0 (fld38_out hp) h
    refine ⟨v0, .ref l, g1, g2, β, G, env, r0, hi.mo _ _ _ (fun x z w H2 G2 e2 rw => ?_) q⟩
    cases x with
    | fro x =>
      unfold RepB at rw
      obtain ⟨j, rfl, rfl, z⟩ := asInt_rep (show asInt x _ from z) rw
      have r2 := r0.ext e2
      obtain ⟨v0', l', vs', y1, y2, y3, y4, y5⟩ := dct_write r2 (fld38_out hp) h
      rw [g1] at y1; cases y1
      have := PAt.uniq (PAt.same e2.hh g2) y2
      cases this
      refine ⟨l, vs', .inl j, rfl, y3, rfl, ?_, z.2 σ _ G2 (y5 _ _ (DR.drop (.inl j) y4)) e2.gg⟩
      rcases DR.get (.inl j) y4 with ⟨u, y⟩ | ⟨m', x, u, y1, y2⟩
      · rw [u] at z; cases z.1
      · rw [y1]; rfl
    | _ => exact z.elim
  · exact q.elim
/-! ### or, where a test changes things -/
def uOr (u v : UX) : UX := fun env Q E => u env (fun k e => match k with
  | true => Q true e
  | false => v e Q E) E
structure MUW (X : Cx) (cl : Nat → Addr) (W : WX) (E : Expr) (f : UX) : Prop where
  mo : ∀ env (Q Q' : Bool → Env → Prop) (E E' : Int → Prop), (∀ o e, Q o e → Q' o e) → (∀ n, E n → E' n) → f env Q E → f env Q' E'
  pw : PW X E fun σ H Q => ∃ β G env, R X.K cl β σ H G env [] ∧ f env (fun k env2 => ∀ H' G', R X.K cl β σ H' G' env2 [] → Same G G' → Q k H') (W β)
variable {u v : UX} {rest : List Expr}
theorem uw_or1 (ha : MU X cl W a u) : MUW X cl W (.BoolOp .Or [a] pos) u := ⟨ha.mo, pw_or1 ha.pt⟩
theorem uw_or (ha : MU X cl W a u) (hb : MUW X cl W (.BoolOp .Or (b :: rest) pos) v) : MUW X cl W (.BoolOp .Or (a :: b :: rest) pos) (uOr u v) := by
  refine ⟨fun env Q Q' E E' k ke q => ha.mo _ _ _ _ _ (fun o e z => ?_) ke q, PWmono (pw_or ha.pt hb.pw) fun σ H Q ⟨β, G, env, r0, q⟩ => ?_⟩
  · cases o with
    | true => exact k _ _ z
    | false => exact hb.mo _ _ _ _ _ k ke z
  refine ⟨β, G, env, r0, ha.mo _ _ _ _ _ (fun k e z H' G' r' gg => ?_) (fun _ z => z) q⟩
  cases k with
  | true => rw [if_pos rfl]; exact z H' G' r' gg
  | false => rw [if_neg Bool.false_ne_true]; exact ⟨β, G', e, r', hb.mo _ _ _ _ _ (fun k e2 z H2 G2 r2 g2 => z H2 G2 r2 (gg.trans g2)) (fun _ z => z) z⟩
theorem mu_w (h : MUW X cl W a u) : MU X cl W a u := ⟨h.mo, h.pw.pt⟩
end
end C
namespace C
open PySem PySem.Spec PyProof.Rows L2
/-! ### dict(pairs); reversed(xs) -/
/-- pairs of an int and a value -/
def prsD : List MV → Option (List (Key × MV))
  | [] => some []
  | .tup [.int i, m] :: r => (prsD r).map ((.inl i, m) :: ·)
  | _ :: _ => none
theorem prsD_out {m : MV} {ms : List MV} {kvs : List (Key × MV)} (h : prsD (m :: ms) = some kvs) : ∃ i m2 ks, m = .tup [.int i, m2] ∧ prsD ms = some ks ∧ kvs = (.inl i, m2) :: ks := by
  unfold prsD at h
  split at h
  · rename_i e; cases e
  · rename_i i m2 r e
    cases e
    cases q : prsD ms with
    | none => rw [q] at h; cases h
    | some ks =>
      rw [q] at h
      exact ⟨i, m2, ks, rfl, rfl, (Option.some.inj h).symm⟩
  · cases h
/-- one after another put in -/
def mrgD (kvs more : List (Key × MV)) : List (Key × MV) := more.foldl (fun acc kv => dPut acc kv.1 kv.2) kvs
/-- dict(xs) -/
def nDictP (qa : QX) : NX := fun env Q => qa env fun o => asL o fun ms => match prsD ms with
  | some kvs => Q (.dct (mrgD [] kvs))
  | none => False
section
variable {K : PySem.W.Frag} {cl : Nat → Addr} {G H : Hp}
theorem DR.mrg : ∀ {more : List (Key × MV)} {rs : List (Key × V)} {kvs : List (Key × MV)} {vs : List (Key × V)}, DR K cl G more rs → DR K cl G kvs vs → DR K cl G (mrgD kvs more) (mergeK vs rs)
  | [], rs, kvs, vs, h, g => by rw [h.nil_out]; exact g
  | p :: more, rs, kvs, vs, h, g => by
    obtain ⟨v, ws, rfl, h1, h2⟩ := h.out
    show DR K cl G (mrgD (dPut kvs p.1 p.2) more) (mergeK (putK vs p.1 v) ws)
    exact DR.mrg h2 (DR.put p.1 h1 g)
theorem prsD_rep (s : Same G H) : ∀ {ms : List MV} {vs : List V} {kvs : List (Key × MV)}, prsD ms = some kvs → Reps K cl G ms vs → ∃ (ps : List Addr) (ws : List (Key × V)), vs = ps.map V.ref ∧ DR K cl G kvs ws ∧ Paired (fun p kv => SqT K H p [kV kv.1, kv.2]) ps ws
  | [], vs, kvs, h, r => by
    cases h
    unfold Reps at r
    exact ⟨[], [], r, DR.nil, .nil⟩
  | m :: ms, vs, kvs, h, r => by
    unfold Reps at r
    obtain ⟨v, vs', rfl, h1, h2⟩ := r
    obtain ⟨i, m2, ks, rfl, q, rfl⟩ := prsD_out h
    obtain ⟨ps, ws, rfl, g1, g2⟩ := prsD_rep s q h2
    unfold Rep at h1
    obtain ⟨p, us, rfl, y1, y2⟩ := h1
    unfold Reps Rep at y2
    obtain ⟨v1, us2, rfl, rfl, y3⟩ := y2
    unfold Reps at y3
    obtain ⟨v2, us3, rfl, y4, y5⟩ := y3
    unfold Reps at y5
    subst y5
    exact ⟨p :: ps, (.inl i, v2) :: ws, rfl, DR.mk1 (p := (.inl i, m2)) y4 g1, .cons (sqT_same s y1) g2⟩
end
section
variable {X : Cx} {cl : Nat → Addr} {W : WX} {a b c e value o ix : Expr} {fa fb fc : EX} {qa qb qc : QX} {xa : XX} {x : Str} {pos p : Pos}
theorem mn_dictP (hc : X.calm = true) (gl : Gl X x) (hm : X.mg x = none) (hv : bootBuiltins x = some (.type "dict")) (ha : MQ X cl a qa) (hn : x ≠ "__name__" := by decide) (hdb : (x == ("__debug__" : Str)) = false := by decide)
    (he : starEach [a] X.env = (false, eval a X.env) :: starEach [] X.env := by rfl) : MN X cl (.Call (.Name x p) [a] [] pos) (nDictP qa) := by
  refine ⟨fun env Q Q' k q => ha.mo _ _ _ (fun m z => asL_mo (fun ms z => ?_) z) q, PEmono (pe_callTy (call_dictP hc) gl hm hv (pa_cons ha.pe pa_nil he) hn hdb he rfl) fun σ H Q ⟨β, G, env, r0, q⟩ => ?_⟩
  · split at z
    · exact k _ z
    · exact z.elim
  · refine ⟨β, G, env, r0, ha.mo _ _ _ (fun m z v H' G' e rv => ?_) q⟩
    obtain ⟨ms, a1, vs, rfl, h2, h3, z⟩ := asL_rep e.gh z rv
    split at z
    · rename_i kvs hk
      obtain ⟨ps, ws, rfl, g1, g2⟩ := prsD_rep e.gh hk h3
      refine ⟨a1, ps, ws, rfl, SqL.of h2, g2, fun p hp => ?_⟩
      have hG := (r0.ext e).gh.free hp
      refine z _ _ G' [p] ?_ ?_ fun b hb => ?_
      · exact e.trans (Ext.new0 (r0.ext e).gh hp)
      · unfold RepO
        have hd : DR X.K cl G' (mrgD [] kvs) (mergeK [] ws) := DR.mrg g1 DR.nil
        exact ⟨p, _, rfl, rfl, upd_same, hd.1, hd.2⟩
      · have : b = p := by simpa using hb
        subst this
        exact ⟨e.hh.free hp, e.gh.free hp, by rw [upd_same]; simp⟩
    · exact z.elim
theorem it_rev {K : PySem.W.Frag} {G KH : Hp} {p : Addr} {ms : List MV} {vs : List V} (h : KH p = some (.lst vs)) (r : Reps K cl G ms vs) : ItOk K cl (Itv K p vs.length) ms.reverse G KH := by
  have l := Reps.len _ _ r
  refine ⟨fun i H x H' => H' = H ∧ vs[vs.length - 1 - i]? = some x, ?_, fun i H G1 x H' hi hk hg hh y => ?_⟩
  · have w := walk_rev (K := K) (a := p) (xs := vs)
    rw [List.length_reverse, ← l]
    exact w.mono (fun H k => SqL.of (k _ _ h)) fun i H x H' _ _ y => y
  · obtain ⟨rfl, y⟩ := y
    rw [List.length_reverse] at hi
    obtain ⟨m, hm⟩ : ∃ m, ms[vs.length - 1 - i]? = some m := ⟨ms[vs.length - 1 - i]'(by omega), by simp⟩
    obtain ⟨v, h1, h2⟩ := Reps.get _ _ _ m r hm
    rw [h1] at y; cases y
    exact ⟨G1, m, Ext.refl hh, by rw [List.getElem?_reverse hi, ← l]; exact hm, Rep.same hg _ _ h2⟩
/-- reversed(xs) -/
def lRev (fa : EX) : LX := fun env Q => fa env fun m => match m with
  | .lst ms => Q ms.reverse
  | _ => False
theorem mi_rev {tg : Expr} (hg : Gl X "reversed") (hm : X.mg "reversed" = none) (h : ME X cl a fa) (hs : starEach [a] X.env = (false, eval a X.env) :: starEach [] X.env := by rfl) : MI X cl tg (.Call (.Name "reversed" p) [a] [] pos) (lRev fa) := by
  refine ⟨fun env Q Q' k q => h.mo _ _ _ (fun m z => ?_) q, PImono (RT.pi_revA hg hm h.pe hs) fun σ H Q ⟨β, G, env, r0, q⟩ => ⟨β, G, env, r0, h.mo _ _ _ (fun m z v H' G' e rv => ?_) q⟩⟩
  · split at z
    · exact k _ z
    · exact z.elim
  split at z
  · unfold Rep at rv
    obtain ⟨p, vs, rfl, y1, y2⟩ := rv
    exact ⟨p, vs, rfl, .inl ⟨SqL.of (e.gh _ _ y1), z _ H' G' G' e (Same.refl _) (it_rev y1 y2)⟩⟩
  · exact z.elim
end
end C
namespace C
open PySem PySem.Spec PyProof.Rows L2
/-! ### d.update(e) -/
section
variable {X : Cx} {pins : List (Addr × Obj)} {σ : L2.St} {H : Hp} {s : Shared} {a b : Addr} {kvs more : List (Key × V)} {A : Around} {E : Value → Shared → Prop}
theorem d_update {Q : Value → Shared → Prop} (I : Inv X pins σ H s) (e : H a = some (.dK kvs)) (eo : H b = some (.dK more)) (hab : a ≠ b) (hl : kvs.length + more.length ≤ sizeLine) (hm : (mergeK kvs more).length ≤ sizeLine) (h : ∀ s', Inv X pins σ (upd H a (.dK (mergeK kvs more))) s' → Q .none s') :
    wpAny (model X.prog X.w) A (call (.builtin "dict.update") [.ref a, .ref b]) Q E s := by
  obtain ⟨z, hd, vs, rel, dd⟩ := dk_of I.hok e
  obtain ⟨z2, hd2, ws, rel2, dd2⟩ := dk_of I.hok eo
  refine call_meetsIn PySem.F.slot_dict_update dd.typeIs PySem.F.entry_dict_update (PySem.F.args_dict_update_2 _ _) (meets_dict_update (mixKind X.prog X.w) a b hab hd2) ⟨vs, ws, dd, dd2, by rw [← rel.length, ← rel2.length]; exact hl, fun h' dd' _ hs => h _ ?_⟩
  have he : ∃ q, h'.get? a = some q := let ⟨q, _, _, hq, _⟩ := dd'; ⟨q, hq⟩
  exact d_write (t' := s.toks) I (by rw [e]; exact True.intro) hs he (dk_new hm hd (KV.merge rel2 rel) dd')
end
def tDUpd (td te : TE) : TE := fun σ H Q => td σ H fun x H1 => ∃ a, x = .ref a ∧ IsD H1 a ∧ te σ H1 fun y H2 => ∃ b kvs more, y = .ref b ∧ a ≠ b ∧ H2 a = some (.dK kvs) ∧ H2 b = some (.dK more) ∧ kvs.length + more.length ≤ sizeLine ∧ (mergeK kvs more).length ≤ sizeLine ∧ Q .non (upd H2 a (.dK (mergeK kvs more)))
section
variable {X : Cx} {o e : Expr} {apos cpos : Pos} {td ty : TE}
theorem pe_dupd (ho : PE X o td) (he : PE X e ty) (m : M1 X o "update" apos e cpos) : PE X (.Call (.Attribute o "update" apos) [e] [] cpos) (tDUpd td ty) := by
  refine ⟨fun pins s σ H Q I h => ?_⟩
  refine wpAny_Call_method m.base m.few m.line PySem.F.plainAttrs_dict PySem.F.slot_dict_update PySem.F.type_dict_update (thn (ho.run pins s σ H _ I h) fun u s1 ⟨x, H1, I1, rx, a, ex, d, q1⟩ => ?_)
  subst ex
  obtain rfl : u = Value.ref a := rx
  obtain ⟨t1, t2, _⟩ := isD_at I1 d
  refine ⟨t1, t2, ?_⟩
  rw [m.trees]
  refine Calls.callWith_builtin rfl (Calls.evalArgs_plain (Calls.spliced_cons (thn (he.run pins s1 σ H1 _ I1 q1) fun iv s2 ⟨y, H2, I2, ry, b, kvs, more, eb, hab, ea, eo, hz, hm, q2⟩ => Calls.spliced_nil ?_)))
  subst eb
  obtain rfl : iv = Value.ref b := ry
  exact d_update I2 ea eo hab hz hm fun s3 I3 => ⟨.non, _, I3, rfl, q2⟩
end
theorem putK_len (kvs : List (Key × V)) (k : Key) (v : V) : (putK kvs k v).length ≤ kvs.length + 1 := by
  unfold putK
  split
  · rw [List.length_map]; omega
  · rw [List.length_append]; exact Nat.le_refl _
theorem mergeK_len : ∀ (more kvs : List (Key × V)), (mergeK kvs more).length ≤ kvs.length + more.length
  | [], kvs => Nat.le_refl _
  | p :: more, kvs => by
    have a := mergeK_len more (putK kvs p.1 p.2)
    have b := putK_len kvs p.1 p.2
    show (mergeK (putK kvs p.1 p.2) more).length ≤ kvs.length + (more.length + 1)
    omega
/-- d.update(e), e a new dict -/
def xUpd (i : Nat) (p : List Nat) (na : NX) : XX := fun env Q _ => match ownP env i p with
  | some (.dct kvs) => na env fun o => match o with
    | .dct more => kvs.length + more.length ≤ sizeLine ∧ Q (.fro .non) (setP env i p (.dct (mrgD kvs more)))
    | _ => False
  | _ => False
section
variable {X : Cx} {cl : Nat → Addr} {W : WX} {e : Expr} {na : NX}
theorem mx_upd {o : Expr} {i : Nat} {pl : List Nat} {apos cpos : Pos} (ho : MP X o i pl) (ha : MN X cl e na) (hp : fld38 pl = true := by rfl) (m : M1 X o "update" apos e cpos := by exact ⟨rfl, rfl, rfl, rfl⟩) :
    MX X cl W (.Call (.Attribute o "update" apos) [e] [] cpos) (xUpd i pl na) := by
  refine ⟨fun env Q Q' E E' k _ q => ?_, PEmono (pe_dupd ho ha.pe m) fun σ H Q ⟨β, G, env, r0, q⟩ => ?_⟩
  · unfold xUpd at q ⊢
    split at q
    · refine ha.mo _ _ _ (fun o z => ?_) q
      split at z
      · exact ⟨z.1, k _ _ z.2⟩
      · exact z.elim
    · exact q.elim
  · unfold xUpd at q
    split at q
    · rename_i kvs h
      obtain ⟨v0, l, vs, h1, h2, h3, h4, _⟩ := dct_write r0 (fld38_out hp) h
      refine ⟨v0, .ref l, h1, h2, l, rfl, .inl ⟨vs, .inl h3⟩, β, G, env, r0, ha.mo _ _ _ (fun o z v H' G' X' e rv hz => ?_) q⟩
      split at z
      · rename_i more
        have r1 := r0.ext e
        obtain ⟨v0', l', vs', g1, g2, g3, g4, g5⟩ := dct_write r1 (fld38_out hp) h
        rw [h1] at g1; cases g1
        have := PAt.uniq (PAt.same e.hh h2) g2
        cases this
        unfold RepO at rv
        obtain ⟨p2, ws, rfl, rfl, y1, y2, y3⟩ := rv
        have hd : DR X.K cl G' more ws := ⟨y2, y3⟩
        have hne : l ≠ p2 := fun w => by
          subst w
          have := (hz l (by simp)).1
          rw [h3] at this; cases this
        have la := g4.len
        have lb := hd.len
        have lm := mergeK_len ws vs'
        refine ⟨p2, vs', ws, rfl, hne, g3, y1, by rw [la, lb]; exact z.1, by have := z.1; omega, ?_⟩
        exact z.2 .non _ G' [] (g5 _ _ (DR.mrg hd g4)) e.gg rn
      · exact z.elim
    · exact q.elim
end
end C
namespace C
open PySem PySem.Spec PyProof.Rows L2
/-! ### sets of ints: {x for x in xs}, sorted of it -/
def SI (w : World) (a : Addr) (S : Int → Bool) (n : Nat) : HO := .ext fun h => SetR w h a S n
theorem si_ok {w : World} {P : Program} {H : Hp} {h : Heap} {a : Addr} {S : Int → Bool} {n : Nat} (r : SetR w h a S n) : ObjOk P w H h a (SI w a S n) := by
  have ⟨o, _, _, _, ho, _⟩ := r
  exact ⟨r, ⟨o, ho⟩, fun _ _ p k => p.at k⟩
theorem si_at {X : Cx} {pins : List (Addr × Obj)} {σ : L2.St} {H : Hp} {s : Shared} {a : Addr} {S : Int → Bool} {n : Nat} (I : Inv X pins σ H s) (ha : H a = some (SI X.w a S n)) : SetR X.w s.heap a S n := (I.hok a _ ha).1
/-- one member more -/
def sPut (S : Int → Bool) (y : Int) : Int → Bool := fun j => S j || decide (j = y)
def sCnt (S : Int → Bool) (n : Nat) (y : Int) : Nat := if S y = true then n else n + 1
theorem si_add {X : Cx} {pins : List (Addr × Obj)} {σ : L2.St} {H : Hp} {s : Shared} {E : Value → Shared → Prop} {D : Addr} {S : Int → Bool} {n : Nat} {y : Int} {tk : Tok} {Q : Value → Shared → Prop} (I : Inv X pins σ H s) (hD : H D = some (SI X.w D S n)) (room : n + 1 < scanBound)
    (h : ∀ s', Inv X pins σ (upd H D (SI X.w D (sPut S y) (sCnt S n y))) s' → Q .none s') : wpAny (model X.prog X.w) X.A (call (.builtin "set.add") [.ref D, .int y tk]) Q E s := by
  refine setR_add (si_at I hD) room ?_
  intro h' sb new
  have he : ∃ u, h'.get? D = some u := by
    have ⟨o, _, _, _, ho, _⟩ := new
    exact ⟨o, ho⟩
  refine h _ (I.write (e := D) (t' := s.toks + 1) (by rw [hD]; trivial) (.inl rfl) (fun b u hb hu => (sb.2 b hb).trans hu) he ?_)
  exact si_ok new
section
variable {X : Cx}
/-- {e for t in it}, e an int -/
def tSi (w : World) (wi : TI) (g : TG) (te : TE) (vs : List Nat) : TE := fun σ H Q => wi σ H fun J H1 => ∀ D, H1 D = none → ∃ W : Nat → Nat → Hp → Prop,
  (∃ m, W 0 m (upd H1 D (SI w D (fun _ => false) 0))) ∧ ∀ i m H2, W i m H2 → (J.stop i H2 ∧ Q (.ref D) H2) ∨ (J.go i H2 ∧ ∀ x H3, J.yld i H2 x H3 → g x (wipe σ vs) H3 fun σ2 H4 => wipe σ2 vs = wipe σ vs ∧
    te σ2 H4 fun y H5 => ∃ (c : Int) (S : Int → Bool) (n : Nat), y = .int c ∧ H5 D = some (SI w D S n) ∧ n + 1 < scanBound ∧ ∃ m', m' < m ∧ W (i + 1) m' (upd H5 D (SI w D (sPut S c) (sCnt S n c))))
theorem pe_si {elt tg iter : Expr} {scope : Scope} {own : List (PySem.Str × Nat)} {pos : Pos} {wi : TI} {g : TG} {te : TE} (hc : X.calm = true) (hN : X.N.Nodup) (hi : PI X tg iter wi) (ok : BlkOk X.N X.env.scope scope own)
    (hg : ∀ (s : Shared) (H : Hp) (C : Addr) (cl' : List (PySem.Str × Addr)) (fp : List Addr), PG (BlkX X scope s H C cl' fp) tg g)
    (he : ∀ (s : Shared) (H : Hp) (C : Addr) (cl' : List (PySem.Str × Addr)) (fp : List Addr), PE (BlkX X scope s H C cl' fp) elt te) (hs : ∀ x, foldedSetIterable iter X.env x = pure x) :
    PE X (.SetComp elt [⟨tg, iter, [], 0⟩] scope pos) (tSi X.w wi g te (own.map (·.2))) := by
  refine ⟨fun pins s σ H Q I h => ?_⟩
  have hfree : ∀ y ∈ scope.names, y.2 = .free → ∃ c, X.env.cells.lookup y.1 = some c := fun y hy e => (ok.free y hy e).elim (fun k => I.ok.has _ (.inl k)) fun k => I.ok.has _ (.inr k)
  rw [PpSet.eval_SetComp]
  refine wpAny_comprehension_free (use := none) rfl hs (closure_ok hfree) ok.kind (fun y hy e => by rw [ok.uniq y hy, e]) (thn (hi.run pins s σ H _ I h) fun xv s1 hx => thn hx fun itv s2 hit => ?_)
  obtain ⟨it, fp, tn, J, H1, eit, I2, T, st2, f2, q⟩ := hit
  subst eit
  refine PpSet.newSet_ok (newEnv_comp ?_)
  generalize eD : s2.heap.objs.size = D
  obtain ⟨W, ⟨m0, w0⟩, turn⟩ := q D (I2.hok.fresh (Nat.le_of_eq eD))
  generalize es3 : ({ s2 with heap := s2.heap.push { cls := .type "set", dict := none, data := .set #[] 0 (.fresh 0 0 (!X.w.params.followText "set-order")) } } : Shared) = s3
  have hp3 : s3.heap = s2.heap.push { cls := .type "set", dict := none, data := .set #[] 0 (.fresh 0 0 (!X.w.params.followText "set-order")) } := by rw [← es3]
  have old3 : ∀ b o, s2.heap.get? b = some o → s3.heap.get? b = some o := fun b o e => by rw [hp3]; exact Heap.get?_push_of_some _ e
  have I3 : Inv X pins σ (upd H1 D (SI X.w D (fun _ => false) 0)) s3 := by
    rw [← es3]
    refine I2.laid (t' := s2.toks) (fun b o e => Heap.get?_push_of_some _ e) (Nat.le_of_eq eD) ?_
    rw [← eD]
    exact si_ok (setR_fresh X.w)
  have f3 : ∀ b ∈ fp, FpOk X pins (upd H1 D (SI X.w D (fun _ => false) 0)) b ∧ b < s3.heap.objs.size := fun b hb => by
    obtain ⟨o, eo, _⟩ := T.obj _ _ st2 b hb
    have lt := Heap.lt_size eo
    have nb : b ≠ D := by rw [← eD]; exact Nat.ne_of_lt lt
    exact ⟨⟨by rw [upd_ne nb]; exact (f2 b hb).1, (f2 b hb).2⟩, Heap.lt_size (old3 b o eo)⟩
  have st3 : tn 0 s3.heap := T.keep _ _ _ st2 fun b _ o e => old3 b o e
  have I4 := block_start I3 ok hN f3
  have pg : PG (X.blk s3 (upd H1 D (SI X.w D (fun _ => false) 0)) scope (compEnvC scope (cellsFrom (s3.heap.objs.size + 1) scope.names (cloFrom X.env.cells scope.names [])) s3.heap.objs.size X.env) fp) tg g := hg s3 (upd H1 D (SI X.w D (fun _ => false) 0)) s3.heap.objs.size (cellsFrom (s3.heap.objs.size + 1) scope.names (cloFrom X.env.cells scope.names [])) fp
  have pe : PE (X.blk s3 (upd H1 D (SI X.w D (fun _ => false) 0)) scope (compEnvC scope (cellsFrom (s3.heap.objs.size + 1) scope.names (cloFrom X.env.cells scope.names [])) s3.heap.objs.size X.env) fp) elt te := he s3 (upd H1 D (SI X.w D (fun _ => false) 0)) s3.heap.objs.size (cellsFrom (s3.heap.objs.size + 1) scope.names (cloFrom X.env.cells scope.names [])) fp
  have nf3 : ∀ b ∈ fp, (upd H1 D (SI X.w D (fun _ => false) 0)) b = none := fun b hb => (f3 b hb).1.1
  show codeAny _ _ (.compStart (.SetComp elt [⟨tg, iter, [], 0⟩] scope pos) 0 (.ref it) (.ref D) (compEnvC scope (cellsFrom (s3.heap.objs.size + 1) scope.names (cloFrom X.env.cells scope.names [])) s3.heap.objs.size X.env))
    (compPost (model X.prog X.w) X.A X.xe none (EP X pins σ Q) (.ref D) s3.heap.objs.size) { s3 with heap := pushCells (s3.heap.push { cls := .type "dict", data := .dict #[] }) scope.names }
  generalize ece : compEnvC scope (cellsFrom (s3.heap.objs.size + 1) scope.names (cloFrom X.env.cells scope.names [])) s3.heap.objs.size X.env = ce at I4 pg pe ⊢
  have ceL : ce.locals = s3.heap.objs.size := by rw [← ece]; rfl
  generalize eH : upd H1 D (SI X.w D (fun _ => false) 0) = HS at I3 I4 pg pe w0 nf3 f3
  generalize es4 : ({ s3 with heap := pushCells (s3.heap.push { cls := .type "dict", data := .dict #[] }) scope.names } : Shared) = s4 at I4 ⊢
  have st4 : tn 0 s4.heap := T.keep _ _ _ st3 fun b _ o e => by rw [← es4]; exact pushCells_keeps _ _ _ _ (Heap.get?_push_of_some _ e)
  have free : ∀ {σ' : L2.St} {H' : Hp} {s' : Shared}, Inv (X.blk s3 HS scope ce fp) [] σ' H' s' → (∀ b ∈ fp, H' b = none) → ∀ b ∈ fp, FpOk (X.blk s3 HS scope ce fp) [] H' b := fun {σ' H' s'} J' hn b hb =>
    ⟨hn b hb, (J'.ok.exf b hb).1, J'.ok.exfs b hb, .inl hb, fun x c e => (J'.ok.exf b hb).2 x c e, fun p hp => absurd (show p ∈ ([] : List (Addr × Obj)) ++ [] from hp) (by simp)⟩
  suffices loop : codeAny (model X.prog X.w) X.A (.compLoop (.SetComp elt [⟨tg, iter, [], 0⟩] scope pos) 0 (.ref it) (.ref D) ce) (compPost (model X.prog X.w) X.A X.xe none (EP X pins σ Q) (.ref D) s3.heap.objs.size) s4 from PpSet.codeAny_compStart_set loop (T.self X.A 0 _ _ _ st4 loop)
  refine PpSet.compLoopS_any (fun n z => ∃ i Hz, Inv (X.blk s3 HS scope ce fp) [] (wipe σ (own.map (·.2))) Hz z ∧ tn i z.heap ∧ (∀ b ∈ fp, Hz b = none) ∧ W i n Hz) ?_ m0 ⟨0, HS, I4, st4, nf3, w0⟩
  rintro n z ⟨i, Hz, Iz, stz, nz, wz⟩
  rcases turn i n Hz wz with ⟨stop, qq⟩ | ⟨go, step⟩
  · have td := T.done (X.blk s3 HS scope ce fp) rfl rfl rfl hc i [] z _ Hz (fun _ _ => False) Iz (free Iz nz) stz stop
    refine thnF td fun r z1 hr1 => ?_
    obtain ⟨hr, J1⟩ := hr1
    subst hr
    have J2 : Inv X pins σ Hz z1 := I3.call' (ch := fp) J1.os J1.base J1.hok J1.bare fun b hb => ⟨(f3 b hb).1.2.2.2.1, (f3 b hb).1.2.1, (f3 b hb).1.2.2.2.2.1, (f3 b hb).1.2.2.2.2.2⟩
    have nC : Hz s3.heap.objs.size = none := ceL ▸ (show Hz ce.locals = none from J1.free)
    obtain ⟨mm, hn, _⟩ := J1.loc
    have hn' : z1.heap.Ns s3.heap.objs.size mm := ceL ▸ (show z1.heap.Ns ce.locals mm from hn)
    obtain ⟨d0, d1, d2, d3, d4, d5⟩ := I3.fpOk (b := s3.heap.objs.size) (Nat.le_refl _) nC
    exact ⟨mm, hn', fun h'' sb => ⟨.ref D, Hz, J2.turned (t' := z1.toks) (fun b o hb e => (sb.2 b hb).trans e) d0 d1 d3 d4 d5, rfl, qq⟩⟩
  · have ti := T.item (X.blk s3 HS scope ce fp) rfl rfl rfl hc i [] z _ Hz (fun _ _ => False) Iz (free Iz nz) stz go
    refine thnF ti fun r z1 hr1 => ?_
    obtain ⟨u, hr, h1⟩ := hr1
    subst hr
    refine thnF h1 fun _ z2 hz2 => ?_
    obtain ⟨x, H3, I3', r3, y3, st3', n3⟩ := hz2
    have P3 := I3'.pinned (free I3' n3) (T.obj _ _ st3')
    refine thnF (pg.run _ z2 _ H3 x u _ P3 r3 (step x H3 y3)) fun _ z3 hz3 => ?_
    obtain ⟨σ2, H4, I4', hw, q4⟩ := hz3
    show wpAny _ _ (pure true) _ _ _
    refine wpAny_pure ?_
    rw [if_pos rfl]
    refine thnF (pe.run _ z3 σ2 H4 _ I4' q4) fun y z4 hz4 => ?_
    obtain ⟨yv, H5, I5, r5, c, S, n0, ey, hD5, room, m', hm, wn⟩ := hz4
    subst ey
    obtain ⟨tk, rfl⟩ : ∃ tk, y = Value.int c tk := r5
    refine si_add (X := X.blk s3 HS scope ce fp) I5 hD5 room fun z5 I6 => ?_
    have keep6 : ∀ b ∈ fp, ∀ o, z2.heap.get? b = some o → z5.heap.get? b = some o ∧ (upd H5 D (SI X.w D (sPut S c) (sCnt S n0 c))) b = none := fun b hb o e => by
      have k := I6.pin (b, o) (List.mem_append_right _ (List.mem_append_right _ (mem_pinsAt hb e)))
      exact ⟨k.1, k.2.1⟩
    have len2 : (wipe σ (own.map (·.2))).length = σ2.length := by rw [← hw, wipe_length]
    refine ⟨m', hm, i + 1, _, (I6.unpinned (pins := [])).weak len2 (fun j v e => ?_), T.keep _ _ _ st3' fun b hb o e => (keep6 b hb o e).1, fun b hb => ?_, wn⟩
    · rw [← hw] at e
      exact (wipe_some e).1
    · obtain ⟨o, e, _⟩ := T.obj _ _ st3' b hb
      exact (keep6 b hb o e).2
/-- sorted(s), s a set of ints, fewer than 64 -/
theorem call_sortedSI (hcalm : X.calm = true) : CallR X (.builtin "sorted") (fun xs H Q => ∃ (a : Addr) (S : Int → Bool) (n : Nat), xs = [.ref a] ∧ H a = some (SI X.w a S n) ∧ n < 64 ∧
    ∀ (ns : List Int) (p : Addr), ns.Pairwise (· < ·) → (∀ k, k ∈ ns ↔ S k = true) → ns.length = n → H p = none → Q (.ref p) (upd H p (.lst (ns.map V.int)))) := by
  intro pins s σ H xs us Q I r h
  obtain ⟨a, S, n, rfl, ha, h64, q⟩ := h
  cases r with
  | cons r1 r2 =>
    cases r2
    rename_i u
    obtain rfl : u = Value.ref a := r1
    refine sorted_set (si_at I ha) (I.ok.hd hcalm) h64 fun s' p out c ns kp g o hp hget hI h1 h2 h3 => ?_
    have hn : H p = none := I.hok.fresh hp
    have hlen : (ns.map V.int).length ≤ sizeLine := by rw [List.length_map, h3, sizeLine_eq]; omega
    have new : ObjOk X.prog X.w (upd H p (.lst (ns.map V.int))) s'.heap p (.lst (ns.map V.int)) := ⟨hlen, out.toList, c, vals_of_ints hI, by rw [Array.toArray_toList]; exact hget⟩
    exact ⟨.ref p, upd H p (.lst (ns.map V.int)), I.call' (ch := []) o (Un.laid kp hp hn) (I.hok.laid kp hp new) (by rw [g]; exact I.bare) (fun _ z => nomatch z), rfl, q ns p h1 h2 h3 hn⟩
end
/-! at the level of values -/
def eSS (i : Nat) (f : LX) : EX := fun env Q => Nat.blt i env.length = true ∧ f env fun ms => ∃ is ns : List Int, ms = is.map .int ∧ ns.Pairwise (· < ·) ∧ (∀ k, k ∈ ns ↔ k ∈ is) ∧ ns.length < 64 ∧ Q (.lst (ns.map .int))
section
variable {X : Cx} {cl : Nat → Addr} {W : WX} {a b c e : Expr} {fa fb fc : EX} {pos p : Pos} {g : GX} {ta : TX}
theorem nodup_same : ∀ {l ns : List Int}, l.Nodup → ns.Pairwise (· < ·) → (∀ k, k ∈ ns ↔ k ∈ l) → l.length = ns.length := fun {l ns} h1 h2 h3 => by
  have d : ns.Nodup := h2.imp fun {a b} h => by omega
  have p : l.Perm ns := (List.perm_ext_iff_of_nodup h1 d).mpr fun a => (h3 a).symm
  exact p.length_eq
theorem len_sub : ∀ {l ns : List Int}, l.Nodup → (∀ k ∈ l, k ∈ ns) → l.length ≤ ns.length
  | [], _, _, _ => Nat.zero_le _
  | x :: l, ns, h, s => by
    obtain ⟨h1, h2⟩ := List.nodup_cons.mp h
    have hx := s x List.mem_cons_self
    have ih := len_sub (ns := ns.erase x) h2 fun k hk => (List.mem_erase_of_ne (fun e => h1 (by rw [← e]; exact hk))).mpr (s k (List.mem_cons_of_mem _ hk))
    rw [List.length_erase_of_mem hx] at ih
    have : 0 < ns.length := List.length_pos_of_mem hx
    rw [List.length_cons]
    omega
theorem m_ss {scope : Scope} {x : Str} {i : Nat} {px px2 sp : Pos} {iter : Expr} {own : List (Str × Nat)} {f : LX} (hc : X.calm = true) (hN : X.N.Nodup) (hi : MJ X cl (.Name x px) iter f) (ok : BlkOk X.N X.env.scope scope own) (hown : own.map (·.2) = [i])
    (hg : ∀ (s : Shared) (H : Hp) (C : Addr) (cl' : List (Str × Addr)) (fp : List Addr), MG (BlkX X scope s H C cl' fp) cl (.Name x px) (gNm i) [i])
    (he : ∀ (s : Shared) (H : Hp) (C : Addr) (cl' : List (Str × Addr)) (fp : List Addr), ME (BlkX X scope s H C cl' fp) cl (.Name x px2) (eQ (qPl i [])))
    (gl : Gl X "sorted") (hm : X.mg "sorted" = none) (hs : ∀ y, foldedSetIterable iter X.env y = pure y := by intro _; rfl) :
    ME X cl (.Call (.Name "sorted" p) [.SetComp (.Name x px2) [⟨.Name x px, iter, [], 0⟩] scope sp] [] pos) (eSS i f) := by
  refine ⟨fun env Q Q' k q => ⟨q.1, hi.mo _ _ _ (fun ms ⟨is, ns, z1, z2, z3, z4, z5⟩ => ⟨is, ns, z1, z2, z3, z4, k _ z5⟩) q.2⟩, ?_⟩
  have P := pe_si (te := eOf X.K cl (eQ (qPl i []))) (g := gOf X.K cl (gNm i) [i]) (elt := .Name x px2) (pos := sp) hc hN hi.pi ok (fun s H C cl' fp => (hg s H C cl' fp).pg) (fun s H C cl' fp => (he s H C cl' fp).pe) hs
  refine PEmono (pe_callB (call_sortedSI hc) gl hm (by decide +kernel) (pa_cons P pa_nil) (by decide) (by decide)) fun σ H Q ⟨β, G, env, r0, hil, q⟩ => ?_
  have hil : i < env.length := Nat.le_of_ble_eq_true hil
  rw [hown]
  refine ⟨β, G, env, r0, hi.mo _ _ _ (fun ms ⟨is, ns, z1, z2, z3, z4, z5⟩ J H1 G1 KH e1 hk it D hD => ?_) q⟩
  obtain ⟨Y, w, hy⟩ := it
  subst z1
  have hlen : (is.map MV.int).length = is.length := List.length_map ..
  let Pv : Nat → Hp → Prop := fun j H2 => ∃ (G2 : Hp) (l : List Int) (S : Int → Bool), Ext H1 G1 H2 G2 ∧ G2 D = none ∧ H2 D = some (SI X.w D S l.length) ∧ l.Nodup ∧ (∀ k, S k = true ↔ k ∈ l) ∧ (∀ k, k ∈ l ↔ k ∈ is.take j)
  have base : ∀ {j H2}, Pv j H2 → Same KH H2 := fun {j H2} ⟨G2, l, S, e2, _⟩ => hk.trans e2.hh
  refine ⟨fun j m H2 => m = is.length - j ∧ j ≤ is.length ∧ Pv j H2, ⟨is.length, by simp, Nat.zero_le _, G1, [], fun _ => false, Ext.new0 e1.gh hD, e1.gh.free hD, upd_same, List.nodup_nil, fun k => by simp, fun k => by simp⟩, ?_⟩
  rintro j m H2 ⟨rfl, hj, pv⟩
  by_cases hlt : j < is.length
  · refine .inr ⟨w.goes j H2 (by rw [hlen]; exact hlt) (base pv), fun x H3 y => ?_⟩
    obtain ⟨G2, l, S, e2, gd, hd, nd, hS, hl⟩ := pv
    obtain ⟨G3, m, e3, hm, rm⟩ := hy j H2 G2 x H3 (by rw [hlen]; exact hlt) (hk.trans e2.hh) e2.gg e2.gh (w.yields j H2 x H3 (by rw [hlen]; exact hlt) (hk.trans e2.hh) y)
    have em : m = .int is[j] := by
      rw [List.getElem?_map, List.getElem?_eq_getElem hlt] at hm
      exact (Option.some.inj hm).symm
    subst em
    have e13 := e2.trans e3
    have r3 := (r0.ext (e1.trans e13)).wipe [i]
    have hd3 := e3.hh _ _ hd
    have gd3 := e3.gn D (by rw [hd]; simp) gd
    have lb : l.length < 64 := Nat.lt_of_le_of_lt (len_sub nd fun k hk => (z3 k).mpr (List.mem_of_mem_take ((hl k).mp hk))) z4
    have hset : setE (wipeE env [i]) i (.fro (.int is[j])) = some ((env.set i .un).set i (.ow (.fro (.int is[j])))) := by
      show setE (env.set i .un) i _ = _
      unfold setE
      rw [List.getElem?_set_self hil]
      rfl
    refine ⟨β, G3, _, _, r3, rm, ?_⟩
    unfold gNm
    rw [hset]
    intro σ2 r4 ag
    refine ⟨wipe_agr ag fun _ h => h, β, G3, _, r4, ?_⟩
    have hget : getP ((env.set i .un).set i (.ow (.fro (.int is[j])))) i [] = some (.fro (.int is[j])) := by
      unfold getP
      rw [List.getElem?_set_self (by rw [List.length_set]; exact hil)]
      rfl
    show eQ (qPl i []) _ _
    unfold eQ qPl
    rw [hget]
    intro v H5 G5 e5 rv
    unfold Rep at rv
    subst rv
    have hd5 := e5.hh _ _ hd3
    have gd5 := e5.gn D (by rw [hd3]; simp) gd3
    refine ⟨is[j], S, l.length, rfl, hd5, by have : 65 < scanBound := by decide
                                             omega, is.length - (j + 1), by omega, rfl, hlt, G5, if is[j] ∈ l then l else is[j] :: l, sPut S is[j], ?_, gd5, ?_, ?_, ?_, ?_⟩
    · have e15 := e13.trans e5
      refine ⟨fun b u hb => ?_, e15.gg, fun b u hb => ?_, e15.gn⟩
      · rw [upd_ne (ne_of_none hb hD)]; exact e15.hh b u hb
      · rw [upd_ne (ne_of_none hb gd5)]; exact e15.gh b u hb
    · rw [upd_same]
      congr 2
      unfold sCnt
      by_cases c : is[j] ∈ l
      · rw [if_pos ((hS _).mpr c), if_pos c]
      · rw [if_neg (fun z => c ((hS _).mp z)), if_neg c, List.length_cons]
    · split
      · exact nd
      · rename_i c; exact List.nodup_cons.mpr ⟨c, nd⟩
    · intro k
      unfold sPut
      rw [Bool.or_eq_true, decide_eq_true_eq, hS]
      split
      · rename_i c; exact ⟨fun z => z.elim id fun y => y ▸ c, .inl⟩
      · rw [List.mem_cons]; exact Or.comm
    · intro k
      rw [List.take_add_one, List.getElem?_eq_getElem hlt, List.mem_append]
      show _ ↔ _ ∨ k ∈ [is[j]]
      rw [List.mem_singleton, ← hl]
      split
      · rename_i c; exact ⟨.inl, fun z => z.elim id fun y => y ▸ c⟩
      · rw [List.mem_cons]; exact Or.comm
  · have ej : j = is.length := by omega
    subst ej
    refine .inl ⟨by rw [← hlen]; exact w.stops H2 (base pv), ?_⟩
    obtain ⟨G2, l, S, e2, gd, hd, nd, hS, hl⟩ := pv
    rw [List.take_length] at hl
    have ll := nodup_same nd z2 fun k => (z3 k).trans (hl k).symm
    refine ⟨D, S, l.length, rfl, hd, by rw [ll]; exact z4, fun ns' p h1 h2 h3 hp => ?_⟩
    have en : ns' = ns := by
      refine List.Perm.eq_of_pairwise (le := fun a b : Int => a < b) (fun a b _ _ h1 h2 => by omega) h1 z2 ((List.perm_ext_iff_of_nodup (h1.imp fun {a b} h => by omega) (z2.imp fun {a b} h => by omega)).mpr fun k => ?_)
      rw [h2, hS, hl, z3]
    subst en
    exact z5 _ _ _ ((e1.trans e2).trans (Ext.new e2.gh hp)) (new_lst e2.gh hp (reps_ints ns'))
end
end C
namespace C
open PySem PySem.Spec PyProof.Rows L2
/-! ### [e for k in d if ..], d an own dict with int keys -/
def nLcD (i : Nat) (vs : List Nat) (g : GX) (t : TX) (fe : EX) : NX := fun env Q => match env[i]? with
  | some (.ow (.dct kvs)) => match keysI kvs with
    | some ks => lcN g t fe (wipeE (env.set i .un) vs) (ks.map .int) [] fun ms => Q (.lst ms)
    | none => False
  | _ => False
section
variable {K : PySem.W.Frag} {cl : Nat → Addr} {H H' G G' : Hp} {β : Bs} {σ : L2.St} {env : Env} {d : Addr} {o : HO}
/-- an owned thing that no slot holds is written -/
theorem R.updX (r : R K cl β σ H G env [d]) : R K cl β σ (upd H d o) G env [] := by
  obtain ⟨fp, s1, s2, s3, s4⟩ := r.sl
  obtain ⟨d1, d2, d3, d4⟩ := s4 d (by simp)
  refine ⟨r.len, r.g0, fun b u h => ?_, fun b u h n => ?_, r.gk, fp, fun i s hs => (s1 i s hs).frame (Same.refl _) fun b hb u h => ?_, s2, s3, fun b hb => by cases hb⟩
  · rw [upd_ne (fun e => by rw [e, d2] at h; cases h)]; exact r.gh b u h
  · refine (upd_ne fun e => ?_).trans (r.hk b u h n)
    subst e
    rcases d3 with y | y
    · rw [h] at y; cases y
    · exact n y
  · rw [upd_ne (fun e => d4 i (List.getElem?_eq_some_iff.mp hs).1 (by rw [← e]; exact hb))]; exact h
theorem it_keys {KH : Hp} {od : Obj} {vs : List (Key × V)} {ks : List Int} (h : KH d = some (.frz od (.dK vs))) (e : vs.map (·.1) = ks.map Sum.inl) : ItOk K cl (Itk d od vs) (ks.map .int) G KH := by
  have l : vs.length = (ks.map MV.int).length := by rw [List.length_map]; simpa using congrArg List.length e
  refine ⟨_, by rw [← l]; exact (walk_keys (d := d) (o := od) (kvs := vs)).mono (fun H k => k _ _ h) fun i H x H' _ _ y => y, fun i H G1 x H' hi hk hg hh y => ?_⟩
  obtain ⟨rfl, k, v, h1, rfl⟩ := y
  have e1 : (vs.map (·.1))[i]? = some k := by rw [List.getElem?_map, h1]; rfl
  rw [e, List.getElem?_map] at e1
  cases q : ks[i]? with
  | none => rw [q] at e1; cases e1
  | some j =>
    rw [q] at e1
    cases e1
    exact ⟨G1, .int j, Ext.refl hh, by rw [List.getElem?_map, q]; rfl, rep_int⟩
end
section
variable {X : Cx} {cl : Nat → Addr} {W : WX} {fe : EX} {ta : TX} {g : GX} {pos p : Pos}
/-- the turns of a list comprehension -/
theorem lc_walk {is vs : List Nat} (his : ∀ j ∈ is, j ∈ vs) (gmo : ∀ m env (Q Q' : Env → Prop), (∀ e, Q e → Q' e) → g m env Q → g m env Q') (tmo : ∀ env (Q Q' : Bool → Prop), (∀ m, Q m → Q' m) → ta env Q → ta env Q')
    (emo : ∀ env (Q Q' : MV → Prop), (∀ m, Q m → Q' m) → fe env Q → fe env Q') {β : Bs} {σ : L2.St} {H1 G1 KH : Hp} {env : Env} {J : It} {ms : List MV} (r1 : R X.K cl β σ H1 G1 env []) (hk : Same KH H1) (it : ItOk X.K cl J ms G1 KH) {P : List MV → Prop}
    (q : lcN g ta fe (wipeE env vs) ms [] P) {D : Addr} (hD : H1 D = none) {Qd : Hp → Prop} (hQ : ∀ H2 G2 acc us, Ext H1 G1 H2 G2 → H2 D = some (.lst us) → G2 D = none → Reps X.K cl G2 acc us → P acc → Qd H2) :
    ∃ W : Nat → Nat → Hp → Prop, (∃ m, W 0 m (upd H1 D (.lst []))) ∧ ∀ i m H, W i m H → (J.stop i H ∧ Qd H) ∨ (J.go i H ∧ ∃ Nx : Hp → Prop, (∀ H', Nx H' → ∃ m', m' < m ∧ W (i + 1) m' H') ∧ ∀ x H', J.yld i H x H' →
      gOf X.K cl g is x (wipe σ vs) H' fun σ2 H2 => wipe σ2 vs = wipe σ vs ∧ tOf X.K cl ta σ2 H2 fun b H3 => if b = true then eOf X.K cl fe σ2 H3 fun y H4 => ∃ acc, H4 D = some (.lst acc) ∧ acc.length < sizeLine ∧ Nx (upd H4 D (.lst (acc ++ [y]))) else Nx H3) := by
  obtain ⟨Y, w, hy⟩ := it
  refine lc_it w (fun i H2 => ∃ G2 acc us, Ext H1 G1 H2 G2 ∧ H2 D = some (.lst us) ∧ G2 D = none ∧ Reps X.K cl G2 acc us ∧ lcN g ta fe (wipeE env vs) (ms.drop i) acc P)
    ⟨G1, [], [], Ext.new0 r1.gh hD, upd_same, r1.gh.free hD, Reps.nil, q⟩ (fun i H2 _ ⟨G2, _, _, e2, _⟩ => hk.trans e2.hh) (fun i x H2 H3 hi ⟨G2, acc, us, e2, hd, gd, ra, q⟩ y => ?_) fun H2 ⟨G2, acc, us, e2, hd, gd, ra, q⟩ => ?_
  · obtain ⟨G3, m, e3, hm, rm⟩ := hy i H2 G2 x H3 hi (hk.trans e2.hh) e2.gg e2.gh y
    have hdr : ms.drop i = m :: ms.drop (i + 1) := by
      rw [List.drop_eq_getElem_cons hi]
      congr 1
      rw [List.getElem?_eq_getElem hi] at hm
      exact Option.some.inj hm
    rw [hdr] at q
    have e13 := e2.trans e3
    have r3 := (r1.ext e13).wipe vs
    have hd3 := e3.hh _ _ hd
    have gd3 := e3.gn D (by rw [hd]; simp) gd
    refine ⟨β, G3, _, m, r3, rm, gmo _ _ _ _ (fun en z σ2 r4 ag => ⟨wipe_agr ag his, β, G3, en, r4, tmo _ _ _ (fun b z H5 G5 e5 => ?_) z⟩) q⟩
    cases b with
    | false =>
      rw [if_neg Bool.false_ne_true]
      exact ⟨G5, acc, us, e13.trans e5, e5.hh _ _ hd3, e5.gn D (by rw [hd3]; simp) gd3, Reps.same (e3.gg.trans e5.gg) _ _ ra, z⟩
    | true =>
      rw [if_pos rfl]
      refine ⟨β, G5, en, r4.ext e5, emo _ _ _ (fun y z v H6 G6 e6 rv => ?_) z⟩
      have e56 := e5.trans e6
      have hd6 := e56.hh _ _ hd3
      have gd6 := e56.gn D (by rw [hd3]; simp) gd3
      have e16 := e13.trans e56
      refine ⟨us, hd6, by rw [Reps.len _ _ ra]; exact z.1, G6, acc ++ [y], us ++ [v], ⟨fun b u hb => ?_, e16.gg, fun b u hb => ?_, e16.gn⟩, upd_same, gd6, Reps.app _ _ _ _ (Reps.same (e3.gg.trans e56.gg) _ _ ra) (Reps.one rv), z.2⟩
      · rw [upd_ne (ne_of_none hb hD)]; exact e16.hh b u hb
      · rw [upd_ne (ne_of_none hb gd6)]; exact e16.gh b u hb
  · rw [List.drop_length] at q
    exact hQ H2 G2 acc us e2 hd gd ra q
theorem mn_lcD {scope : Scope} {tg elt : Expr} {ifs : List Expr} {own : List (Str × Nat)} {d : Str} {dp : Pos} {i : Nat} (hc : X.calm = true) (hN : X.N.Nodup) (hd : MP X (.Name d dp) i []) (ok : BlkOk X.N X.env.scope scope own)
    (hg : ∃ is, (∀ j ∈ is, j ∈ own.map (·.2)) ∧ ∀ (s : Shared) (H : Hp) (C : Addr) (cl' : List (Str × Addr)) (fp : List Addr), MG (BlkX X scope s H C cl' fp) cl tg g is)
    (ht : ∀ (s : Shared) (H : Hp) (C : Addr) (cl' : List (Str × Addr)) (fp : List Addr), MTs (BlkX X scope s H C cl' fp) cl ifs ta)
    (he : ∀ (s : Shared) (H : Hp) (C : Addr) (cl' : List (Str × Addr)) (fp : List Addr), ME (BlkX X scope s H C cl' fp) cl elt fe) (m0 : Nonempty (Shared × Hp)) (hs : ∀ x, foldedSetIterable (.Name d dp) X.env x = pure x := by intro _; rfl) :
    MN X cl (.ListComp elt [⟨tg, .Name d dp, ifs, 0⟩] scope pos) (nLcD i (own.map (·.2)) g ta fe) := by
  obtain ⟨is, his, hg⟩ := hg
  obtain ⟨s0, H0⟩ := m0
  have gmo := (hg s0 H0 0 [] []).mo
  have tmo := (ht s0 H0 0 [] []).mo
  have emo := (he s0 H0 0 [] []).mo
  refine ⟨fun env Q Q' k q => ?_, PEmono (pe_lock (pe_lc (g := gOf X.K cl g is) (tt := tOf X.K cl ta) (te := eOf X.K cl fe) hc hN (pi_keys hd) ok (fun s H C cl' fp => (hg s H C cl' fp).pg) (fun s H C cl' fp => (ht s H C cl' fp).pt) (fun s H C cl' fp => (he s H C cl' fp).pe) hs)) fun σ H Q ⟨β, G, env, r0, q⟩ => ?_⟩
  · unfold nLcD at q ⊢
    split at q
    · split at q
      · exact lcN_mo gmo tmo emo _ _ _ _ (fun ms z => k _ z) q
      · exact q.elim
    · exact q.elim
  unfold nLcD at q
  split at q
  · rename_i kvs hk
    split at q
    · rename_i ks hks
      obtain ⟨v, Z, h1, h2, h3⟩ := r0.take hk
      unfold RepO at h2
      obtain ⟨a, vs, rfl, rfl, ha, hv, hr⟩ := h2
      have hX := h3.xn a (by simp)
      refine ⟨a, _, ha, trivial, fun od => ?_⟩
      have r1 : R X.K cl β σ (upd H a (.frz od (.dK vs))) G (env.set i .un) [] := h3.updX
      refine ⟨_, _, h1, rfl, a, od, rfl, .inl ⟨vs, upd_same, fun D hD => ?_⟩⟩
      have hDa : D ≠ a := fun e => by rw [e, upd_same] at hD; cases hD
      refine lc_walk his gmo tmo emo r1 (Same.refl _) (it_keys upd_same (hv.trans (keysI_is hks))) q hD fun H2 G2 acc us e2 hd gd ra z => ?_
      have ha2 : H2 a = some (.frz od (.dK vs)) := e2.hh _ _ upd_same
      have ga2 : G2 a = none := e2.gn a (by rw [upd_same]; simp) hX
      refine ⟨ha2, z (.ref D) _ G2 [D] ⟨fun b u hb => ?_, e2.gg, fun b u hb => ?_, fun b hb hg => ?_⟩ ?_ fun b hb => ?_⟩
      · by_cases eb : b = a
        · subst eb; rw [ha] at hb; cases hb; exact upd_same
        · rw [upd_ne eb]; exact e2.hh b u (by rw [upd_ne eb]; exact hb)
      · rw [upd_ne (fun e => by rw [e, ga2] at hb; cases hb)]; exact e2.gh b u hb
      · by_cases eb : b = a
        · subst eb; exact ga2
        · exact e2.gn b (by rw [upd_ne eb]; exact hb) hg
      · unfold RepO
        exact ⟨D, us, rfl, rfl, by rw [upd_ne hDa]; exact hd, ra⟩
      · have : b = D := by simpa using hb
        subst this
        rw [upd_ne hDa] at hD
        exact ⟨hD, gd, by rw [upd_ne hDa, hd]; simp⟩
    · exact q.elim
  · exact q.elim
end
end C
namespace C
open PySem PySem.Spec PyProof.Rows L2
/-! ### an own error whose __init__ says super().__init__(text); self.line = line -/
/-- what the written part says of the class at C, of its __init__ at f -/
structure IvC (K : PySem.W.Frag) (P : Program) (C f : Addr) (F : NdefX.NF) : Prop where
  ox : OexC K C
  hf : ∃ oc od osl dc kV pm an ct, K.lookup f = some ⟨oc, od, .func (PySem.W.fnX F.name F.qual F.params F.body F.scope F.cl .none kV dc pm an (.ref F.c) ct), osl⟩
  cd : PySem.W.codeIn K (.ref F.c) F.qual = true
  cc : ∃ ccl cdd vs ccs file tf, K.lookup F.c = some ⟨ccl, cdd, .fields vs, ccs⟩ ∧ vs[2]? = some (.str file tf) ∧ ((P.main.file : Str) == file) = true
  cel : ∃ a kcl kd ksl, F.cl = [(("__class__" : Str), a)] ∧ K.lookup a = some ⟨kcl, kd, .cell (some (.ref C)), ksl⟩
  self : PySem.W.mroIn K C (.ref C) = some true
  sup : PySem.W.ks_superIn K C C "__init__" = some (some (.builtin "ValueError.__init__"))
  ve : PySem.W.subIn K (.ref C) (.type "ValueError") = some true
  third : PySem.W.nsIn K cStatics "thirdparty.any" = some none
  top : (P.main.scope.names.lookup ("super" : Str)).isSome = false
  init : PySem.W.findIn K (.ref C) "__init__" = some (some (.ref f))
  tyf : PySem.W.typeIn K (.ref f) = some (.type "function")
  line : PySem.W.findIn K (.ref C) "line" = some none
/-- its promise -/
def spI (C : Addr) : Sp := fun vs H Q _ => ∃ (a : Addr) (n : Int), vs = [.ref a, .int n] ∧ n.natAbs < 10 ^ 30 ∧ H a = some (exo a C none) ∧ ∀ H1 dx, Same H H1 → H1 dx = none → dx ≠ a → Q .non (upd (upd H1 dx (exd dx [("line", .int n)])) a (exo a C (some dx)))
section
variable {P : Program} {w : World}
theorem call_mw {M : Model} {A : Around} {E : Value → Shared → Prop} {X : Cx} {pins : List (Addr × Obj)} {σ : L2.St} {H : Hp} {s : Shared} {a C u : Addr} {us : List Value} {Q : Value → Shared → Prop} (T : OexC X.K C) (I : Inv X pins σ H s) (e : H a = some (exo a C none)) (hu : s.heap.get? u = some (PySem.W.kxs_mw "ValueError.__init__" a)) (hl : us.length ≤ sizeLine)
    (h : ∀ s', Inv X pins σ H s' → Q .none s') : wpAny (model X.prog X.w) A (call (.ref u) us) Q E s := by
  obtain ⟨nm, q, N, bs, bm, sn, sub, ab, col, dd, k0, k1, k2, k3, k5, hC, hbm⟩ := T.cls
  obtain ⟨t1, ho⟩ := exo_at I.hok e
  have hC' := I.kIn _ _ hC
  obtain ⟨hp, g, d, t, os⟩ := s
  refine wpAny_call (codeAny_of_tree ?_)
  show wpAny _ A.in1 (callAny (.ref u) ⟨us, []⟩) _ _ _
  simp only [callAny]
  refine wpAny_bind (wpAny_load hu ?_)
  simp only [PySem.W.kxs_mw, show (Value.type "method-wrapper" == Value.type "method" || Value.type "method-wrapper" == Value.type "builtin_function_or_method" || Value.type "method-wrapper" == Value.type "method-wrapper") = true by decide, if_true]
  refine PySem.W.KFB.if_so (by decide) ?_
  refine wpAny_bind (PySem.W.check_bound_init F.excBase_ValueError.toExcCallFacts hC' ho rfl ?_)
  refine wpAny_bind (wpAny_pure (wpAny_pure ?_))
  refine ⟨plainId_quiet F.excBase_ValueError.init.plain _, codeAny_builtin F.excBase_ValueError.initEntry ?_⟩
  refine PySem.W.exc_init_tree (cls := .ref C) (t0 := t1) (dv := none) (c2 := .none) (c3 := .none) (b4 := .bool false) ho hl fun h' k hx _ => ?_
  have J := I.write (t' := t) (x := a) (e := a) (o := exo a C none) (by rw [e]; exact True.intro) (.inl rfl) k ⟨_, hx⟩ (exo_ok hx)
  have eu : upd H a (exo a C none) = H := by
    funext b
    by_cases hb : b = a
    · rw [hb, upd_same, e]
    · rw [upd_ne hb]
  rw [eu] at J
  exact h _ J
/-- super().__init__(e, ..) in the def's own frame -/
theorem sup_call {X : Cx} {C f a L : Addr} {F : NdefX.NF} {body : List Stmt} {A : Around} {E : Value → Shared → Prop} {σ : L2.St} {H : Hp} {s : Shared} {e : Expr} {es : List Expr} {ta : TA} {p0 p1 p2 pos : Pos} {pl : Sem Bool} {Qh : Hp → Prop} (V : IvC X.K X.prog C f F) (henv : X.env = NdefX.envF F f L)
    (hA : X.A = A) (hE : X.xe = E) (hp : (F.params.posonlyargs ++ F.params.args).head?.map (·.arg) = some ("self" : Str)) (hks : F.scope.names.lookup ("super" : Str) = some .globalImplicit) (hkc : F.scope.names.lookup ("__class__" : Str) = some .free)
    (hka : F.scope.names.lookup ("self" : Str) = some .local) (hsup : X.mg "super" = none)
    (I : Inv X [] σ H s) (hN : X.N[0]? = some ("self" : Str)) (hσ : σ[0]? = some (some (.ref a))) (ha : H a = some (exo a C none)) (hes : PA X (e :: es) ta) (q : ta σ H fun vs H1 => vs.length ≤ 1000 ∧ H1 a = some (exo a C none) ∧ Qh H1)
    (hc : eval (.Call (.Attribute (.Call (.Name "super" p0) [] [] p1) "__init__" p2) (e :: es) [] pos) X.env = (do
      let ov ← attributeBase (.Call (.Name "super" p0) [] [] p1) "__init__" X.env (eval (.Call (.Name "super" p0) [] [] p1) X.env)
      standAt p2.atName
      let (f, first) ← holding [ov] (getMethod ov "__init__" pl)
      callWith pos f first (backTo pos (starEach (e :: es) X.env)) []))
    (he : starEach (e :: es) X.env = (false, eval e X.env) :: starEach es X.env) (hpl : (backTo pos (starEach es X.env)).any (·.1) = false) :
    PySem.wpAt (model X.prog X.w) A (.func body X.env) (eval (.Call (.Attribute (.Call (.Name "super" p0) [] [] p1) "__init__" p2) (e :: es) [] pos) X.env) (fun _ s' => ∃ H1, Inv X [] σ H1 s' ∧ Qh H1) E s := by
  subst hA hE
  obtain ⟨oc, od, osl, dc, kV, pm, an, ct, hf⟩ := V.hf
  obtain ⟨ccl, cdd, vs, ccs, file, tf, hcode, hvs, hfile⟩ := V.cc
  obtain ⟨ac, kcl, kd, ksl, hcl, hcell⟩ := V.cel
  obtain ⟨cdC, hcd⟩ : ∃ cd, PySem.W.clsIn X.K C = some cd := by
    have z := V.sup
    unfold PySem.W.ks_superIn at z
    cases q : PySem.W.clsIn X.K C with
    | none => rw [q] at z; cases z
    | some cd => exact ⟨cd, rfl⟩
  have XK := I.kIn
  obtain ⟨ar, har, har2⟩ : ∃ ar, (F.params.posonlyargs ++ F.params.args).head? = some ar ∧ ar.arg = ("self" : Str) := by
    cases q : (F.params.posonlyargs ++ F.params.args).head? with
    | none => rw [q] at hp; cases hp
    | some ar => rw [q] at hp; exact ⟨ar, rfl, Option.some.inj hp⟩
  have hkind : X.env.scope.kind = .function := I.ok.kind
  obtain ⟨mb, hb1, hb2⟩ := I.mod.blt
  obtain ⟨t1, ho⟩ := exo_at I.hok ha
  obtain ⟨oD, hD1, hD2⟩ : ∃ oD, s.heap.get? C = some oD ∧ oD.data = .cls cdC := by
    unfold PySem.W.clsIn at hcd
    split at hcd
    · rename_i c d cd' sl ho
      cases hcd
      exact ⟨_, XK _ _ ho, rfl⟩
    · cases hcd
  obtain ⟨m, hns, hloc⟩ := id I.loc
  have k1 : X.env.kindOf ("super" : Str) = some .globalImplicit := by rw [henv]; exact hks
  have k2 : X.env.kindOf ("__class__" : Str) = some .free := by rw [henv]; exact hkc
  have k3 : X.env.kindOf ("self" : Str) = some .local := by rw [henv]; exact hka
  have hfu : X.env.func = some f := by rw [henv]
  have hco : X.env.code = .ref F.c := by rw [henv]
  have hcel : X.env.cells.lookup ("__class__" : Str) = some ac := by
    rw [henv]
    show F.cl.lookup _ = _
    rw [hcl]; rfl
  have hself : m ("self" : Str) = some (.ref a) := by
    obtain ⟨u, ru, lk⟩ := hloc 0 _ _ hN hσ (.inl k3)
    obtain rfl : u = Value.ref a := ru
    rcases lk with ⟨_, h⟩ | ⟨h | h, _⟩
    · exact h
    · rw [k3] at h; cases h
    · rw [k3] at h; cases h
  obtain ⟨hp0, g, d, t, os⟩ := s
  refine ks_wpAt_MethodCall (pl := pl) ?_ hc
  refine ks_wpAt_super_base (env := X.env) k1 k2 rfl hfu (XK _ _ hf) rfl har hco (XK _ _ hcode) rfl hvs hfile V.top ?_
  refine PySem.W.ks_loadName_global hkind k1 (Calls.loadGlobal_builtin (by rw [I.ok.glob]; exact I.mod.glob.keeps I.bk) hsup (by rw [I.ok.blt]; exact hb1.keeps I.bk) ((hb2 "super" (by decide)).trans (show bootBuiltins "super" = some (.type "super") by decide +kernel)) ⟨rfl, ?_⟩)
  refine wpAny_loadName_free hkind k2 hcel ⟨_, XK _ _ hcell, rfl⟩ ?_
  rw [har2]
  refine wpAny_loadName_local hkind k3 hns hself ?_
  refine ks_wpAny_isType_cls hD1 hD2 ⟨rfl, ?_⟩
  refine ks_wpAny_call_super hD1 hD2 ho rfl (fun c e => by cases e) (PySem.W.looks_mroIn XK V.self) (fun h' e' k => ?_)
  have I1 : Inv X [] σ H ⟨h', g, d, t, os⟩ := I.kept k
  have XK1 := I1.kIn
  have J : PySem.W.InstAt h' a { cls := .ref C, dict := none, data := .fields #[.ref t1, .none, .none, .none, .bool false, .none] } C none := ⟨k _ _ ho, rfl, rfl, trivial⟩
  have hsi : PySem.W.alongIn X.K "__init__" ((cdC.mro.dropWhile (· != .ref C)).drop 1) = some (some (.builtin "ValueError.__init__")) := by
    have z := V.sup
    unfold PySem.W.ks_superIn at z
    rw [hcd] at z
    exact z
  refine PySem.W.kxs_getMethod PySem.W.kxs_ValueError e' (PySem.W.looks_opaque XK1 V.third) (l₀ := cdC.mro) (fun A Q E s k q => wpAny_bind ((PySem.W.looks_clsIn XK1 hcd) A _ E s k (wpAny_pure q))) rfl XK1 hsi (J.type.andThen (PySem.W.looks_subIn XK1 V.ve)) (PySem.W.ks_ne XK1 J hcd) rfl ?_
  have I2 : Inv X [] σ H ⟨h'.push (PySem.W.kxs_mw "ValueError.__init__" a), g, d, t + 1, os⟩ := I1.kept fun b o e => Heap.get?_push_of_some _ e
  have hu : (h'.push (PySem.W.kxs_mw "ValueError.__init__" a)).get? h'.objs.size = some (PySem.W.kxs_mw "ValueError.__init__" a) := Heap.get?_push_size _ rfl
  have fo := I1.fpOk (H' := H) (b := h'.objs.size) (Nat.le_refl _) (I1.hok.fresh (Nat.le_refl _))
  have I3 : Inv X [(h'.objs.size, PySem.W.kxs_mw "ValueError.__init__" a)] σ H ⟨h'.push (PySem.W.kxs_mw "ValueError.__init__" a), g, d, t + 1, os⟩ := I2.pins_of fun p hp => by
    rw [List.mem_singleton.mp hp]
    exact ⟨hu, fo.1, fo.2.1, fo.2.2.1, fun v z => by cases z⟩
  generalize h'.objs.size = u at hu I3 ⊢
  rw [he]
  refine PySem.W.kxs_callWith (i := "ValueError.__init__") (x := a) (by show (false || (backTo pos (starEach es X.env)).any (·.1)) = false; rw [hpl]; rfl) ?_
  have hsp := hes.run pos _ _ σ H _ I3 q
  rw [he] at hsp
  refine Calls.evalArgs_plain (thn hsp fun us s3 hh => ?_)
  obtain ⟨vs, H1, I4, r3, hl, ea, qh⟩ := hh
  have hu4 := (I4.pin (u, PySem.W.kxs_mw "ValueError.__init__" a) (List.mem_append_right _ List.mem_cons_self)).1
  have I5 : Inv X [] σ H1 s3 := I4.pins_of fun p hp => by cases hp
  refine ⟨hu4, ?_⟩
  exact call_mw (M := model X.prog X.w) V.ox I5 ea hu4 (by show us.length ≤ sizeLine; rw [← r3.length, sizeLine_eq]; omega) fun s' J => ⟨H1, J, qh⟩
end
/-! the whole def -/
def ivN : List Str := ["self", "line", "__class__"]
/-- __init__'s text -/
structure IvT (F : NdefX.NF) (ea eb : Expr) (ep p0 p1 p2 pos spos pa pb pv pos2 : Pos) : Prop where
  body : F.body = [.Expr (.Call (.Attribute (.Call (.Name "super" p0) [] [] p1) "__init__" p2) [.BinOp ea .Add eb ep] [] pos) spos, .Assign [.Attribute (.Name "self" pa) "line" pb] (.Name "line" pv) pos2]
  sc : NdefX.NScope ivN ["self", "line"] ["__class__"] F.scope
  hp : (F.params.posonlyargs ++ F.params.args).head?.map (·.arg) = some ("self" : Str)
  hks : F.scope.names.lookup ("super" : Str) = some .globalImplicit
  hc : ∀ env : PySem.Env, ∃ pl : Sem Bool, eval (.Call (.Attribute (.Call (.Name "super" p0) [] [] p1) "__init__" p2) [.BinOp ea .Add eb ep] [] pos) env = (do
      let ov ← attributeBase (.Call (.Name "super" p0) [] [] p1) "__init__" env (eval (.Call (.Name "super" p0) [] [] p1) env)
      standAt p2.atName
      let (f, first) ← holding [ov] (getMethod ov "__init__" pl)
      callWith pos f first (backTo pos (starEach [.BinOp ea .Add eb ep] env)) [])
theorem iv_fn {P : Program} {w : World} {K : PySem.W.Frag} {mg : Str → Option Value} {base : Heap} {CX : CXT} {C f : Addr} {F : NdefX.NF} {k : Nat} {dc kV pm ct : Value} {an od : Option Addr} {oc : Value} {osl : Array (Option Value)} {ea eb : Expr} {ep p0 p1 p2 pos spos pa pb pv pos2 : Pos} {t : TA}
    (V : IvC K P C f F) (T : IvT F ea eb ep p0 p1 p2 pos spos pa pb pv pos2) (lk : K.lookup f = some ⟨oc, od, .func (PySem.W.fnX F.name F.qual F.params F.body F.scope F.cl .none kV dc pm an (.ref F.c) ct), osl⟩) (hsup : mg "super" = none)
    (arg : ∀ (A : Around) (outer : List PySem.Env) (s : Shared) (H : Hp) (E : XK), PA (NdefX.ncx CX P w K mg base ivN F f A outer s H E) [.BinOp ea .Add eb ep] t) (targ : ∀ (a : Addr) (n : Int) (H : Hp) (Q : List L2.V → Hp → Prop), n.natAbs < 10 ^ 30 → (∀ x H1, Same H H1 → Q [x] H1) → t [some (.ref a), some (.int n), none] H Q) :
    FnOk P w K mg base CX k f (PySem.W.fnX F.name F.qual F.params F.body F.scope F.cl .none kV dc pm an (.ref F.c) ct) ["self", "line"] (spI C) := by
  refine ⟨fun vs H Q E ⟨a, n, h, _⟩ => by rw [h]; rfl, fun A outer s H args us vs Q E hr e0 hb r hsp => ?_⟩
  obtain ⟨a, n, rfl, hn, ha, hq⟩ := hsp
  have KX : K.In s.heap := e0.mod.kin.keeps fun b o e => (e0.bs b o e).1
  have lim : s.heap.NoLimit := e0.mod.nolimit.keeps fun b o e => (e0.bs b o e).1
  obtain ⟨ac, kcl, kd, ksl, hcl, hcell⟩ := V.cel
  have S := T.sc
  refine ks_codeAny_call_defAt (fd := PySem.W.fnX F.name F.qual F.params F.body F.scope F.cl .none kV dc pm an (.ref F.c) ct) (body := F.body) (binds := (["self", "line"] : List Str).zip us) hr.depth (KX _ _ lk) rfl lim (PySem.W.codeRec_of KX V.cd) rfl hb S.nocell (fun ⟨x, _⟩ hx => S.par x (List.of_mem_zip hx).1) (fun h₁ hns kp => ?_) S.co S.gen S.kind
  show PySem.wpAt _ (A.deeper (NdefX.envF F f s.heap.objs.size)) (.func F.body (NdefX.envF F f s.heap.objs.size)) (execs F.body (NdefX.envF F f s.heap.objs.size)) _ _ _
  have C0 : NdefX.CellsAt F.cl ["__class__"] [none] s.heap H := by
    refine ⟨rfl, fun y c h => ?_, fun x y c h1 h2 => ?_, fun i y hi => ?_⟩
    · rw [hcl] at h
      have hy : c = ac := by
        by_cases e : y = ("__class__" : Str)
        · rw [e] at h; simpa [List.lookup] using h.symm
        · have : (y == ("__class__" : Str)) = false := by simpa using e
          rw [List.lookup_cons, this] at h; cases h
      subst hy
      refine ⟨?_, _, _, KX _ _ hcell, rfl⟩
      exact (e0.bs _ _ (e0.mod.kin _ _ hcell)).2
    · rw [hcl] at h1 h2
      have key : ∀ z : Str, List.lookup z [(("__class__" : Str), ac)] = some c → z = "__class__" := fun z h => by
        by_cases e : z = ("__class__" : Str)
        · exact e
        · have : (z == ("__class__" : Str)) = false := by simpa using e
          rw [List.lookup_cons, this] at h; cases h
      rw [key x h1, key y h2]
    · cases i with
      | zero =>
        have hy : ("__class__" : Str) = y := by simpa using hi
        subst hy
        exact ⟨ac, by rw [hcl]; simp [List.lookup], fun v h => by cases h⟩
      | succ i => simp at hi
  have I : Inv (NdefX.ncx CX P w K mg base ivN F f A outer s H E) [] (NdefX.startF ivN [.ref a, .int n] [none]) H { s with heap := h₁, toks := s.toks + ((["self", "line"] : List Str).zip us).length } := NdefX.inv_startN S hr.hd e0 rfl r C0 hns kp
  have hσ : (NdefX.startF ivN [.ref a, .int n] [none] : L2.St) = [some (.ref a), some (.int n), none] := rfl
  rw [hσ] at I
  rw [T.body]
  have hint : interactive (NdefX.envF F f s.heap.objs.size) = false := by
    unfold interactive
    show (F.scope.kind == ScopeKind.module && _) = false
    rw [S.kind]
    rfl
  obtain ⟨pl, hpl⟩ := T.hc (NdefX.envF F f s.heap.objs.size)
  have first := sup_call (X := NdefX.ncx CX P w K mg base ivN F f A outer s H E) (body := F.body) (p0 := p0) (p1 := p1) (p2 := p2) (pos := pos) (Qh := fun H1 => Same H H1) V rfl rfl rfl T.hp T.hks (S.frk _ List.mem_cons_self) (S.par _ List.mem_cons_self) hsup I rfl rfl ha (arg A outer s H E) (targ a n H _ hn fun x H1 s1 => ⟨by simp, s1 _ _ ha, s1⟩) hpl rfl rfl
  rw [T.body] at first
  refine ks_wpAt_execs_cons (ks_wpAt_Expr_any (ks_wpAt_mono first (fun _ s1 h1 => ?_) fun _ _ z => z) hint)
  obtain ⟨H1, I1, sm⟩ := h1
  have po : PE (NdefX.ncx CX P w K mg base ivN F f A outer s H E) (.Name "self" pa) _ := pe_var (i := 0) rfl (.inl (S.par _ List.mem_cons_self)) (by decide) (by decide)
  have pl' : PE (NdefX.ncx CX P w K mg base ivN F f A outer s H E) (.Name "line" pv) _ := pe_var (i := 1) rfl (.inl (S.par _ (List.mem_cons_of_mem _ List.mem_cons_self))) (by decide) (by decide)
  have ps := pss_one (ps_ost (f := "line") (p' := pb) (pos := pos2) po pl' rfl)
  refine wpAt_of_wpAny (wpAny_mono (ps.run [] s1 _ H1 { nx := fun _ H' => Q .non H', rt := Q } I1 ?_) (fun fl s' hs => ?_) fun e s' hs => hs)
  · exact ⟨.int n, rfl, .ref a, rfl, a, C, rfl, V.ox, V.line, .inl ⟨sm _ _ ha, fun dx h1 h2 => hq H1 dx sm h1 h2⟩⟩
  have fin : ∀ {σ' : L2.St} {H' : Hp} {v : L2.V} {u : Value}, Inv (NdefX.ncx CX P w K mg base ivN F f A outer s H E) [] σ' H' s' → L2.RelV v u → Q v H' → CE outer P w H s Q u s' :=
    fun {σ' H' v u} J rv q => ⟨v, H', J.os, J.bare, J.base, J.hok, rv, q⟩
  cases fl with
  | ret u =>
    obtain ⟨v, σ', H', J, rv, q⟩ := hs
    exact fin J rv q
  | next =>
    obtain ⟨σ', H', J, q⟩ := hs
    exact fin (v := L2.V.non) (u := Value.none) J rfl q
  | brk =>
    obtain ⟨_, _, _, q⟩ := hs
    exact False.elim q
  | cont =>
    obtain ⟨_, _, _, q⟩ := hs
    exact False.elim q
end C
namespace C
open PySem PySem.Spec PyProof.Rows L2
/-! ### raise InvalidPaper(n), and how it leaves a def -/
/-- what the base says of a later heap -/
structure BaseOk (β : Bs) (H G : Hp) : Prop where
  g0 : Same β.G G
  gh : Same G H
  hk : ∀ b u, β.H b = some u → ¬ β.F b → H b = some u
  gk : ∀ b, β.H b ≠ none → ¬ β.F b → β.G b = none → G b = none
def lnD (n : Int) : List (Str × V) := [("line", .int n)]
section
variable {K : PySem.W.Frag} {cl : Nat → Addr} {H H' G G' : Hp} {β : Bs} {σ : L2.St} {env : Env} {Z : List Addr}
theorem R.base (r : R K cl β σ H G env Z) : BaseOk β H G := ⟨r.g0, r.gh, r.hk, r.gk⟩
end
/-- what the def's end wishes of an error -/
def WofE (Cv : Addr) (E : XK) : WX := fun β n => ∀ H' G' dd, BaseOk β H' G' → H' dd = some (.xd (lnD n)) → E (.ref Cv) (some dd) H'
/-- InvalidPaper at Cv -/
structure Ivp (P : Program) (w : World) (K : PySem.W.Frag) (mg : Str → Option Value) (base : Heap) (Cv : Addr) (k : Nat) : Prop where
  mkI : ∃ f fd, FnOk P w K mg base CX0 k f fd ["self", "line"] (spI Cv) ∧ Binds K fd ["self", "line"] [] ∧ PySem.W.findIn K (.ref Cv) "__init__" = some (some (.ref f)) ∧ PySem.W.typeIn K (.ref f) = some (.type "function")
  ox : OexC K Cv
  g : mg "InvalidPaper" = some (.ref Cv)
  exm : PySem.W.exmOne K (.ref Cv) (.ref Cv) = some true
  xf : XfC K Cv
  ln : PySem.W.findIn K (.ref Cv) "line" = some none
def sRaise (fa : EX) : SX := fun env k => fa env fun m => asInt m fun i => i.natAbs < 10 ^ 30 ∧ k.ex i
section
variable {X : Cx} {cl : Nat → Addr} {fa : EX} {e : Expr} {Cv : Addr} {E : XK} {pos p rp : Pos}
theorem ms_raise {k : Nat} (V : Ivp X.prog X.w X.K X.mg X.base Cv k) (hc : X.calm = true) (hr : Room (k + 1) X.A) (tk : Takes X (fun cls d _ H => E cls d H)) (gl : Gl X "InvalidPaper") (ha : ME X cl e fa)
    (he : starEach [e] X.env = (false, eval e X.env) :: starEach [] X.env := by rfl) (hpl : (backTo pos (starEach [] X.env)).any (·.1) = false := by rfl) :
    MS X cl (WofE Cv E) (.Raise (some (.Call (.Name "InvalidPaper" p) [e] [] pos)) none rp) (sRaise fa) := by
  obtain ⟨f, fd, F1, hb, iC, tI⟩ := V.mkI
  refine ⟨fun env k k' l q => ha.mo _ _ _ (fun m z => asInt_mo (fun i z => ⟨z.1, l.ex _ z.2⟩) z) q, PSmono (ps_raise (W := fun cls d _ H => E cls d H) hc tk (pmk_oex (ds := []) (dvs := []) V.ox iC tI F1 hr hb .nil pass0 gl V.g (pa_cons ha.pe pa_nil he) (by decide) he hpl)) fun D σ H ⟨β, G, env, r0, q⟩ => ?_⟩
  refine ⟨β, G, env, r0, ha.mo _ _ _ (fun m z v H1 G1 e1 rv => ?_) q⟩
  obtain ⟨i, rfl, rfl, z⟩ := asInt_rep (show asInt m _ from z) rv
  refine ⟨by simp, fun a na => ?_⟩
  refine ⟨a, i, rfl, z.1, upd_same, fun H2 dx sm hd hne => ⟨rfl, dx, lnD i, upd_same, by rw [upd_ne hne, upd_same]; rfl, ?_, ?_⟩⟩
  · cases q1 : H1 dx with
    | none => rfl
    | some u =>
      have := sm dx u (by rw [upd_ne hne]; exact q1)
      rw [hd] at this; cases this
  · have r1 := r0.ext e1
    have keep : ∀ b u, H1 b = some u → upd (del (upd (upd H2 dx (exd dx (lnD i))) a (exo a Cv (some dx))) a) dx (.xd (lnD i)) b = some u := fun b u hb => by
      have n1 : b ≠ a := fun y => by rw [y, na] at hb; cases hb
      have h2 := sm b u (by rw [upd_ne n1]; exact hb)
      have n2 : b ≠ dx := fun y => by rw [y, hd] at h2; cases h2
      rw [upd_ne n2, del_ne n1, upd_ne n1, upd_ne n2]
      exact h2
    exact z.2 _ G1 dx ⟨r1.g0, fun b u hb => keep b u (r1.gh b u hb), fun b u hb n => keep b u (r1.hk b u hb n), r1.gk⟩ upd_same
end
/-! ### defs that may raise -/
def spX (K : PySem.W.Frag) (cl : Nat → Addr) (Cv : Addr) (n : Nat) (F : FX) : Sp := fun vs H Q E => vs.length = n ∧ ∃ G Fl ss, R K cl ⟨H, G, Fl, vs.map some⟩ (vs.map some) H G ss [] ∧
  F ss (fun o env' => ∀ v σ' H' G' X, R K cl ⟨H, G, Fl, vs.map some⟩ σ' H' G' env' X → RepO K cl H' G' o v X → Q v H') (WofE Cv E ⟨H, G, Fl, vs.map some⟩)
structure FBX (P : Program) (w : World) (K : PySem.W.Frag) (mg : Str → Option Value) (base : Heap) (cl : Nat → Addr) (Cv : Addr) (k n : Nat) (f : Addr) (F : FX) : Prop where
  ex : ∃ fd ps, FnOk P w K mg base (L2.CX P w) k f fd ps (spX K cl Cv n F) ∧ Binds K fd ps []
  mo : ∀ A : Around, Room k A → FMono F
theorem fbx_mk {P : Program} {w : World} {K : PySem.W.Frag} {mg : Str → Option Value} {base : Heap} {cl : Nat → Addr} {Cv : Addr} {x qual : Str} {st : Stmt} {f : Addr} {fd : FuncData} {N ps : List Str} {k : Nat} {s : SX} (F : Fun K x qual st f fd) (S : FnScope N ps (defScope st)) (B : Binds K fd ps [])
    (body : ∀ (cdv : Value) (A : Around) (outer : List PySem.Env) (sh : Shared) (H : Hp) (E : XK), Room k (A.deeper (envOfC qual (defScope st) sh.heap.objs.size f cdv)) → MSs (cxOf (L2.CX P w) P w K mg base N qual (defScope st) f cdv A outer sh H E) cl (WofE Cv E) (defBody st) s) :
    FBX P w K mg base cl Cv (k + 1) ps.length f (fDef N.length ps.length s) := by
  refine ⟨⟨fd, ps, F.okX S (fun vs H Q E h => h.1) fun cdv A outer sh H vs Q E hr h => ?_, B⟩, fun A hr => fDef_mo (body .none A [] {} (fun _ => none) E0 (hr.deeper _)).mo⟩
  obtain ⟨hl, G, Fl, ss, r, q⟩ := h
  refine ⟨_, (body cdv A outer sh H E hr).ps, ⟨H, G, Fl, vs.map some⟩, G, ss ++ List.replicate (N.length - ps.length) .un, ?_, ?_⟩
  · have := r.pad (N.length - ps.length)
    unfold L2.start
    rw [hl]
    exact this
  · exact (body cdv A outer sh H E hr).mo _ ⟨fun e => ∀ v σ' H' G' X, R K cl ⟨H, G, Fl, vs.map some⟩ σ' H' G' e X → RepO K cl H' G' (.fro .non) v X → Q v H', fun o e => ∀ v σ' H' G' X, R K cl ⟨H, G, Fl, vs.map some⟩ σ' H' G' e X → RepO K cl H' G' o v X → Q v H', fun _ => False, fun _ => False, WofE Cv E ⟨H, G, Fl, vs.map some⟩⟩ _ ⟨fun e z σ' H' G' r' _ => z _ _ _ _ _ r' (by unfold RepO Rep; exact ⟨rfl, rfl⟩), fun o e z σ' H' G' v X' r' _ ro => z _ _ _ _ _ r' ro, fun e z => z.elim, fun e z => z.elim, fun n z => z⟩ q
/-- a def that raises nothing, as one that may -/
theorem FB.toX {P : Program} {w : World} {K : PySem.W.Frag} {mg : Str → Option Value} {base : Heap} {cl : Nat → Addr} {Cv : Addr} {k n : Nat} {f : Addr} {F : FX} : True := trivial
/-! ### expressions that may raise -/
abbrev ZX := Env → (OV → Prop) → (Int → Prop) → Prop
section
variable (K : PySem.W.Frag) (cl : Nat → Addr) (Cv : Addr)
def exQ (W2 : L2.WX) (σ : L2.St) (H G : Hp) : Int → Prop := fun n => ∀ H' G' dd, Ext H G H' G' → H' dd = some (.xd (lnD n)) → W2 (.ref Cv) (some dd) σ H'
def zOf (W2 : L2.WX) (f : ZX) : TE := fun σ H Q => ∃ β G env, R K cl β σ H G env [] ∧ f env (fun o => ∀ v H' G' X, Ext H G H' G' → RepO K cl H' G' o v X → (∀ b ∈ X, H b = none ∧ G' b = none ∧ H' b ≠ none) → Q v H') (exQ Cv W2 σ H G)
end
structure MZ (X : Cx) (cl : Nat → Addr) (Cv : Addr) (W2 : L2.WX) (E : Expr) (f : ZX) : Prop where
  mo : ∀ env (Q Q' : OV → Prop) (E E' : Int → Prop), (∀ m, Q m → Q' m) → (∀ n, E n → E' n) → f env Q E → f env Q' E'
  pe : PE X E (zOf X.K cl Cv W2 f)
def zCall (n : Nat) (F : FX) (ga : AX) : ZX := fun env Q E => ga env fun as => match arSlots env as with
  | some ss => ((arOk (muS as) as && noMu as) && Nat.beq as.length n) = true ∧ F ss (fun o _ => Q o) E
  | none => False
section
variable {X : Cx} {cl : Nat → Addr} {Cv : Addr} {W2 : L2.WX} {W : WX} {a b c e : Expr} {es : List Expr} {ga : AX} {zf : ZX} {pos p : Pos} {x : Str}
theorem zCall_mo {n : Nat} {F : FX} (hg : ∀ env (Q Q' : List Ar → Prop), (∀ m, Q m → Q' m) → ga env Q → ga env Q') (hF : FMono F) : ∀ env (Q Q' : OV → Prop) (E E' : Int → Prop), (∀ m, Q m → Q' m) → (∀ n, E n → E' n) → zCall n F ga env Q E → zCall n F ga env Q' E' := fun env Q Q' E E' k ke q => hg _ _ _ (fun as z => by
  cases h : arSlots env as with
  | none => rw [h] at z; exact z
  | some ss => rw [h] at z; exact ⟨z.1, hF _ _ _ _ _ (fun o e w => k o w) ke z.2⟩) q
theorem zcall_in {n : Nat} {F : FX} (mo : FMono F) {σ : L2.St} {β : Bs} {H G H1 G1 : Hp} {env : Env} {as : List Ar} {vs : List V} {ss : Env} {Q : VK} (r0 : R X.K cl β σ H1 G1 env []) (e01 : Ext H G H1 G1) (ra : ArReps X.K cl σ H1 G1 as vs) (hs : arSlots env as = some ss)
    (ok : (arOk (muS as) as && noMu as) = true) (hn : as.length = n) (q : F ss (fun o _ => ∀ v H' G' X', Ext H G H' G' → RepO X.K cl H' G' o v X' → (∀ b ∈ X', H b = none ∧ G' b = none ∧ H' b ≠ none) → Q v H') (exQ Cv W2 σ H G)) : spX X.K cl Cv n F vs H1 Q (WE W2 σ) := by
  rw [Bool.and_eq_true] at ok
  obtain ⟨Fl, r1, _, hFl⟩ := r0.callF ra hs ok.1
  have nF : ∀ b, ¬ Fl b := fun b z => by
    obtain ⟨i, p, h⟩ := hFl b z
    exact noMu_iff ok.2 i p h
  refine ⟨by rw [ra.len, hn], G1, Fl, ss, r1, mo _ _ _ _ _ (fun o env' z v σ' H' G' X' r2 ro => ?_) (fun n z H' G' dd bo hd => ?_) q⟩
  · obtain ⟨fp, _, _, _, s4⟩ := r2.sl
    have e2 : Ext H1 G1 H' G' := ⟨fun b u h => r2.hk b u h (nF b), r2.g0, r2.gh, fun b hb hg => r2.gk b hb (nF b) hg⟩
    refine z v H' G' X' (e01.trans e2) ro fun b hb => ?_
    obtain ⟨h1, h2, h3, _⟩ := s4 b hb
    exact ⟨e01.hh.free (h3.elim id fun z => (nF b z).elim), h2, h1⟩
  · exact z H' G' dd (e01.trans ⟨fun b u h => bo.hk b u h (nF b), bo.g0, bo.gh, fun b hb hg => bo.gk b hb (nF b) hg⟩) hd
theorem mz_call {k n : Nat} {f : Addr} {F : FX} (hF : FBX X.prog X.w X.K X.mg X.base cl Cv k n f F) (tk : Takes X W2) (hr : Room k X.A) (gl : Gl X x) (hm : X.mg x = some (.ref f)) (hk : PySem.W.keepIn X.K (.ref f) = true) (ha : MA X cl (e :: es) ga) (hdb : (x == ("__debug__" : Str)) = false := by decide)
    (he : starEach (e :: es) X.env = (false, eval e X.env) :: starEach es X.env := by rfl) (hpl : (backTo pos (starEach es X.env)).any (·.1) = false := by rfl) : MZ X cl Cv W2 (.Call (.Name x p) (e :: es) [] pos) (zCall n F ga) := by
  obtain ⟨fd, ps, F0, hb⟩ := hF.ex
  refine ⟨zCall_mo ha.mo (hF.mo X.A hr), PEmono (pe_callS (E := WE W2) F0 hr gl hm hk hb (passAt tk) ha.pa hdb he hpl) fun σ H Q ⟨β, G, env, r0, q⟩ => ?_⟩
  refine ⟨β, G, env, r0, ha.mo _ _ _ (fun as z vs H' G' e rs => ?_) q⟩
  cases h : arSlots env as with
  | none => rw [h] at z; exact z.elim
  | some ss =>
    rw [h] at z
    have z1 := z.1
    rw [Bool.and_eq_true] at z1
    exact zcall_in (hF.mo X.A hr) (r0.ext e) e rs h z1.1 (Nat.eq_of_beq_eq_true z1.2) z.2
/-- in a def that may raise -/
def xZ (zf : ZX) : XX := fun env Q E => zf env (fun o => Q o env) E
theorem mx_z {E : XK} (h : MZ X cl Cv (fun cls d _ H => E cls d H) a zf) : MX X cl (WofE Cv E) a (xZ zf) := by
  refine ⟨fun env Q Q' E E' k ke q => h.mo _ _ _ _ _ (fun o z => k _ _ z) ke q, PEmono h.pe fun σ H Q ⟨β, G, env, r0, q⟩ => ⟨β, G, env, r0, h.mo _ _ _ _ _ (fun o z v H' G' X' e ro hX => ?_) (fun n z H' G' dd e hd => ?_) q⟩⟩
  · exact z v H' G' X' (r0.extX e hX) e.gg ro
  · exact z H' G' dd (r0.ext e).base hd
end
end C
namespace C
open PySem PySem.Spec PyProof.Rows L2
/-! ### try .. except InvalidPaper -/
/-- a suite (the error's name stands in slot ie) does u -/
structure Sui (X : Cx) (cl : Nat → Addr) (Cv : Addr) (W : WX) (ie : Nat) (suite : List Stmt) (u : Int → SX) : Prop where
  mo : ∀ n env k k', KLe k k' → u n env k → u n env k'
  ps : ∃ ts : Addr → Value → Option Addr → TS, (∀ (a : Addr) (oe : Obj) (cls : Value) (d : Option Addr) (pn : List (Addr × Obj)), Zc cls d oe → (∃ vs, oe.data = .fields vs) → PSs (X.suite a ((a, oe) :: pn)) suite (ts a cls d)) ∧
    ∀ (n : Int) (D : Ends) (β : Bs) (σ : L2.St) (H G g : Hp) (env : Env) (dd a : Addr), R X.K cl β σ H G env [] → Same g G → H dd = some (.xd (lnD n)) → H a = none → u n env (kOf X.K cl W β g D) →
      ts a (.ref Cv) (some dd) { nx := fun σ' H' => D.nx (σ'.set ie none) H', rt := D.rt, bk := fun σ' H' => D.bk (σ'.set ie none) H', ct := fun σ' H' => D.ct (σ'.set ie none) H' } (σ.set ie (some (.ref a))) H
/-- .. without a name -/
structure Suj (X : Cx) (cl : Nat → Addr) (Cv : Addr) (W : WX) (suite : List Stmt) (u : Int → SX) : Prop where
  mo : ∀ n env k k', KLe k k' → u n env k → u n env k'
  ps : ∃ ts : Addr → Value → Option Addr → TS, (∀ (a : Addr) (oe : Obj) (cls : Value) (d : Option Addr) (pn : List (Addr × Obj)), Zc cls d oe → (∃ vs, oe.data = .fields vs) → PSs (X.suite a ((a, oe) :: pn)) suite (ts a cls d)) ∧
    ∀ (n : Int) (D : Ends) (β : Bs) (σ : L2.St) (H G g : Hp) (env : Env) (dd a : Addr), R X.K cl β σ H G env [] → Same g G → H dd = some (.xd (lnD n)) → H a = none → u n env (kOf X.K cl W β g D) → ts a (.ref Cv) (some dd) D σ H
/-- a body: its reading, with what an error does -/
structure Bdy (X : Cx) (cl : Nat → Addr) (Cv : Addr) (W : WX) (body : List Stmt) (b : (Int → SX) → SX) : Prop where
  mo : ∀ u, (∀ n env k k', KLe k k' → u n env k → u n env k') → ∀ env k k', KLe k k' → b u env k → b u env k'
  ps : ∃ tb : L2.WX → TS, (∀ (W2 : L2.WX) (pn : List (Addr × Obj)) (xe : Value → Shared → Prop), Takes (X.tr pn xe) W2 → PassesOwn (model X.prog X.w) X.A X.env xe → PSs (X.tr pn xe) body (tb W2)) ∧
    ∀ (u : Int → SX) (W2 : L2.WX) (D : Ends) (β : Bs) (σ : L2.St) (H G : Hp) (env : Env), R X.K cl β σ H G env [] →
      (∀ n, u n env (kOf X.K cl W β G D) → ∀ H' G' dd, Ext H G H' G' → H' dd = some (.xd (lnD n)) → W2 (.ref Cv) (some dd) σ H') → b u env (kOf X.K cl W β G D) → tb W2 D σ H
section
variable {X : Cx} {cl : Nat → Addr} {Cv : Addr} {W : WX} {body suite : List Stmt} {b : (Int → SX) → SX} {u : Int → SX} {b₀ : Stmt} {np pos pos' : Pos} {x n : Str} {ie : Nat}
theorem ms_tryAs (hs : X.stack = X.env :: X.outer) (hf : X.env.frame = some X.env.locals) (hN : X.N.Nodup) (hi : X.N[ie]? = some n) (hln : X.env.kindOf n = some .local) (hc : Names X x (.ref Cv)) (exm : PySem.W.exmOne X.K (.ref Cv) (.ref Cv) = some true)
    (hb : Bdy X cl Cv W body b) (hu : Sui X cl Cv W ie (b₀ :: suite) u) : MS X cl W (.Try body [.ExceptHandler (some (.Name x np)) (some n) (b₀ :: suite) pos'] [] [] pos) (b u) := by
  obtain ⟨tb, hb1, hb2⟩ := hb.ps
  obtain ⟨ts, hu1, hu2⟩ := hu.ps
  have tk : Takes X (fun _ _ _ _ => False) := fun _ _ ⟨_, _, _, _, _, _, _, _, _, _, _, _, _, _, _, _, z⟩ => z.elim
  refine ⟨hb.mo u hu.mo, PSmono (ps_try_as (tb := tb) (ts := ts) (Wout := fun _ _ _ _ => False) hs hf hN hi hln hc tk hb1 hu1) fun D σ H ⟨β, G, env, r0, q⟩ => ?_⟩
  refine hb2 u _ D β σ H G env r0 (fun m z H' G' dd e hd => ?_) q
  exact ⟨true, exm, fun _ a ha => hu2 m D β σ H' G' G env dd a (r0.ext e) e.gg hd ha z, fun h => by cases h⟩
theorem ms_tryOnly (hs : X.stack = X.env :: X.outer) (hf : X.env.frame = some X.env.locals) (hc : Names X x (.ref Cv)) (exm : PySem.W.exmOne X.K (.ref Cv) (.ref Cv) = some true)
    (hb : Bdy X cl Cv W body b) (hu : Suj X cl Cv W (b₀ :: suite) u) : MS X cl W (.Try body [.ExceptHandler (some (.Name x np)) none (b₀ :: suite) pos'] [] [] pos) (b u) := by
  obtain ⟨tb, hb1, hb2⟩ := hb.ps
  obtain ⟨ts, hu1, hu2⟩ := hu.ps
  have tk : Takes X (fun _ _ _ _ => False) := fun _ _ ⟨_, _, _, _, _, _, _, _, _, _, _, _, _, _, _, _, z⟩ => z.elim
  refine ⟨hb.mo u hu.mo, PSmono (ps_try_only (tb := tb) (ts := ts) (Wout := fun _ _ _ _ => False) hs hf hc tk hb1 hu1) fun D σ H ⟨β, G, env, r0, q⟩ => ?_⟩
  refine hb2 u _ D β σ H G env r0 (fun m z H' G' dd e hd => ?_) q
  exact ⟨true, exm, fun _ a ha => hu2 m D β σ H' G' G env dd a (r0.ext e) e.gg hd ha z, fun h => by cases h⟩
/-! bodies -/
theorem takesF {Y : Cx} : Takes Y (fun _ _ _ _ => False) := fun _ _ ⟨_, _, _, _, _, _, _, _, _, _, _, _, _, _, _, _, z⟩ => z.elim
/-- x = f(..), then a block that raises nothing -/
def bSet (i : Nat) (zf : ZX) (s : SX) (u : Int → SX) : SX := fun env k => zf env (fun o => match frz o with
  | some m => match setE env i (.fro m) with
    | some e => s e k
    | none => False
  | none => False) (fun n => u n env k)
theorem bd_set (i : Nat) {y : Str} {py ap : Pos} {a : Expr} {rest : List Stmt} {zf : ZX} {s : SX} (hN : X.N.Nodup) (ha : ∀ (W2 : L2.WX) (pn : List (Addr × Obj)) (xe : Value → Shared → Prop), Takes (X.tr pn xe) W2 → MZ (X.tr pn xe) cl Cv W2 a zf)
    (hr : ∀ (pn : List (Addr × Obj)) (xe : Value → Shared → Prop), PassesOwn (model X.prog X.w) X.A X.env xe → MSs (X.tr pn xe) cl W rest s) (hp0 : PassesOwn (model X.prog X.w) X.A X.env X.xe)
    (hi : X.N[i]? = some y := by rfl) (hx : Loc X.env.scope y := by first | exact Or.inl rfl | exact Or.inr rfl) (hs : swapsWith a (some (.Name y py)) ap.line X.env = pure false := by rfl)
    (hf : X.fn y = true ∨ X.env.scope.names.lookup y = some .local := by first | exact .inl rfl | exact .inr rfl | assumption) : Bdy X cl Cv W (.Assign [.Name y py] a ap :: rest) (bSet i zf s) := by
  have hm := ha (fun _ _ _ _ => False) X.pn X.xe takesF
  have hms := hr X.pn X.xe hp0
  refine ⟨fun u hu env k k' l q => hm.mo _ _ _ _ _ (fun o z => ?_) (fun n z => hu n _ _ _ l z) q, ?_⟩
  · cases h : frz o with
    | none => rw [h] at z; exact z
    | some m =>
      rw [h] at z
      dsimp only at z ⊢
      cases g : setE env i (.fro m) with
      | none => rw [g] at z; exact z
      | some e => rw [g] at z; exact hms.mo _ _ _ l z
  refine ⟨fun W2 => tSeq (tAsg (zOf X.K cl Cv W2 zf) (gName i)) (sOf X.K cl W s), fun W2 pn xe tk hp => pss_cons (ps_set (X := X.tr pn xe) hN hi hx (ha W2 pn xe tk).pe hs hf) (hr pn xe hp).ps, fun u W2 D β σ H G env r0 hw q => ?_⟩
  refine ⟨β, G, env, r0, hm.mo _ _ _ _ _ (fun o z v H' G' X' e ro hX => ?_) (fun n z H' G' dd e hd => hw n z H' G' dd e hd) q⟩
  cases h : frz o with
  | none => rw [h] at z; exact z.elim
  | some m =>
    rw [h] at z
    dsimp only at z
    cases g : setE env i (.fro m) with
    | none => rw [g] at z; exact z.elim
    | some e3 =>
      rw [g] at z
      obtain ⟨h1, rfl⟩ := setE_out g
      have rr := (r0.extX e hX).frz
      have rp := frz_rep ro (fun b hb => (hX b hb).2.1) h
      have e' := e.frz (fun b hb => (hX b hb).1) fun b hb => (hX b hb).2.1
      exact ⟨β, _, _, rr.setv h1 (by unfold RepO; exact ⟨rfl, rp⟩), hms.mo _ _ _ (kOf_le e'.gg) z⟩
/-- return f(..) -/
def bRet (zf : ZX) (u : Int → SX) : SX := fun env k => zf env (fun o => k.rt o env) (fun n => u n env k)
theorem bd_ret {a : Expr} {rp : Pos} {zf : ZX} (ha : ∀ (W2 : L2.WX) (pn : List (Addr × Obj)) (xe : Value → Shared → Prop), Takes (X.tr pn xe) W2 → MZ (X.tr pn xe) cl Cv W2 a zf) : Bdy X cl Cv W [.Return (some a) rp] (bRet zf) := by
  have hm := ha (fun _ _ _ _ => False) X.pn X.xe takesF
  refine ⟨fun u hu env k k' l q => hm.mo _ _ _ _ _ (fun o z => l.rt _ _ z) (fun n z => hu n _ _ _ l z) q, ?_⟩
  refine ⟨fun W2 => tRet (zOf X.K cl Cv W2 zf), fun W2 pn xe tk hp => pss_one (ps_ret (ha W2 pn xe tk).pe), fun u W2 D β σ H G env r0 hw q => ?_⟩
  exact ⟨β, G, env, r0, hm.mo _ _ _ _ _ (fun o z v H' G' X' e ro hX => z σ H' G' v X' (r0.extX e hX) e.gg ro) (fun n z H' G' dd e hd => hw n z H' G' dd e hd) q⟩
/-- g(e), e may raise -/
def zCall1 (F : FX) (zf : ZX) : ZX := fun env Q E => zf env (fun o => match frz o with
  | some m => F [.ow (.fro m)] (fun o _ => Q o) (fun _ => False)
  | none => False) E
theorem mz_call1 {k : Nat} {f : Addr} {F : FX} {W2 : L2.WX} {a : Expr} {zf : ZX} {x : Str} {p cp : Pos} (hF : FB X.prog X.w X.K X.mg X.base cl k 1 f F) (hr : Room k X.A) (gl : Gl X x) (hm : X.mg x = some (.ref f)) (hk : PySem.W.keepIn X.K (.ref f) = true) (ha : MZ X cl Cv W2 a zf) (hdb : (x == ("__debug__" : Str)) = false := by decide)
    (he : starEach [a] X.env = (false, eval a X.env) :: starEach [] X.env := by rfl) (hpl : (backTo cp (starEach [] X.env)).any (·.1) = false := by rfl) : MZ X cl Cv W2 (.Call (.Name x p) [a] [] cp) (zCall1 F zf) := by
  obtain ⟨fd, ps, F0, hb⟩ := hF.ex
  have mo := hF.mo X.A hr
  refine ⟨fun env Q Q' E E' k ke q => ha.mo _ _ _ _ _ (fun o z => ?_) ke q, PEmono (pe_call (E := E0) F0 hr gl hm hk hb .nil pass0 (pa_cons ha.pe pa_nil he) hdb he hpl) fun σ H Q ⟨β, G, env, r0, q⟩ => ?_⟩
  · cases h : frz o with
    | none => rw [h] at z; exact z
    | some m => rw [h] at z; exact mo _ _ _ _ _ (fun o _ w => k o w) (fun _ w => w) z
  refine ⟨β, G, env, r0, ha.mo _ _ _ _ _ (fun o z v H' G' X' e ro hX => ?_) (fun n z => z) q⟩
  cases h : frz o with
  | none => rw [h] at z; exact z.elim
  | some m =>
    rw [h] at z
    have rr := (r0.extX e hX).frz
    have rp := frz_rep ro (fun b hb => (hX b hb).2.1) h
    have e' := e.frz (fun b hb => (hX b hb).1) fun b hb => (hX b hb).2.1
    show sp0 X.K cl 1 F ([v] ++ []) H' Q E0
    refine nCall_in (as := [.v m]) (n := 1) mo rr (Ext.refl rr.gh) ⟨v, [], rfl, rp, rfl⟩ ?_ rfl
    refine ⟨by simp [arOk, noMu, muS], mo _ _ _ _ _ (fun o _ w v2 H2 G2 X2 e2 ro2 hX2 => w v2 H2 G2 X2 (e'.trans e2) ro2 fun b hb => ⟨e'.hh.free (hX2 b hb).1, (hX2 b hb).2⟩) (fun _ w => w) z⟩
/-- if a != y: a block that raises nothing -/
def bIfNe (zf : ZX) (qy : QX) (s t : SX) (u : Int → SX) : SX := fun env k => zf env (fun o => match frz o with
  | some m => qy env fun n => gNe (.fro m) n fun k2 => match k2 with
    | true => s env k
    | false => t env k
  | none => False) (fun n => u n env k)
theorem ne_rel {K : PySem.W.Frag} {cl : Nat → Addr} {m n : OV} {x y : V} {H G : Hp} {Q : VK} (g : Same G H) (rx : RepB K cl H G m x) (ry : RepB K cl H G n y) (q : gNe m n fun k => Q (.bl k) H) : rNe x y H Q ∨ rNeD K x y H Q := by
  rcases gEqP_cases q with ⟨i, j, rfl, rfl, q1⟩ | ⟨i, j, rfl, rfl, q1⟩ | ⟨i, j, rfl, rfl, q1⟩ | ⟨d, e, h1, h2, h3, h4, q1⟩
  · unfold RepB Rep at rx ry; subst rx; subst ry
    refine .inl ⟨rfl, ?_⟩
    have e : (!decide (V.int i = V.int j)) = (true ^^ decide (i = j)) := by simp
    rw [e]
    exact q1
  · unfold RepB Rep at rx ry; subst rx; subst ry
    refine .inl ⟨rfl, ?_⟩
    have e : (!decide (V.str i = V.str j)) = (true ^^ decide (i = j)) := by simp
    rw [e]
    exact q1
  · unfold RepB Rep at rx ry; subst rx; subst ry
    refine .inl ⟨rfl, ?_⟩
    have e : (!decide (V.bl i = V.bl j)) = (true ^^ decide (i = j)) := by simp
    rw [e]
    exact q1
  · exact .inr ⟨d, e, rx.dp g h1, ry.dp g h2, h3, h4, by simpa using q1⟩
theorem bd_ifNe {a y : Expr} {s1 s2 : List Stmt} {cp ip : Pos} {zf : ZX} {qy : QX} {s t : SX} (ha : ∀ (W2 : L2.WX) (pn : List (Addr × Obj)) (xe : Value → Shared → Prop), Takes (X.tr pn xe) W2 → MZ (X.tr pn xe) cl Cv W2 a zf)
    (hy : ∀ (pn : List (Addr × Obj)) (xe : Value → Shared → Prop), MQ (X.tr pn xe) cl y qy) (hun : X.A.units + 64 < cLine)
    (hs : ∀ (pn : List (Addr × Obj)) (xe : Value → Shared → Prop), PassesOwn (model X.prog X.w) X.A X.env xe → MSs (X.tr pn xe) cl W s1 s) (ht : ∀ (pn : List (Addr × Obj)) (xe : Value → Shared → Prop), PassesOwn (model X.prog X.w) X.A X.env xe → MSs (X.tr pn xe) cl W s2 t) (hp0 : PassesOwn (model X.prog X.w) X.A X.env X.xe)
    (hmk : behindInMarks .NotEq y = false := by rfl) : Bdy X cl Cv W [.If (.Compare a [.NotEq] [y] cp) s1 s2 ip] (bIfNe zf qy s t) := by
  have hm := ha (fun _ _ _ _ => False) X.pn X.xe takesF
  have hym := hy X.pn X.xe
  have hsm := hs X.pn X.xe hp0
  have htm := ht X.pn X.xe hp0
  refine ⟨fun u hu env k k' l q => hm.mo _ _ _ _ _ (fun o z => ?_) (fun n z => hu n _ _ _ l z) q, ?_⟩
  · cases h : frz o with
    | none => rw [h] at z; exact z
    | some m =>
      rw [h] at z
      refine hym.mo _ _ _ (fun n z => gEqP_mo _ _ _ _ (fun k2 z => ?_) z) z
      cases k2 with
      | true => exact hsm.mo _ _ _ l z
      | false => exact htm.mo _ _ _ l z
  refine ⟨fun W2 => tIfS (tTest (tOp (fun x y H Q => rNe x y H Q ∨ rNeD X.K x y H Q) (zOf X.K cl Cv W2 zf) (qOf X.K cl qy))) (sOf X.K cl W s) (sOf X.K cl W t), fun W2 pn xe tk hp => pss_one (ps_if (pt_cmpR (op_ne.or (op_neD (X := X.tr pn xe) hun)) (ha W2 pn xe tk).pe (hy pn xe).pe hmk) (hs pn xe hp).ps (ht pn xe hp).ps), fun u W2 D β σ H G env r0 hw q => ?_⟩
  refine ⟨β, G, env, r0, hm.mo _ _ _ _ _ (fun o z v H' G' X' e ro hX => ?_) (fun n z H' G' dd e hd => hw n z H' G' dd e hd) q⟩
  cases h : frz o with
  | none => rw [h] at z; exact z.elim
  | some m =>
    rw [h] at z
    have rr := (r0.extX e hX).frz
    have rp := frz_rep ro (fun b hb => (hX b hb).2.1) h
    have e' := e.frz (fun b hb => (hX b hb).1) fun b hb => (hX b hb).2.1
    refine ⟨β, _, env, rr, hym.mo _ _ _ (fun n z2 w H2 G2 e2 rw' => ?_) z⟩
    refine ne_rel (m := .fro m) e2.gh (by unfold RepB; exact Rep.same e2.gg _ _ rp) rw' (gEqP_mo _ _ _ _ (fun k2 z3 => ?_) z2)
    refine ⟨k2, rfl, ?_⟩
    cases k2 with
    | true => rw [if_pos rfl]; exact ⟨β, G2, env, rr.ext e2, hsm.mo _ _ _ (kOf_le (e'.gg.trans e2.gg)) z3⟩
    | false => rw [if_neg Bool.false_ne_true]; exact ⟨β, G2, env, rr.ext e2, htm.mo _ _ _ (kOf_le (e'.gg.trans e2.gg)) z3⟩
end
end C
namespace C
open PySem PySem.Spec PyProof.Rows L2
/-! ### except suites -/
theorem call_isX {X : Cx} {a D dd : Addr} {oe : Obj} {pn : List (Addr × Obj)} (Cf : ExcC X.K D) (hz : Zc (.ref D) (some dd) oe) (hf : ∃ vs, oe.data = .fields vs) : CallR (X.suite a ((a, oe) :: pn)) (.builtin "isinstance")
    (fun xs H Q => ∃ (c : V) (cv : Value) (b : Bool) (fs : List (Str × V)), xs = [.ref a, c] ∧ (∀ u, RelV c u → u = cv) ∧ PySem.W.kitOne X.K (.ref D) cv = some b ∧ H dd = some (.xd fs) ∧ Q (.bl b) H) := by
  intro pins s σ H xs us Q I r h
  obtain ⟨c, cv, b, fs, rfl, hcv, e, hd, q⟩ := h
  cases r with
  | cons rx rr =>
    cases rr with
    | cons rt rr =>
      cases rr
      cases rx
      have ec := hcv _ rt
      subst ec
      obtain ⟨hget, _⟩ := I.pin (a, oe) (List.mem_append.mpr (.inl List.mem_cons_self))
      obtain ⟨vs, hv⟩ := hf
      have hx : ObjOk X.prog X.w H s.heap dd (.xd fs) := I.hok dd _ hd
      obtain ⟨mA, hns, hr⟩ := hx
      obtain ⟨od, ho, hl⟩ := lookIn_ns hns
      have J : PySem.W.InstAt s.heap a oe D (some od) := ⟨hget, hz.1, by unfold PySem.W.notCls; rw [hv] <;> rfl, by rw [hz.2]; exact ho⟩
      have hcl : (PySem.W.clsIn X.K D).isSome = true := by
        have z := Cf.hd
        unfold PySem.W.hasDictIn at z
        cases q : PySem.W.clsIn X.K D with
        | none => rw [q] at z; cases z
        | some _ => rfl
      exact PySem.W.kia_one (PySem.W.kitx_exc hcl Cf.hg Cf.hk Cf.hs Cf.ha Cf.hn Cf.ht Cf.hm) I.kIn J e (fun z => nomatch z) fun tk => ⟨.bl b, H, I.kept (t' := tk) fun _ _ z => z, rfl, q⟩
section
variable {X : Cx} {cl : Nat → Addr} {Cv a : Addr} {W : WX} {oe : Obj} {cls : Value} {d : Option Addr} {pn : List (Addr × Obj)} {ie j : Nat} {x y : Str} {p p1 p2 p3 p4 p5 p6 p7 p8 p9 q1 q2 q3 q4 q5 q6 q7 q8 q9 : Pos}
/-- the suite's wish: the error in slot ie, its line n -/
def inS (Cv a : Addr) (cls : Value) (d : Option Addr) (ie : Nat) (n : Int) (σ : L2.St) (H : Hp) : Prop := ∃ dd, cls = .ref Cv ∧ d = some dd ∧ H dd = some (.xd (lnD n)) ∧ σ[ie]? = some (some (.ref a))
theorem pe_ln (T : XfC X.K Cv) (hno : PySem.W.findIn X.K (.ref Cv) "line" = some none) (hz : Zc cls d oe) (hf : ∃ vs, oe.data = .fields vs) (hN : X.N[ie]? = some x) (hv : Vis X.env.scope x) (hd : (x == ("__debug__" : Str)) = false) (hcd : (x == ("__classdict__" : Str)) = false)
    (hb : attributeBase (.Name x p) "line" X.env (eval (.Name x p) X.env) = eval (.Name x p) X.env) : PE (X.suite a ((a, oe) :: pn)) (.Attribute (.Name x p) "line" p1) (fun σ H Q => ∃ n, inS Cv a cls d ie n σ H ∧ Q (.int n) H) :=
  PEmono (pe_xf (X := X) T hno hz hf (pe_var (X := X.suite a ((a, oe) :: pn)) (i := ie) hN hv hd hcd) hb) fun σ H Q ⟨n, ⟨dd, h1, h2, h3, h4⟩, q⟩ => ⟨.ref a, h4, rfl, h1, dd, lnD n, .int n, h2, h3, rfl, q⟩
theorem pe_is {ce : Expr} {cv : Value} {c : V} (T : ExcC X.K Cv) (hz : Zc cls d oe) (hf : ∃ vs, oe.data = .fields vs) (hN : X.N[ie]? = some x) (hv : Vis X.env.scope x) (hd : (x == ("__debug__" : Str)) = false) (hcd : (x == ("__classdict__" : Str)) = false)
    (gl : Gl X "isinstance") (hm : X.mg "isinstance" = none) (hce : PE (X.suite a ((a, oe) :: pn)) ce (tC c)) (hcv : ∀ u, RelV c u → u = cv) (hk : PySem.W.kitOne X.K (.ref Cv) cv = some true)
    (he : starEach [.Name x p1, ce] X.env = (false, eval (.Name x p1) X.env) :: starEach [ce] X.env) (he2 : starEach [ce] X.env = (false, eval ce X.env) :: starEach [] X.env) (hpl : (backTo p2 (starEach [ce] X.env)).any (·.1) = false) :
    PE (X.suite a ((a, oe) :: pn)) (.Call (.Name "isinstance" p) [.Name x p1, ce] [] p2) (fun σ H Q => ∃ n, inS Cv a cls d ie n σ H ∧ Q (.bl true) H) := by
  refine ⟨fun pins s σ H Q I ⟨n, ⟨dd, h1, h2, h3, h4⟩, q⟩ => ?_⟩
  subst h1 h2
  refine (pe_callB (X := X.suite a ((a, oe) :: pn)) (call_isX T hz hf) gl hm (by decide +kernel) (pa_cons (pe_var (X := X.suite a ((a, oe) :: pn)) (i := ie) hN hv hd hcd) (pa_cons hce pa_nil he2) he) (by decide) (by decide) he hpl).run pins s σ H Q I ?_
  exact ⟨.ref a, h4, c, cv, true, lnD n, rfl, hcv, hk, h3, q⟩
/-- told = the line -/
def uLn (ie j : Nat) : Int → SX := fun n env k => match env[ie]? with
  | some .un => 1 ≤ n ∧ match setE env j (.fro (.int n)) with
    | some e => k.nx e
    | none => False
  | _ => False
theorem uLn_mo : ∀ n env k k', KLe k k' → uLn ie j n env k → uLn ie j n env k' := fun n env k k' l q => by
  unfold uLn at q ⊢
  split at q
  · refine ⟨q.1, ?_⟩
    have z := q.2
    cases h : setE env j (.fro (.int n)) with
    | none => rw [h] at z; exact z.elim
    | some e => rw [h] at z; exact l.nx _ z
  · exact q.elim
/-- what a suite that sets told does -/
theorem uLn_end {n : Int} {D : Ends} {β : Bs} {σ : L2.St} {H G g : Hp} {env : Env} (hij : ie ≠ j) (r : R X.K cl β σ H G env []) (gg : Same g G) (z : uLn ie j n env (kOf X.K cl W β g D)) : ie < σ.length ∧ 1 ≤ n ∧ D.nx (((σ.set ie (some (.ref a))).set j (some (.int n))).set ie none) H := by
  unfold uLn at z
  split at z
  · rename_i he
    refine ⟨by rw [← r.len]; exact (List.getElem?_eq_some_iff.mp he).1, z.1, ?_⟩
    have z2 := z.2
    cases h : setE env j (.fro (.int n)) with
    | none => rw [h] at z2; exact z2.elim
    | some e =>
      rw [h] at z2
      obtain ⟨h1, rfl⟩ := setE_out h
      have ru := r.unset ie
      rw [set_self he] at ru
      have rr := (ru.setv (o := .fro (.int n)) (v := .int n) h1 (by unfold RepO Rep; exact ⟨rfl, rfl⟩))
      have e1 : ((σ.set ie (some (.ref a))).set j (some (.int n))).set ie none = (σ.set ie none).set j (some (.int n)) := by
        rw [List.set_comm _ _ hij.symm, List.set_set]
      rw [e1]
      exact z2 _ H G rr gg
  · exact z.elim
/-- told = e.line if isinstance(e, L) and e.line > 0 else 0 - 1 -/
theorem su_if {L : Str} {Lv : Addr} {k1 k2 k3 : Nat} (V : XfC X.K Cv) (T : ExcC X.K Cv) (hno : PySem.W.findIn X.K (.ref Cv) "line" = some none) (hij : ie ≠ j) (hNd : X.N.Nodup) (hN : X.N[ie]? = some x) (hv : Vis X.env.scope x) (hj : X.N[j]? = some y) (hjl : Loc X.env.scope y)
    (hjf : X.fn y = true ∨ X.env.scope.names.lookup y = some .local) (hd : (x == ("__debug__" : Str)) = false) (hcd : (x == ("__classdict__" : Str)) = false) (gl : Gl X "isinstance") (hm : X.mg "isinstance" = none) (gL : Gl X L) (hL : X.mg L = some (.ref Lv)) (hLd : (L == ("__debug__" : Str)) = false)
    (hk : PySem.W.kitOne X.K (.ref Cv) (.ref Lv) = some true)
    (hb : ∀ p, attributeBase (.Name x p) "line" X.env (eval (.Name x p) X.env) = eval (.Name x p) X.env)
    (he : starEach [.Name x p1, .Name L p2] X.env = (false, eval (.Name x p1) X.env) :: starEach [.Name L p2] X.env) (he2 : starEach [.Name L p2] X.env = (false, eval (.Name L p2) X.env) :: starEach [] X.env) (hpl : (backTo p3 (starEach [.Name L p2] X.env)).any (·.1) = false)
    (hit : ∀ whole, isTrue (.Call (.Name "isinstance" p) [.Name x p1, .Name L p2] [] p3) X.env whole = (do let v ← whole; standAt p3; holding [v] (truthy v)))
    (hsw : swapsWith (.IfExp (.BoolOp .And [.Call (.Name "isinstance" p) [.Name x p1, .Name L p2] [] p3, .Compare (.Attribute (.Name x p4) "line" p5) [.Gt] [.Constant (.int 0) k1 p6] p7] p8) (.Attribute (.Name x p9) "line" q1) (.BinOp (.Constant (.int 0) k2 q2) .Sub (.Constant (.int 1) k3 q3) q4) q5) (some (.Name y q6)) q7.line X.env = pure false) :
    Sui X cl Cv W ie [.Assign [.Name y q6] (.IfExp (.BoolOp .And [.Call (.Name "isinstance" p) [.Name x p1, .Name L p2] [] p3, .Compare (.Attribute (.Name x p4) "line" p5) [.Gt] [.Constant (.int 0) k1 p6] p7] p8) (.Attribute (.Name x p9) "line" q1) (.BinOp (.Constant (.int 0) k2 q2) .Sub (.Constant (.int 1) k3 q3) q4) q5) q7] (uLn ie j) := by
  refine ⟨uLn_mo, fun a cls d D σ H => ∃ n, inS Cv a cls d ie n σ H ∧ 1 ≤ n ∧ D.nx (σ.set j (some (.int n))) H, fun a oe cls d pn hz hf => ?_, fun n D β σ H G g env dd a r gg hdd ha z => ?_⟩
  · have P1 := pe_is (p := p) (p1 := p1) (p2 := p3) (a := a) (pn := pn) T hz hf hN hv hd hcd gl hm (pe_glob (X := X.suite a ((a, oe) :: pn)) (pos := p2) gL hL (v := .ref Lv) rfl hLd) (fun u h => h) hk he he2 hpl
    have P2 := pe_ln (p := p4) (p1 := p5) (a := a) (pn := pn) V hno hz hf hN hv hd hcd (hb p4)
    have P3 := pe_ln (p := p9) (p1 := q1) (a := a) (pn := pn) V hno hz hf hN hv hd hcd (hb p9)
    have P4 : PE (X.suite a ((a, oe) :: pn)) (.BinOp (.Constant (.int 0) k2 q2) .Sub (.Constant (.int 1) k3 q3) q4) _ := pe_sub pe_int pe_int
    refine PSsmono (pss_one (ps_set (X := X.suite a ((a, oe) :: pn)) (i := j) hNd hj hjl (pe_ifExp (pw_and (pt_truth P1 hit) (pw_and1 (pt_cmpR op_gt P2 pe_int rfl))).pt P3 P4) hsw hjf)) fun D σ H ⟨n, h, hn, q⟩ => ?_
    refine ⟨n, h, true, rfl, ?_⟩
    dsimp only
    rw [if_pos rfl]
    refine ⟨n, h, n, 0, rfl, rfl, _, rfl, ?_⟩
    rw [decide_eq_true (show (0 : Int) < n by omega)]
    dsimp only
    rw [if_pos rfl]
    exact ⟨n, h, q⟩
  · obtain ⟨hl, h1, h2⟩ := uLn_end (a := a) hij r gg z
    exact ⟨n, ⟨dd, rfl, rfl, hdd, List.getElem?_set_self hl⟩, h1, h2⟩
/-- return e.line if isinstance(e, L) else 0 - 1 -/
def uRet : Int → SX := fun n env k => k.rt (.fro (.int n)) env
theorem su_ret {L : Str} {Lv : Addr} {k2 k3 : Nat} (V : XfC X.K Cv) (T : ExcC X.K Cv) (hno : PySem.W.findIn X.K (.ref Cv) "line" = some none) (hN : X.N[ie]? = some x) (hv : Vis X.env.scope x)
    (hd : (x == ("__debug__" : Str)) = false) (hcd : (x == ("__classdict__" : Str)) = false) (gl : Gl X "isinstance") (hm : X.mg "isinstance" = none) (gL : Gl X L) (hL : X.mg L = some (.ref Lv)) (hLd : (L == ("__debug__" : Str)) = false)
    (hk : PySem.W.kitOne X.K (.ref Cv) (.ref Lv) = some true)
    (hb : ∀ p, attributeBase (.Name x p) "line" X.env (eval (.Name x p) X.env) = eval (.Name x p) X.env)
    (he : starEach [.Name x p1, .Name L p2] X.env = (false, eval (.Name x p1) X.env) :: starEach [.Name L p2] X.env) (he2 : starEach [.Name L p2] X.env = (false, eval (.Name L p2) X.env) :: starEach [] X.env) (hpl : (backTo p3 (starEach [.Name L p2] X.env)).any (·.1) = false)
    (hit : ∀ whole, isTrue (.Call (.Name "isinstance" p) [.Name x p1, .Name L p2] [] p3) X.env whole = (do let v ← whole; standAt p3; holding [v] (truthy v))) (hlen : ie < X.N.length) :
    Sui X cl Cv W ie [.Return (some (.IfExp (.Call (.Name "isinstance" p) [.Name x p1, .Name L p2] [] p3) (.Attribute (.Name x p9) "line" q1) (.BinOp (.Constant (.int 0) k2 q2) .Sub (.Constant (.int 1) k3 q3) q4) q5)) q7] uRet := by
  refine ⟨fun n env k k' l q => l.rt _ _ q, fun a cls d D σ H => ∃ n, (σ.length = X.N.length → inS Cv a cls d ie n σ H) ∧ D.rt (.int n) H, fun a oe cls d pn hz hf => ?_, fun n D β σ H G g env dd a r gg hdd ha z => ?_⟩
  · have P1 := pe_is (p := p) (p1 := p1) (p2 := p3) (a := a) (pn := pn) T hz hf hN hv hd hcd gl hm (pe_glob (X := X.suite a ((a, oe) :: pn)) (pos := p2) gL hL (v := .ref Lv) rfl hLd) (fun u h => h) hk he he2 hpl
    have P3 := pe_ln (p := p9) (p1 := q1) (a := a) (pn := pn) V hno hz hf hN hv hd hcd (hb p9)
    have P4 : PE (X.suite a ((a, oe) :: pn)) (.BinOp (.Constant (.int 0) k2 q2) .Sub (.Constant (.int 1) k3 q3) q4) _ := pe_sub pe_int pe_int
    have S := pss_one (ps_ret (X := X.suite a ((a, oe) :: pn)) (pos := q7) (pe_ifExp (pos := q5) (pt_truth P1 hit) P3 P4))
    refine ⟨fun pins s σ H D I ⟨n, h, q⟩ => S.run pins s σ H D I ?_⟩
    have h := h I.len
    refine ⟨n, h, true, rfl, ?_⟩
    dsimp only
    rw [if_pos rfl]
    exact ⟨n, h, q⟩
  · refine ⟨n, fun hl => ⟨dd, rfl, rfl, hdd, List.getElem?_set_self (by rw [List.length_set] at hl; omega)⟩, ?_⟩
    exact z σ H G (.int n) [] r gg (by unfold RepO Rep; exact ⟨rfl, rfl⟩)
/-- return None -/
def uNon : Int → SX := fun _ env k => k.rt (.fro .non) env
theorem su_non {k2 : Nat} : Suj X cl Cv W [.Return (some (.Constant .none k2 q2)) q7] uNon := by
  refine ⟨fun n env k k' l q => l.rt _ _ q, fun _ _ _ D σ H => D.rt .non H, fun a oe cls d pn hz hf => ?_, fun n D β σ H G g env dd a r gg hdd ha z => ?_⟩
  · exact pss_one (ps_ret pe_non)
  · exact z σ H G .non [] r gg (by unfold RepO Rep; exact ⟨rfl, rfl⟩)
/-- told = e.line; if not isinstance(e, L) or not isinstance(e, ValueError) or told < 1: told = 0 - 1 -/
theorem su_or {L : Str} {Lv : Addr} {k1 : Nat} {r1 r2 r3 r4 r5 r6 r7 : Pos} {s2 : List Stmt} (V : XfC X.K Cv) (T : ExcC X.K Cv) (hno : PySem.W.findIn X.K (.ref Cv) "line" = some none) (hij : ie ≠ j) (hNd : X.N.Nodup) (hN : X.N[ie]? = some x) (hv : Vis X.env.scope x) (hj : X.N[j]? = some y) (hjl : Loc X.env.scope y)
    (hjf : X.fn y = true ∨ X.env.scope.names.lookup y = some .local) (hd : (x == ("__debug__" : Str)) = false) (hcd : (x == ("__classdict__" : Str)) = false) (hdy : (y == ("__debug__" : Str)) = false) (hcdy : (y == ("__classdict__" : Str)) = false) (hvy : Vis X.env.scope y) (gl : Gl X "isinstance") (hm : X.mg "isinstance" = none) (gL : Gl X L) (hL : X.mg L = some (.ref Lv)) (hLd : (L == ("__debug__" : Str)) = false)
    (gM : Gl X "ValueError") (hM : X.mg "ValueError" = none)
    (hk : PySem.W.kitOne X.K (.ref Cv) (.ref Lv) = some true) (hk2 : PySem.W.kitOne X.K (.ref Cv) (.type "ValueError") = some true)
    (hb : ∀ p, attributeBase (.Name x p) "line" X.env (eval (.Name x p) X.env) = eval (.Name x p) X.env)
    (he : starEach [.Name x p1, .Name L p2] X.env = (false, eval (.Name x p1) X.env) :: starEach [.Name L p2] X.env) (he2 : starEach [.Name L p2] X.env = (false, eval (.Name L p2) X.env) :: starEach [] X.env) (hpl : (backTo p3 (starEach [.Name L p2] X.env)).any (·.1) = false)
    (hit : ∀ whole, isTrue (.Call (.Name "isinstance" p) [.Name x p1, .Name L p2] [] p3) X.env whole = (do let v ← whole; standAt p3; holding [v] (truthy v)))
    (ge : starEach [.Name x p5, .Name "ValueError" p6] X.env = (false, eval (.Name x p5) X.env) :: starEach [.Name "ValueError" p6] X.env) (ge2 : starEach [.Name "ValueError" p6] X.env = (false, eval (.Name "ValueError" p6) X.env) :: starEach [] X.env) (gpl : (backTo p7 (starEach [.Name "ValueError" p6] X.env)).any (·.1) = false)
    (git : ∀ whole, isTrue (.Call (.Name "isinstance" p4) [.Name x p5, .Name "ValueError" p6] [] p7) X.env whole = (do let v ← whole; standAt p7; holding [v] (truthy v)))
    (hsw : swapsWith (.Attribute (.Name x p9) "line" q1) (some (.Name y q6)) q7.line X.env = pure false)
    (h2 : ∀ (a : Addr) (oe : Obj) (pn : List (Addr × Obj)), ∃ t, PSs (X.suite a ((a, oe) :: pn)) s2 t) :
    Sui X cl Cv W ie [.Assign [.Name y q6] (.Attribute (.Name x p9) "line" q1) q7, .If (.BoolOp .Or [.UnaryOp .Not (.Call (.Name "isinstance" p) [.Name x p1, .Name L p2] [] p3) r1, .UnaryOp .Not (.Call (.Name "isinstance" p4) [.Name x p5, .Name "ValueError" p6] [] p7) r2, .Compare (.Name y r3) [.Lt] [.Constant (.int 1) k1 r4] r5] r6) s2 [] r7] (uLn ie j) := by
  refine ⟨uLn_mo, fun a cls d D σ H => ∃ n, inS Cv a cls d ie n σ H ∧ 1 ≤ n ∧ j < σ.length ∧ D.nx (σ.set j (some (.int n))) H, fun a oe cls d pn hz hf => ?_, fun n D β σ H G g env dd a r gg hdd ha z => ?_⟩
  · obtain ⟨t2, H2⟩ := h2 a oe pn
    have P1 := pe_is (p := p) (p1 := p1) (p2 := p3) (a := a) (pn := pn) T hz hf hN hv hd hcd gl hm (pe_glob (X := X.suite a ((a, oe) :: pn)) (pos := p2) gL hL (v := .ref Lv) rfl hLd) (fun u h => h) hk he he2 hpl
    have P2 := pe_is (p := p4) (p1 := p5) (p2 := p7) (a := a) (pn := pn) T hz hf hN hv hd hcd gl hm (pe_bltn (X := X.suite a ((a, oe) :: pn)) (pos := p6) (v := .ty "ValueError") gM hM (show bootBuiltins "ValueError" = some (.type "ValueError") by decide +kernel) rfl) (fun u h => h) hk2 ge ge2 gpl
    have P3 := pe_ln (p := p9) (p1 := q1) (a := a) (pn := pn) V hno hz hf hN hv hd hcd (hb p9)
    have P5 : PE (X.suite a ((a, oe) :: pn)) (.Name y r3) _ := pe_var (i := j) hj hvy hdy hcdy
    refine PSsmono (pss_cons (ps_set (X := X.suite a ((a, oe) :: pn)) (i := j) hNd hj hjl P3 hsw hjf) (pss_one (ps_if (pw_or (pt_not (pt_truth P1 hit)) (pw_or (pt_not (pt_truth P2 git)) (pw_or1 (pt_cmpR op_lt P5 pe_int rfl)))).pt H2 pss_nil))) fun D σ H ⟨n, h, hn, hjj, q⟩ => ?_
    refine ⟨n, h, ?_⟩
    have h' : inS Cv a cls d ie n (σ.set j (some (.int n))) H := by
      obtain ⟨dd, e1, e2, e3, e4⟩ := h
      exact ⟨dd, e1, e2, e3, by rw [List.getElem?_set_ne hij.symm]; exact e4⟩
    refine ⟨n, h', true, rfl, ?_⟩
    dsimp only
    rw [if_neg (by simp)]
    refine ⟨n, h', true, rfl, ?_⟩
    dsimp only
    rw [if_neg (by simp)]
    refine ⟨.int n, List.getElem?_set_self hjj, n, 1, rfl, rfl, _, rfl, ?_⟩
    rw [decide_eq_false (show ¬ n < 1 by omega)]
    dsimp only
    rw [if_neg (by simp)]
    exact q
  · obtain ⟨hl, h1, h2⟩ := uLn_end (a := a) hij r gg z
    refine ⟨n, ⟨dd, rfl, rfl, hdd, List.getElem?_set_self hl⟩, h1, ?_, h2⟩
    unfold uLn at z
    split at z
    · have z2 := z.2
      cases h : setE env j (.fro (.int n)) with
      | none => rw [h] at z2; exact z2.elim
      | some e =>
        have := (setE_out h).1
        rw [List.length_set, ← r.len]
        exact this
    · exact z.elim
end
end C
namespace C
open PySem PySem.Spec PyProof.Rows L2
/-! ### InvalidPaper from what is written -/
/-- the text of its message -/
def ivG (t1 t2 : Str) : AX := aV (eBin gAdd (qE (eBin gAdd (qE (eK (.str t1))) (qE (e1 gStr (qPl 1 []))))) (qE (eK (.str t2)))) aN
theorem R.triv {K : PySem.W.Frag} {cl : Nat → Addr} {H : Hp} {a : V} {n : Int} : R K cl ⟨H, fun _ => none, fun _ => False, [some a, some (.int n), none]⟩ [some a, some (.int n), none] H (fun _ => none) [.un, .ow (.fro (.int n)), .un] [] := by
  refine ⟨rfl, Same.refl _, fun b u z => (by cases z), fun b u z _ => z, fun b _ _ _ => rfl, fun _ => [], fun i s hs => ?_, fun i b _ hb => (by cases hb), fun i j b _ _ hb => (by cases hb), fun b hb => (by cases hb)⟩
  match i, hs with
  | 0, hs => simp at hs; subst hs; unfold SRep; rfl
  | 1, hs => simp at hs; subst hs; unfold SRep; exact ⟨.int n, rfl, by unfold RepO Rep; exact ⟨rfl, rfl⟩⟩
  | 2, hs => simp at hs; subst hs; unfold SRep; rfl
  | i + 3, hs => simp at hs
theorem iv_targ {K : PySem.W.Frag} {t1 t2 : Str} (a : Addr) (n : Int) (H : Hp) (Q : List V → Hp → Prop) (h1 : t1.length ≤ 1000) (h2 : t2.length ≤ 1000) (hn : n.natAbs < 10 ^ 30) (k : ∀ x H1, Same H H1 → Q [x] H1) : aOf K (fun _ => 0) (ivG t1 t2) [some (.ref a), some (.int n), none] H Q := by
  refine ⟨_, _, _, R.triv, ?_⟩
  have lg : n.natAbs.log2 < 1920 := by
    by_cases z : n.natAbs = 0
    · rw [z]; decide
    · exact (Nat.log2_lt z).mpr (Nat.lt_trans hn (by decide))
  refine ⟨lg, ?_⟩
  have ln : (Str.ofString (toString n) : Str).length ≤ 31 := by
    rw [str_int, txt_len]
    exact numI_len hn (by decide)
  have la : ((t1 ++ (Str.ofString (toString n) : Str)) : Str).length = t1.length + (Str.ofString (toString n) : Str).length := by
    show (t1.cps ++ _).size = _
    rw [Array.size_append]; rfl
  refine ⟨le_line (by omega), le_line (by rw [la]; omega), ?_⟩
  intro vs H' G' e r
  obtain ⟨v, ws, rfl, _, r2⟩ := r
  obtain rfl : ws = [] := r2
  exact k v H' e.hh
/-- the pieces of its text -/
structure IvS (F : NdefX.NF) (t1 t2 : Str) (k1 k2 : Nat) (q1 q2 q3 q4 q5 q6 ep p0 p1 p2 pos spos pa pb pv pos2 : Pos) : Prop where
  t : IvT F (.BinOp (.Constant (.str t1) k1 q1) .Add (.Call (.Name "str" q2) [.Name "line" q3] [] q4) q5) (.Constant (.str t2) k2 q6) ep p0 p1 p2 pos spos pa pb pv pos2
  str : F.scope.names.lookup ("str" : Str) = some .globalImplicit
theorem iv_arg {P : Program} {w : World} {K : PySem.W.Frag} {mg : Str → Option Value} {base : Heap} {CX : CXT} {f : Addr} {F : NdefX.NF} {t1 t2 : Str} {k1 k2 : Nat} {q1 q2 q3 q4 q5 q6 ep p0 p1 p2 pos spos pa pb pv pos2 : Pos} (S : IvS F t1 t2 k1 k2 q1 q2 q3 q4 q5 q6 ep p0 p1 p2 pos spos pa pb pv pos2) (hm : mg "str" = none)
    (A : Around) (outer : List PySem.Env) (s : Shared) (H : Hp) (E : XK) : PA (NdefX.ncx CX P w K mg base ivN F f A outer s H E) [.BinOp (.BinOp (.Constant (.str t1) k1 q1) .Add (.Call (.Name "str" q2) [.Name "line" q3] [] q4) q5) .Add (.Constant (.str t2) k2 q6) ep] (aOf K (fun _ => 0) (ivG t1 t2)) := by
  have hl : MQ (NdefX.ncx CX P w K mg base ivN F f A outer s H E) (fun _ => 0) (.Name "line" q3) (qPl 1 []) := mq_pl (mp_var 1 rfl (.inl (S.t.sc.par _ (List.mem_cons_of_mem _ List.mem_cons_self))) (by decide) (by decide))
  have h1 : ME (NdefX.ncx CX P w K mg base ivN F f A outer s H E) (fun _ => 0) (.Call (.Name "str" q2) [.Name "line" q3] [] q4) (e1 gStr (qPl 1 [])) := m_callT gb_str S.str hm (by decide +kernel) hl (by decide) (by decide) rfl
  exact (ma_v (m_add (mq_e (m_add (mq_e m_str) (mq_e h1))) (mq_e m_str)) ma_nil).pa
theorem kit_sub {K : PySem.W.Frag} {c L : Addr} (h : PySem.W.subIn K (.ref c) (.ref L) = some true) (hd : PySem.W.hasDictIn K L = true) (ht : PySem.W.typeIn K (.ref L) = some (.type "type")) : PySem.W.kitOne K (.ref c) (.ref L) = some true := by
  unfold PySem.W.kitOne
  split
  · rfl
  · unfold PySem.W.kitCls
    have hc : (PySem.W.clsIn K L).isSome = true := by
      unfold PySem.W.hasDictIn at hd
      cases q : PySem.W.clsIn K L with
      | none => rw [q] at hd; cases hd
      | some _ => rfl
    dsimp only
    rw [hc, ht]
    exact h
theorem kit_ve {K : PySem.W.Frag} {c : Addr} (h : PySem.W.subIn K (.ref c) (.type "ValueError") = some true) : PySem.W.kitOne K (.ref c) (.type "ValueError") = some true := by
  unfold PySem.W.kitOne
  split
  · rfl
  · unfold PySem.W.kitCls
    dsimp only
    rw [if_pos (by decide +kernel)]
    exact h
theorem ivp_mk {P : Program} {w : World} {K : PySem.W.Frag} {mg : Str → Option Value} {base : Heap} {Cv f : Addr} {F : NdefX.NF} {t1 t2 : Str} {k1 k2 : Nat} {q1 q2 q3 q4 q5 q6 ep p0 p1 p2 pos spos pa pb pv pos2 : Pos} (V : IvC K P Cv f F) (S : IvS F t1 t2 k1 k2 q1 q2 q3 q4 q5 q6 ep p0 p1 p2 pos spos pa pb pv pos2)
    (hl1 : t1.length ≤ 1000) (hl2 : t2.length ≤ 1000) (hm : mg "str" = none) (hsup : mg "super" = none) (g : mg "InvalidPaper" = some (.ref Cv)) (X : XfC K Cv) (hsub : PySem.W.subIn K (.ref Cv) (.ref Cv) = some true)
    (hb : ∀ (kV dc pm : Value) (an : Option Addr) (ct : Value), Binds K (PySem.W.fnX F.name F.qual F.params F.body F.scope F.cl .none kV dc pm an (.ref F.c) ct) ["self", "line"] []) : Ivp P w K mg base Cv 1 := by
  obtain ⟨oc, od, osl, dc, kV, pm, an, ct, lk⟩ := V.hf
  refine ⟨⟨f, _, iv_fn V S.t lk hsup (fun A outer s H E => iv_arg S hm A outer s H E) (fun a n H Q hn k => iv_targ a n H Q hl1 hl2 hn k), hb kV dc pm an ct, V.init, V.tyf⟩, V.ox, g, ?_, X, V.line⟩
  exact PySem.W.exm_ref V.ox.exC X.hdC V.ox.tyC hsub
end C
namespace C
open PySem PySem.Spec PyProof.Rows L2
/-! ### "c" * n, both written -/
def repS (x : Str) (n : Int) : Str := ⟨(List.replicate n.toNat x.cps).foldl (· ++ ·) #[]⟩
theorem op_rep {X : Cx} : OpR X (binaryOp .Mult) (fun x y H Q => ∃ (c : Str) (n : Int), x = .str c ∧ y = .int n ∧ (c.length = 1 ∧ 2 ≤ n ∧ n ≤ 1000 ∧ (repS c n).length ≤ sizeLine) ∧ Q (.str (repS c n)) H) := by
  intro pins s σ H x y v u Q I rx ry h
  obtain ⟨c, n, rfl, rfl, ⟨h1, h2, h3, h4⟩, q⟩ := h
  obtain ⟨t, rfl⟩ : ∃ t, v = Value.str c t := rx
  obtain ⟨t2, rfl⟩ : ∃ t, u = Value.int n t := ry
  refine PySem.P.mul_str ?_ (fun _ _ => ?_) (fun _ _ => ?_) ?_
  · rw [decide_eq_false (by omega), decide_eq_false (by omega)]; rfl
  · rw [h1]
    intro z
    have : n * 1 ≤ 2 ^ 63 - 1 := by omega
    have := (Int.le_ediv_iff_mul_le (show 0 < n by omega)).mpr (show (1 : Int) * n ≤ 2 ^ 63 - 1 by omega)
    have z' : (1 : Int) > (2 ^ 63 - 1) / n := z
    omega
  · rw [h1]
    exact short24 (by omega)
  · rw [if_neg (by omega), if_neg (by rw [h1]; simp; omega)]
    exact ⟨h4, .str (repS c n), H, I.tok _, ⟨_, rfl⟩, q⟩
theorem m_rep {X : Cx} {cl : Nat → Addr} {c : Str} {n : Int} {k1 k2 : Nat} {p1 p2 pos : Pos} (y : Str) (hy : repS c n = y) (h : c.length = 1 ∧ 2 ≤ n ∧ n ≤ 1000 ∧ y.length ≤ sizeLine) : ME X cl (.BinOp (.Constant (.str c) k1 p1) .Mult (.Constant (.int n) k2 p2) pos) (eK (.str y)) := by
  subst hy
  refine ⟨fun env Q Q' k q => k _ q, PEmono (pe_op op_rep pe_str pe_int) fun σ H Q ⟨β, G, env, r0, q⟩ => ?_⟩
  exact ⟨c, n, rfl, rfl, h, q _ H G (Ext.refl r0.gh) (by unfold Rep; rfl)⟩
end C
namespace C
open PySem PySem.Spec PyProof.Rows L2
/-! ### g = [list(..), list(..)]; c = D(g[0], g[1]); g[0].append(..); g[1].append(..): the two lists are seen by __init__ alone -/
section
variable {K : PySem.W.Frag} {cl : Nat → Addr} {H H' G G' : Hp} {β : Bs} {σ : L2.St} {env : Env} {X : List Addr}
/-- what a slot that is not told holds does not matter -/
theorem R.junk (r : R K cl β σ H G env X) {i : Nat} (hi : env[i]? = some .un) (v : Option V) : R K cl β (σ.set i v) H G env X := by
  obtain ⟨fp, s1, s2, s3, s4⟩ := r.sl
  refine ⟨by rw [List.length_set, r.len], r.g0, r.gh, r.hk, r.gk, fp, fun j s hs => ?_, s2, s3, s4⟩
  by_cases e : j = i
  · subst e
    rw [hi] at hs; cases hs
    have := s1 j _ hi
    unfold SRep at this ⊢
    exact this
  · have : (σ.set i v).getD j none = σ.getD j none := by rw [List.getD_eq_getElem?_getD, List.getD_eq_getElem?_getD, List.getElem?_set_ne (Ne.symm e)]
    rw [this]
    exact s1 j s hs
/-- one thing more that is owned, as a slot behind the others -/
theorem R.push {fp0 : List Addr} {o : OV} {v : V} (r : R K cl β σ H G env (fp0 ++ X)) (hr : RepO K cl H G o v fp0) (hd : ∀ b ∈ fp0, b ∉ X) : R K cl β (σ ++ [some v]) H G (env ++ [.ow o]) X := by
  obtain ⟨fp, s1, s2, s3, s4⟩ := r.sl
  have len := r.len
  refine ⟨by rw [List.length_append, List.length_append, r.len]; rfl, r.g0, r.gh, r.hk, r.gk, fun j => if j = env.length then fp0 else fp j, fun j s hs => ?_, fun j b hj hb => ?_, fun j k b hj hk h1 h2 => ?_, fun b hb => ?_⟩
  all_goals (try dsimp only at *)
  · by_cases e : j = env.length
    · subst e
      rw [if_pos rfl]
      rw [List.getElem?_append_right (Nat.le_refl _), Nat.sub_self] at hs
      cases hs
      unfold SRep
      refine ⟨v, ?_, hr⟩
      rw [List.getD_eq_getElem?_getD, len, List.getElem?_append_right (Nat.le_refl _), Nat.sub_self]
      rfl
    · rw [if_neg e]
      have hj : j < env.length := by
        have := (List.getElem?_eq_some_iff.mp hs).1
        rw [List.length_append, List.length_singleton] at this
        omega
      rw [List.getElem?_append_left hj] at hs
      have : (σ ++ [some v]).getD j none = σ.getD j none := by rw [List.getD_eq_getElem?_getD, List.getD_eq_getElem?_getD, List.getElem?_append_left (by omega)]
      rw [this]
      exact s1 j s hs
  · rw [List.length_append, List.length_singleton] at hj
    by_cases e : j = env.length
    · rw [if_pos e] at hb
      have := s4 b (List.mem_append_left _ hb)
      exact ⟨this.2.1, this.2.2.1⟩
    · rw [if_neg e] at hb
      exact s2 j b (by omega) hb
  · rw [List.length_append, List.length_singleton] at hj hk
    by_cases e : j = env.length
    · by_cases e' : k = env.length
      · exact e.trans e'.symm
      · rw [if_pos e] at h1; rw [if_neg e'] at h2
        exact absurd h2 ((s4 b (List.mem_append_left _ h1)).2.2.2 k (by omega))
    · by_cases e' : k = env.length
      · rw [if_neg e] at h1; rw [if_pos e'] at h2
        exact absurd h1 ((s4 b (List.mem_append_left _ h2)).2.2.2 j (by omega))
      · rw [if_neg e] at h1; rw [if_neg e'] at h2
        exact s3 j k b (by omega) (by omega) h1 h2
  · obtain ⟨h1, h2, h3, h4⟩ := s4 b (List.mem_append_right _ hb)
    refine ⟨h1, h2, h3, fun j hj z => ?_⟩
    rw [List.length_append, List.length_singleton] at hj
    by_cases e : j = env.length
    · rw [if_pos e] at z
      exact hd b z hb
    · rw [if_neg e] at z
      exact h4 j (by omega) z
end
section
variable {X : Cx} {cl : Nat → Addr} {W : WX} {e1 e2 a1 a2 : Expr} {n1 n2 : NX} {f1 f2 : EX} {x y : Str} {g c : Nat} {s : SX} {rest : List Stmt}
def sGiven (g c cc : Nat) (n1 n2 : NX) (F : FX) (f1 f2 : EX) (s : SX) : SX := fun env k => n1 env fun o1 => lstO o1 fun m1 => n2 env fun o2 => lstO o2 fun m2 => (g < env.length ∧ c < env.length ∧ g ≠ c) ∧
  F [.rf (.obj cc []), .bo (.lst m1), .bo (.lst m2)] (fun o env' => isNon o = true ∧ match env' with
    | .rf o' :: _ => match frz o' with
      | some m => forceL ((env.set g .un).set c (.ow (.fro m))) fun en => f1 en fun _ => f2 en fun _ => s en k
      | none => False
    | _ => False) (fun _ => False)
theorem mss_given {k : Nat} {f : Addr} {F : FX} {cc : Nat} {dn : Str} {p1 p2 p3 p4 p5 p6 p7 p8 p9 q1 q2 q3 q4 q5 q6 q7 q8 q9 r1 r2 r3 r4 r5 r6 t1 : Pos} {j1 j2 j3 j4 : Nat} (hN : X.N.Nodup) (hF : FB X.prog X.w X.K X.mg X.base cl k 3 f F) (hr : Room (k + 1) X.A) (hM : Mk X.K (cl cc) f) (hC : COk X.K cl cc 0) (gl : Gl X dn) (hm : X.mg dn = some (.ref (cl cc)))
    (h1 : MN X cl e1 n1) (h2 : MN X cl e2 n2) (k1 : ME X cl a1 f1) (k2 : ME X cl a2 f2) (hs : MSs X cl W rest s) (hdb : (dn == ("__debug__" : Str)) = false := by decide)
    (hg : X.N[g]? = some x := by rfl) (hx : Loc X.env.scope x := by first | exact Or.inl rfl | exact Or.inr rfl) (hxf : X.fn x = true ∨ X.env.scope.names.lookup x = some .local := by first | exact .inl rfl | exact .inr rfl | assumption) (hv : Vis X.env.scope x := by first | exact Or.inl rfl | exact Or.inr rfl)
    (hxd : (x == ("__debug__" : Str)) = false := by decide) (hxc : (x == ("__classdict__" : Str)) = false := by decide)
    (hc : X.N[c]? = some y := by rfl) (hy : Loc X.env.scope y := by first | exact Or.inl rfl | exact Or.inr rfl) (hyf : X.fn y = true ∨ X.env.scope.names.lookup y = some .local := by first | exact .inl rfl | exact .inr rfl | assumption)
    (s1 : starEach [e1, e2] X.env = (false, eval e1 X.env) :: starEach [e2] X.env := by rfl) (s2 : starEach [e2] X.env = (false, eval e2 X.env) :: starEach [] X.env := by rfl)
    (w1 : swapsWith (.List [e1, e2] p1) (some (.Name x p2)) p3.line X.env = pure false := by rfl)
    (s3 : starEach [.Subscript (.Name x q1) (.Constant (.int 0) j1 q2) q3, .Subscript (.Name x q4) (.Constant (.int 1) j2 q5) q6] X.env = (false, eval (.Subscript (.Name x q1) (.Constant (.int 0) j1 q2) q3) X.env) :: starEach [.Subscript (.Name x q4) (.Constant (.int 1) j2 q5) q6] X.env := by rfl)
    (s4 : starEach [.Subscript (.Name x q4) (.Constant (.int 1) j2 q5) q6] X.env = (false, eval (.Subscript (.Name x q4) (.Constant (.int 1) j2 q5) q6) X.env) :: starEach [] X.env := by rfl)
    (hpl : (backTo p4 (starEach [.Subscript (.Name x q4) (.Constant (.int 1) j2 q5) q6] X.env)).any (·.1) = false := by rfl)
    (w2 : swapsWith (.Call (.Name dn p5) [.Subscript (.Name x q1) (.Constant (.int 0) j1 q2) q3, .Subscript (.Name x q4) (.Constant (.int 1) j2 q5) q6] [] p4) (some (.Name y p6)) p7.line X.env = pure false := by rfl)
    (px1 : PlainIx (.Constant (.int 0) j1 q2) := by exact fun _ _ => rfl) (px2 : PlainIx (.Constant (.int 1) j2 q5) := by exact fun _ _ => rfl)
    (px3 : PlainIx (.Constant (.int 0) j3 q8) := by exact fun _ _ => rfl) (px4 : PlainIx (.Constant (.int 1) j4 r3) := by exact fun _ _ => rfl)
    (he1 : starEach [a1] X.env = (false, eval a1 X.env) :: starEach [] X.env := by rfl) (he2 : starEach [a2] X.env = (false, eval a2 X.env) :: starEach [] X.env := by rfl)
    (b1 : attributeBase (.Subscript (.Name x q7) (.Constant (.int 0) j3 q8) q9) "append" X.env (eval (.Subscript (.Name x q7) (.Constant (.int 0) j3 q8) q9) X.env) = eval (.Subscript (.Name x q7) (.Constant (.int 0) j3 q8) q9) X.env := by rfl)
    (b2 : attributeBase (.Subscript (.Name x r2) (.Constant (.int 1) j4 r3) r4) "append" X.env (eval (.Subscript (.Name x r2) (.Constant (.int 1) j4 r3) r4) X.env) = eval (.Subscript (.Name x r2) (.Constant (.int 1) j4 r3) r4) X.env := by rfl)
    (few1 : ((backTo p8 (starEach [a1] X.env)).all (fun x => !x.1) && (backToKw p8 (keywordEach [] X.env)).all (fun x => x.1.isSome) && decide ([a1].length + ([] : List Keyword).length + (if ([] : List Keyword).isEmpty then 0 else 1) < 30)) = true := by rfl)
    (few2 : ((backTo r5 (starEach [a2] X.env)).all (fun x => !x.1) && (backToKw r5 (keywordEach [] X.env)).all (fun x => x.1.isSome) && decide ([a2].length + ([] : List Keyword).length + (if ([] : List Keyword).isEmpty then 0 else 1) < 30)) = true := by rfl)
    (l1 : (r1.endLine == p8.line) = true := by rfl) (l2 : (r6.endLine == r5.line) = true := by rfl)
    (w3 : swapsWith (.Call (.Attribute (.Subscript (.Name x q7) (.Constant (.int 0) j3 q8) q9) "append" r1) [a1] [] p8) none p9.line X.env = pure false := by rfl)
    (w4 : swapsWith (.Call (.Attribute (.Subscript (.Name x r2) (.Constant (.int 1) j4 r3) r4) "append" r6) [a2] [] r5) none t1.line X.env = pure false := by rfl) :
    MSs X cl W (.Assign [.Name x p2] (.List [e1, e2] p1) p3 :: .Assign [.Name y p6] (.Call (.Name dn p5) [.Subscript (.Name x q1) (.Constant (.int 0) j1 q2) q3, .Subscript (.Name x q4) (.Constant (.int 1) j2 q5) q6] [] p4) p7 ::
      .Expr (.Call (.Attribute (.Subscript (.Name x q7) (.Constant (.int 0) j3 q8) q9) "append" r1) [a1] [] p8) p9 :: .Expr (.Call (.Attribute (.Subscript (.Name x r2) (.Constant (.int 1) j4 r3) r4) "append" r6) [a2] [] r5) t1 :: rest) (sGiven g c cc n1 n2 F f1 f2 s) := by
  obtain ⟨fd, ps, F0, hb⟩ := hF.ex
  have mo := hF.mo X.A (hr.mono (Nat.le_succ k))
  have S1 := ps_set (X := X) (pos := p3) (i := g) hN hg hx (pe_lst (pos := p1) (pa_cons h1.pe (pa_cons h2.pe pa_nil s2) s1)) w1 hxf
  have ix0 := pe_ix (X := X) (pos := q3) ix_list (pe_var (pos := q1) hg hv hxd hxc) (pe_int (i := 0) (j := j1) (pos := q2)) px1
  have ix1 := pe_ix (X := X) (pos := q6) ix_list (pe_var (pos := q4) hg hv hxd hxc) (pe_int (i := 1) (j := j2) (pos := q5)) px2
  have ix2 := pe_ix (X := X) (pos := q9) ix_list (pe_var (pos := q7) hg hv hxd hxc) (pe_int (i := 0) (j := j3) (pos := q8)) px3
  have ix3 := pe_ix (X := X) (pos := r4) ix_list (pe_var (pos := r2) hg hv hxd hxc) (pe_int (i := 1) (j := j4) (pos := r3)) px4
  have S2 := ps_set (X := X) (pos := p7) (i := c) hN hc hy (pe_make (E := E0) hM F0 hr gl hm hb .nil pass0 (pa_cons ix0 (pa_cons ix1 pa_nil s4) s3) hdb s3 hpl) w2 hyf
  have S3 := ps_expr (X := X) (pos := p9) (pe_bm (cpos := p8) (apos := r1) PySem.F.plainAttrs_list PySem.F.slot_list_append PySem.F.type_list_append mt_append ix2 (pa_cons k1.pe pa_nil he1) b1 few1 l1 he1 rfl) w3
  have S4 := ps_expr (X := X) (pos := t1) (pe_bm (cpos := r5) (apos := r6) PySem.F.plainAttrs_list PySem.F.slot_list_append PySem.F.type_list_append mt_append ix3 (pa_cons k2.pe pa_nil he2) b2 few2 l2 he2 rfl) w4
  refine ⟨fun env k k' l q => h1.mo _ _ _ (fun o z => lstO_mo (fun m z => h2.mo _ _ _ (fun o z => lstO_mo (fun m z => ⟨z.1, mo _ _ _ _ _ (fun o e z => ⟨z.1, ?_⟩) (fun _ z => z) z.2⟩) z) z) z) q, PSsmono (pss_cons S1 (pss_cons S2 (pss_cons S3 (pss_cons S4 hs.ps)))) fun D σ H ⟨β, G, env, r0, q⟩ => ?_⟩
  · have z2 := z.2
    split at z2
    · split at z2
      case h_2 => exact z2.elim
      rw [forceL_eq] at z2 ⊢
      exact k1.mo _ _ _ (fun _ z => k2.mo _ _ _ (fun _ z => hs.mo _ _ _ l z) z) z2
    · exact z2.elim
  refine ⟨β, G, env, r0, h1.mo _ _ _ (fun o1 z v1 H1 G1 X1 x1 ro1 f1' => ?_) q⟩
  obtain ⟨q1, vs1, ms1, rfl, rfl, rfl, A1, B1, C1, z⟩ := repl ro1 z
  have g1 := f1' q1 (by simp)
  refine ⟨β, G1, env, r0.ext x1, h2.mo _ _ _ (fun o2 z v2 H2 G2 X2 x2 ro2 f2' => ?_) z⟩
  obtain ⟨q2, vs2, ms2, rfl, rfl, rfl, A2, B2, C2, z⟩ := repl ro2 z
  have g2 := f2' q2 (by simp)
  refine ⟨(by decide : 2 ≤ sizeLine), fun p hp0 => ?_⟩
  obtain ⟨⟨gl1, gl2, gne⟩, z⟩ := z
  have gσ : g < σ.length := by rw [← r0.len]; exact gl1
  have cσ : c < σ.length := by rw [← r0.len]; exact gl2
  have A1' : H2 q1 = some (.lst vs1) := x2.hh _ _ A1
  have d21 : q2 ≠ q1 := fun y => by rw [y] at g2; exact g1.2.2 g2.1
  have dp1 : q1 ≠ p := fun y => by rw [y, hp0] at A1'; cases A1'
  have dp2 : q2 ≠ p := fun y => by rw [y, hp0] at A2; cases A2
  obtain ⟨HP, hHP⟩ : ∃ HP, HP = upd H2 p (.lst [.ref q1, .ref q2]) := ⟨_, rfl⟩
  have P0 : HP p = some (.lst [.ref q1, .ref q2]) := by rw [hHP]; exact upd_same
  have M1 : HP q1 = some (.lst vs1) := by rw [hHP, upd_ne dp1]; exact A1'
  have M2 : HP q2 = some (.lst vs2) := by rw [hHP, upd_ne dp2]; exact A2
  have x12 := x1.trans x2
  have eP : Ext H G HP G2 := by rw [hHP]; exact x12.trans (Ext.new0 x2.gh hp0)
  have n1 : H q1 = none := g1.1
  have n2 : H q2 = none := x1.hh.free g2.1
  have np : H p = none := x12.hh.free hp0
  have G21 : G2 q1 = none := x2.gn _ g1.2.2 g1.2.1
  have G22 : G2 q2 = none := g2.2.1
  have lv1 : vs1.length < sizeLine := by rw [Reps.len _ _ B1]; exact C1
  have lv2 : vs2.length < sizeLine := by rw [Reps.len _ _ B2]; exact C2
  rw [← hHP]
  have hun : (env.set g .un)[g]? = some .un := List.getElem?_set_self gl1
  have J : ∀ (Hn Gn : Hp) (o : OV) (v : V) (Xc : List Addr), Ext H G Hn Gn → (∀ b ∈ Xc, H b = none ∧ Gn b = none ∧ Hn b ≠ none) → RepO X.K cl Hn Gn o v Xc → R X.K cl β ((σ.set g (some (.ref p))).set c (some v)) Hn Gn ((env.set g .un).set c (.ow o)) [] := fun Hn Gn o v Xc e hz ro => by
    have r1 := ((r0.extX e hz).unset g).junk hun (some (.ref p))
    rw [List.set_set] at r1
    exact r1.setv (by rw [List.length_set]; exact gl2) ro
  have hσ : (σ.set g (some (.ref p)))[g]? = some (some (.ref p)) := List.getElem?_set_self gσ
  have hσ2 : ∀ v, ((σ.set g (some (.ref p))).set c (some v))[g]? = some (some (.ref p)) := fun v => by rw [List.getElem?_set_ne (Ne.symm gne)]; exact hσ
  refine ⟨.ref p, hσ, p, _, 0, .ref q1, rfl, rfl, SqL.of P0, atI_nat (j := 0) rfl, .ref p, hσ, p, _, 1, .ref q2, rfl, rfl, SqL.of P0, atI_nat (j := 1) rfl, fun xx dx hxx hdx hne => ?_⟩
  have rv : R X.K cl β (σ.set g (some (.ref p)) ++ [some (.ref q1)] ++ [some (.ref q2)]) HP G2 (env.set g .un ++ [.ow (.lst ms1)] ++ [.ow (.lst ms2)]) [] := by
    have r1 := ((r0.extX (Z := [q1] ++ ([q2] ++ [])) eP (fun b hb => by
      rcases List.mem_append.mp hb with w | w
      · rw [List.mem_singleton.mp w]; exact ⟨n1, G21, by rw [M1]; simp⟩
      · rw [List.append_nil] at w
        rw [List.mem_singleton.mp w]; exact ⟨n2, G22, by rw [M2]; simp⟩)).unset g).junk hun (some (.ref p))
    rw [List.set_set] at r1
    have o1 : RepO X.K cl HP G2 (.lst ms1) (.ref q1) [q1] := by
      unfold RepO
      exact ⟨q1, vs1, rfl, rfl, M1, Reps.same x2.gg _ _ B1⟩
    have o2 : RepO X.K cl HP G2 (.lst ms2) (.ref q2) [q2] := by
      unfold RepO
      exact ⟨q2, vs2, rfl, rfl, M2, B2⟩
    refine R.push (R.push r1 o1 fun b hb w => ?_) o2 fun b _ w => by cases w
    rw [List.append_nil] at w
    rw [List.mem_singleton.mp hb] at w
    exact d21 (List.mem_singleton.mp w).symm
  have le1 : (env.set g .un).length = env.length := List.length_set
  have ls1 : (σ.set g (some (.ref p))).length = σ.length := List.length_set
  have lev : env.length = σ.length := r0.len
  have e1v : (env.set g .un ++ [Slot.ow (.lst ms1)] ++ [Slot.ow (.lst ms2)])[env.length]? = some (.ow (.lst ms1)) := by
    rw [List.append_assoc, List.getElem?_append_right (by omega), le1, Nat.sub_self]; rfl
  have e2v : (env.set g .un ++ [Slot.ow (.lst ms1)] ++ [Slot.ow (.lst ms2)])[env.length + 1]? = some (.ow (.lst ms2)) := by
    rw [List.append_assoc, List.getElem?_append_right (by omega), le1, show env.length + 1 - env.length = 1 by omega]; rfl
  have s1v : (σ.set g (some (.ref p)) ++ [some (V.ref q1)] ++ [some (V.ref q2)])[env.length]? = some (some (.ref q1)) := by
    rw [List.append_assoc, List.getElem?_append_right (by omega), ls1, lev, Nat.sub_self]; rfl
  have s2v : (σ.set g (some (.ref p)) ++ [some (V.ref q1)] ++ [some (V.ref q2)])[env.length + 1]? = some (some (.ref q2)) := by
    rw [List.append_assoc, List.getElem?_append_right (by omega), ls1, show env.length + 1 - σ.length = 1 by omega]; rfl
  have hsl : arSlots (env.set g .un ++ [Slot.ow (.lst ms1)] ++ [Slot.ow (.lst ms2)]) [.br env.length [], .br (env.length + 1) []] = some [.bo (.lst ms1), .bo (.lst ms2)] := by
    unfold arSlots getP
    rw [e1v]
    dsimp only
    unfold arSlots getP
    rw [e2v]
    rfl
  refine make_in (Q := fun x H1 => gName c x (List.set σ g (some (V.ref p))) H1 (tSeq _ _ D)) (n := 3) (c := cc) (as := [.br env.length [], .br (env.length + 1) []]) (vs := [.ref q1, .ref q2]) mo hC rv ?_ ?_ xx dx hxx hdx hne
  · unfold ArReps
    refine ⟨_, _, rfl, ⟨.ref q1, s1v, rfl⟩, ?_⟩
    unfold ArReps
    exact ⟨_, _, rfl, ⟨.ref q2, s2v, rfl⟩, rfl⟩
  rw [hsl]
  refine ⟨rfl, mo _ _ _ _ _ (fun o env' w => ⟨w.1, ?_⟩) (fun _ w => w) z⟩
  have w2 := w.2
  split at w2
  case h_2 => exact w2.elim
  rename_i oN _
  split at w2
  case h_2 => exact w2.elim
  rename_i mN hfr
  rw [forceL_eq] at w2
  intro v H3 G3n Xn e3n ro3n hX3n
  obtain ⟨G3, hG3⟩ : ∃ G3, G3 = frzG H3 G3n Xn := ⟨_, rfl⟩
  have e3 : Ext HP G2 H3 G3 := by rw [hG3]; exact e3n.frz (fun b hb => (hX3n b hb).1) fun b hb => (hX3n b hb).2.1
  obtain ⟨o', ho'⟩ : ∃ o', o' = OV.fro mN := ⟨_, rfl⟩
  obtain ⟨Xc, hXc⟩ : ∃ Xc : List Addr, Xc = [] := ⟨_, rfl⟩
  have ro3 : RepO X.K cl H3 G3 o' v Xc := by
    rw [ho', hXc, hG3]
    unfold RepO
    exact ⟨rfl, frz_rep ro3n (fun b hb => (hX3n b hb).2.1) hfr⟩
  have hX3 : ∀ b ∈ Xc, HP b = none ∧ G3 b = none ∧ H3 b ≠ none := fun b hb => by rw [hXc] at hb; cases hb
  rw [← ho'] at w2
  have E3 := eP.trans e3
  have hX3' : ∀ b ∈ Xc, H b = none ∧ G3 b = none ∧ H3 b ≠ none := fun b hb => ⟨eP.hh.free (hX3 b hb).1, (hX3 b hb).2⟩
  have r3 := J H3 G3 o' v Xc E3 hX3' ro3
  have P3 := e3.hh _ _ P0
  have M13 := e3.hh _ _ M1
  have M23 := e3.hh _ _ M2
  have G31 : G3 q1 = none := e3.gn _ (by rw [M1]; simp) G21
  have G32 : G3 q2 = none := e3.gn _ (by rw [M2]; simp) G22
  have c1 : q1 ∉ Xc := fun y => by have := (hX3 q1 y).1; rw [M1] at this; cases this
  have c2 : q2 ∉ Xc := fun y => by have := (hX3 q2 y).1; rw [M2] at this; cases this
  -- the first append
  refine ⟨.ref p, hσ2 v, p, _, 0, .ref q1, rfl, rfl, SqL.of P3, atI_nat (j := 0) rfl, .inl ⟨rfl, vs1, SqL.of M13⟩, ?_⟩
  refine ⟨β, G3, _, r3, k1.mo _ _ _ (fun m1 z v1 H4 G4 e4 rm1 => ?_) w2⟩
  have M14 := e4.hh _ _ M13
  refine ⟨q1, vs1, v1, rfl, rfl, M14, lv1, ?_⟩
  obtain ⟨H5, hH5⟩ : ∃ H5, H5 = upd H4 q1 (.lst (vs1 ++ [v1])) := ⟨_, rfl⟩
  have E4 := E3.trans e4
  have G41 : G4 q1 = none := e4.gn _ (by rw [M13]; simp) G31
  have G42 : G4 q2 = none := e4.gn _ (by rw [M23]; simp) G32
  have E5 : Ext H G H5 G4 := by
    rw [hH5]
    refine ⟨fun b u y => ?_, E4.gg, fun b u y => ?_, E4.gn⟩
    · rw [upd_ne (ne_of_none y n1)]; exact E4.hh b u y
    · rw [upd_ne (ne_of_none y G41)]; exact e4.gh b u y
  have f45 : ∀ b, b ≠ q1 → H5 b = H4 b := fun b y => by rw [hH5, upd_ne y]
  have ro5 : RepO X.K cl H5 G4 o' v Xc := RepO.frame e4.gg _ _ _ (fun b hb u y => by
    rw [f45 b fun w => c1 (w ▸ hb)]; exact e4.hh _ _ y) ro3
  have hX5 : ∀ b ∈ Xc, H b = none ∧ G4 b = none ∧ H5 b ≠ none := fun b hb => by
    refine ⟨(hX3' b hb).1, e4.gn b (hX3' b hb).2.2 (hX3' b hb).2.1, ?_⟩
    obtain ⟨u, hu⟩ := Option.ne_none_iff_exists'.mp (hX3' b hb).2.2
    rw [f45 b fun w => c1 (w ▸ hb), e4.hh _ _ hu]; simp
  have r5 := J H5 G4 o' v Xc E5 hX5 ro5
  have P5 : H5 p = some (.lst [.ref q1, .ref q2]) := by rw [f45 p (Ne.symm dp1)]; exact e4.hh _ _ P3
  have M25 : H5 q2 = some (.lst vs2) := by rw [f45 q2 d21]; exact e4.hh _ _ M23
  rw [← hH5]
  -- the second
  refine ⟨.ref p, hσ2 v, p, _, 1, .ref q2, rfl, rfl, SqL.of P5, atI_nat (j := 1) rfl, .inl ⟨rfl, vs2, SqL.of M25⟩, ?_⟩
  refine ⟨β, G4, _, r5, k2.mo _ _ _ (fun m2 z v2 H6 G6 e6 rm2 => ?_) z⟩
  have M26 := e6.hh _ _ M25
  refine ⟨q2, vs2, v2, rfl, rfl, M26, lv2, ?_⟩
  obtain ⟨H7, hH7⟩ : ∃ H7, H7 = upd H6 q2 (.lst (vs2 ++ [v2])) := ⟨_, rfl⟩
  have E6 := E5.trans e6
  have G62 : G6 q2 = none := e6.gn _ (by rw [M25]; simp) G42
  have E7 : Ext H G H7 G6 := by
    rw [hH7]
    refine ⟨fun b u y => ?_, E6.gg, fun b u y => ?_, E6.gn⟩
    · rw [upd_ne (ne_of_none y n2)]; exact E6.hh b u y
    · rw [upd_ne (ne_of_none y G62)]; exact e6.gh b u y
  have f67 : ∀ b, b ≠ q2 → H7 b = H6 b := fun b y => by rw [hH7, upd_ne y]
  have ro7 : RepO X.K cl H7 G6 o' v Xc := RepO.frame e6.gg _ _ _ (fun b hb u y => by
    rw [f67 b fun w => c2 (w ▸ hb)]; exact e6.hh _ _ y) ro5
  have hX7 : ∀ b ∈ Xc, H b = none ∧ G6 b = none ∧ H7 b ≠ none := fun b hb => by
    refine ⟨(hX5 b hb).1, e6.gn b (hX5 b hb).2.2 (hX5 b hb).2.1, ?_⟩
    obtain ⟨u, hu⟩ := Option.ne_none_iff_exists'.mp (hX5 b hb).2.2
    rw [f67 b fun w => c2 (w ▸ hb), e6.hh _ _ hu]; simp
  have r7 := J H7 G6 o' v Xc E7 hX7 ro7
  rw [← hH7]
  exact ⟨β, G6, _, r7, hs.mo _ _ _ (kOf_le E7.gg) z⟩
end
end C
namespace C
open PySem PySem.Spec PyProof.Rows L2
/-! ### o.m(..) that changes o and may raise, in a def that may raise -/
section
variable {X : Cx} {cl : Nat → Addr} {Cv : Addr} {E : XK} {a b c e : Expr} {es : List Expr} {ga : AX} {na : NX} {pos p : Pos} {x : Str}
theorem passE {X : Cx} {E : XK} (tk : Takes X (fun cls d _ H => E cls d H)) : Passes (L2.CX X.prog X.w) X E := fun pins σ H s e s' I h => passAt tk σ pins H s e s' I h
def xCallX (n : Nat) (F : FX) (ga : AX) : XX := fun env Q E => ga env fun as => match arSlots env as with
  | some ss => (arOk (muS as) as && Nat.beq as.length n) = true ∧ F ss (fun o env' => match backE env as env' with
    | some env2 => Q o env2
    | none => False) E
  | none => False
theorem xCallX_mo {n : Nat} {F : FX} {ga : AX} (hg : ∀ env (Q Q' : List Ar → Prop), (∀ m, Q m → Q' m) → ga env Q → ga env Q') (hF : FMono F) : ∀ env (Q Q' : OV → Env → Prop) (E E' : Int → Prop), (∀ o e, Q o e → Q' o e) → (∀ n, E n → E' n) → xCallX n F ga env Q E → xCallX n F ga env Q' E' := fun env Q Q' E E' k ke q => hg _ _ _ (fun as z => by
  cases h : arSlots env as with
  | none => rw [h] at z; exact z
  | some ss =>
    rw [h] at z
    refine ⟨z.1, hF _ _ _ _ _ (fun o e w => ?_) ke z.2⟩
    split at w
    · exact k _ _ w
    · exact w.elim) q
/-- an error of the callee's, for the caller's base -/
theorem BaseOk.up {K : PySem.W.Frag} {cl : Nat → Addr} {β : Bs} {σ : L2.St} {H G H2 G2 : Hp} {env : Env} {Fl : Addr → Prop} {vs : L2.St} (r : R K cl β σ H G env []) (hF : ∀ b, Fl b → G b = none ∧ (β.H b = none ∨ β.F b)) (b : BaseOk ⟨H, G, Fl, vs⟩ H2 G2) : BaseOk β H2 G2 := by
  have nF : ∀ x u, β.H x = some u → ¬ β.F x → ¬ Fl x := fun x u h n z => by
    rcases (hF x z).2 with y | y
    · rw [h] at y; cases y
    · exact n y
  refine ⟨r.g0.trans b.g0, b.gh, fun x u h n => b.hk x u (r.hk x u h n) (nF x u h n), fun x h n q => ?_⟩
  obtain ⟨u, hu⟩ := Option.ne_none_iff_exists'.mp h
  exact b.gk x (by show H x ≠ none; rw [r.hk x u hu n]; simp) (nF x u hu n) (r.gk x h n q)
theorem xCallX_in {n : Nat} {F : FX} (mo : FMono F) {σ : L2.St} {β : Bs} {H G H' G' : Hp} {env : Env} {as : List Ar} {vs : List V} {Q : VK} (r0 : R X.K cl β σ H G env []) (e : Ext H G H' G') (rs : ArReps X.K cl σ H' G' as vs)
    (z : match arSlots env as with
      | some ss => (arOk (muS as) as && Nat.beq as.length n) = true ∧ F ss (fun o env' => match backE env as env' with
        | some env2 => ∀ v H' G' X_, R X.K cl β σ H' G' env2 X_ → Same G G' → RepO X.K cl H' G' o v X_ → Q v H'
        | none => False) (WofE Cv E β)
      | none => False) : spX X.K cl Cv n F vs H' Q E := by
  cases h : arSlots env as with
  | none => rw [h] at z; exact z.elim
  | some ss =>
    rw [h] at z
    have z1 := z.1
    rw [Bool.and_eq_true] at z1
    obtain ⟨Fl, r1, back, hFl⟩ := (r0.ext e).callG rs h z1.1
    refine ⟨by rw [rs.len]; exact Nat.eq_of_beq_eq_true z1.2, G', Fl, ss, r1, mo _ _ _ _ _ (fun o env' w v σ' H2 G2 X2 r2 ro => ?_) (fun n w H2 G2 dd bo hd => ?_) z.2⟩
    · split at w
      · rename_i env2 hb
        exact w v H2 G2 X2 (back _ _ _ _ _ _ r2 hb) (e.gg.trans r2.g0) ro
      · exact w.elim
    · exact w H2 G2 dd (BaseOk.up (r0.ext e) (fun b hb => (hFl b hb).2) bo) hd
theorem mx_methX {k n : Nat} {f : Addr} {F : FX} {rx : RX} {o : Expr} {m : Str} {apos : Pos} {pl : Sem Bool} (c : Nat) (hF : FBX X.prog X.w X.K X.mg X.base cl Cv k n f F) (tk : Takes X (fun cls d _ H => E cls d H)) (hr : Room k X.A) (hx : MR X cl o rx) (hC : Cls X.K (cl c)) (hM : Meth X.K (cl c) m f) (hno : ∀ f ∈ fsOf c, fn f ≠ m) (ha : MA X cl (e :: es) ga)
    (hst : starEach (e :: es) X.env = (false, eval e X.env) :: starEach es X.env := by rfl) (hpl : (backTo pos (starEach es X.env)).any (·.1) = false := by rfl)
    (ht : eval (.Call (.Attribute o m apos) (e :: es) [] pos) X.env = (do
      let ov ← eval o X.env
      standAt apos.atName
      let (f, first) ← holding [ov] (getMethod ov m pl)
      callWith pos f first (backTo pos (starEach (e :: es) X.env)) (backToKw pos (keywordEach [] X.env))) := by rfl) : MX X cl (WofE Cv E) (.Call (.Attribute o m apos) (e :: es) [] pos) (xCallX n F (rcG c rx ga)) := by
  obtain ⟨fd, ps, F0, hb⟩ := hF.ex
  refine ⟨xCallX_mo (rcG_mo hx.mo ha.mo) (hF.mo X.A hr), PEmono (pe_meth (E := E) hx.pe hC hM F0 hr hb .nil (passE tk) ha.pa hst hpl ht) fun σ H Q ⟨β, G, env, r0, q⟩ => ?_⟩
  exact meth_in (n := n) hx ha hno r0 (rcG_mo hx.mo ha.mo _ _ _ (fun as z vs H' G' e rs => xCallX_in (hF.mo X.A hr) r0 e rs z) q)
theorem mx_methX0 {k n : Nat} {f : Addr} {F : FX} {rx : RX} {o : Expr} {m : Str} {apos : Pos} {pl : Sem Bool} (c : Nat) (hF : FBX X.prog X.w X.K X.mg X.base cl Cv k n f F) (tk : Takes X (fun cls d _ H => E cls d H)) (hr : Room k X.A) (hx : MR X cl o rx) (hC : Cls X.K (cl c)) (hM : Meth X.K (cl c) m f) (hno : ∀ f ∈ fsOf c, fn f ≠ m)
    (ht : eval (.Call (.Attribute o m apos) [] [] pos) X.env = (do
      let ov ← eval o X.env
      standAt apos.atName
      let (f, first) ← holding [ov] (getMethod ov m pl)
      callWith pos f first (backTo pos (starEach [] X.env)) (backToKw pos (keywordEach [] X.env))) := by rfl) : MX X cl (WofE Cv E) (.Call (.Attribute o m apos) [] [] pos) (xCallX n F (rcG c rx aN)) := by
  obtain ⟨fd, ps, F0, hb⟩ := hF.ex
  have ha : MA X cl [] aN := ma_nil
  refine ⟨xCallX_mo (rcG_mo hx.mo ha.mo) (hF.mo X.A hr), PEmono (pe_meth0 (E := E) hx.pe hC hM F0 hr hb .nil (passE tk) ht) fun σ H Q ⟨β, G, env, r0, q⟩ => ?_⟩
  obtain ⟨β', G', env', r1, q1⟩ := meth_in (n := n) (sp := spX X.K cl Cv n F) (E := E) hx ha hno r0 (rcG_mo hx.mo ha.mo _ _ _ (fun as z vs H' G' e rs => xCallX_in (hF.mo X.A hr) r0 e rs z) q)
  refine ⟨β', G', env', r1, hx.mo _ _ _ (fun r z v H2 G2 e2 rr => ?_) q1⟩
  obtain ⟨a, dx, fs, h1, h2, h3, β3, G3, env3, r3, h4⟩ := z v H2 G2 e2 rr
  exact ⟨a, dx, fs, h1, h2, h3, h4 [] H2 G3 (Ext.refl r3.gh) rfl⟩
/-- C(..).m(), m may raise -/
def zMk0 (c : Nat) (F : FX) (na : NX) : ZX := fun env Q E => na env fun o => match o with
  | .obj c' fs => Nat.beq c' c = true ∧ F [.rf (.obj c' fs)] (fun r _ => Q r) E
  | _ => False
theorem mz_mk0 {k : Nat} {f : Addr} {F : FX} {m : Str} {apos : Pos} {pl : Sem Bool} (c : Nat) (hF : FBX X.prog X.w X.K X.mg X.base cl Cv k 1 f F) (tk : Takes X (fun cls d _ H => E cls d H)) (hr : Room k X.A) (ho : MN X cl a na) (hC : Cls X.K (cl c)) (hM : Meth X.K (cl c) m f) (hno : ∀ f ∈ fsOf c, fn f ≠ m)
    (ht : eval (.Call (.Attribute a m apos) [] [] pos) X.env = (do
      let ov ← eval a X.env
      standAt apos.atName
      let (f, first) ← holding [ov] (getMethod ov m pl)
      callWith pos f first (backTo pos (starEach [] X.env)) (backToKw pos (keywordEach [] X.env))) := by rfl) : MZ X cl Cv (fun cls d _ H => E cls d H) (.Call (.Attribute a m apos) [] [] pos) (zMk0 c F na) := by
  obtain ⟨fd, ps, F0, hb⟩ := hF.ex
  have mo := hF.mo X.A hr
  refine ⟨fun env Q Q' E E' k ke q => ho.mo _ _ _ (fun o z => ?_) q, PEmono (pe_meth0 (E := E) ho.pe hC hM F0 hr hb .nil (passE tk) ht) fun σ H Q ⟨β, G, env, r0, q⟩ => ?_⟩
  · split at z
    · exact ⟨z.1, mo _ _ _ _ _ (fun o e w => k _ w) ke z.2⟩
    · exact z
  refine ⟨β, G, env, r0, ho.mo _ _ _ (fun o z v H1 G1 X1 e1 ro hX => ?_) q⟩
  split at z
  · rename_i c' fs
    have ec := Nat.eq_of_beq_eq_true z.1
    subst ec
    have ro' := ro
    unfold RepO at ro'
    obtain ⟨a, dx, vs, Xs, rfl, hXX, ha, _⟩ := ro'
    refine ⟨a, dx, _, rfl, ha, nf_none hno, ?_⟩
    obtain ⟨Hm, hHm⟩ : ∃ Hm : Hp, Hm = fun b => if b ∈ X1 then none else H1 b := ⟨_, rfl⟩
    have hmX : ∀ b ∈ X1, Hm b = none := fun b hb => by rw [hHm]; exact if_pos hb
    have hmN : ∀ b, b ∉ X1 → Hm b = H1 b := fun b hb => by rw [hHm]; exact if_neg hb
    have ex : Ext H G Hm G1 := by
      refine ⟨fun b u h => ?_, e1.gg, fun b u h => ?_, e1.gn⟩
      · rw [hmN b fun hb => by have := (hX b hb).1; rw [this] at h; cases h]
        exact e1.hh b u h
      · rw [hmN b fun hb => by have := (hX b hb).2.1; rw [this] at h; cases h]
        exact e1.gh b u h
    obtain ⟨Fl, r1, _, hFl⟩ := (r0.ext ex).callF (as := []) (vs := []) (ss := []) (by unfold ArReps; rfl) rfl rfl
    have nF : ∀ b, ¬ Fl b := fun b y => by
      obtain ⟨i, p, hh⟩ := hFl b y
      cases hh
    have r2 := R.consNew (fp := X1) r1 nF (fun b u h => by
      by_cases hb : b ∈ X1
      · rw [hmX b hb] at h; cases h
      · rw [hmN b hb] at h; exact h) hmX ro
    refine ⟨rfl, G1, fun b => b ∈ X1, _, r2, mo _ _ _ _ _ (fun r env' w v σ' H' G' X' r3 ro3 => ?_) (fun n w H' G' dd bo hd => ?_) z.2⟩
    · obtain ⟨fp, _, _, _, s4⟩ := r3.sl
      refine w v H' G' X' ⟨fun b u h => r3.hk b u (e1.hh b u h) fun hb => (by have := (hX b hb).1; rw [this] at h; cases h), e1.gg.trans r3.g0, r3.gh, fun b hb hg => ?_⟩ ro3 fun b hb => ?_
      · refine r3.gk b (fun z => hb (e1.hh.free z)) (fun hbx => hb (hX b hbx).1) (e1.gn b hb hg)
      · obtain ⟨h1, h2, h3, _⟩ := s4 b hb
        refine ⟨?_, h2, h1⟩
        rcases h3 with y | y
        · exact e1.hh.free y
        · exact (hX b y).1
    · refine w H' G' dd ⟨fun b u h => bo.hk b u (e1.hh b u h) fun hb => (by have := (hX b hb).1; rw [this] at h; cases h), e1.gg.trans bo.g0, bo.gh, fun b hb hg => ?_⟩ hd
      exact bo.gk b (fun z => hb (e1.hh.free z)) (fun hbx => hb (hX b hbx).1) (e1.gn b hb hg)
  · exact z.elim
end
end C
namespace C
open PySem PySem.Spec PyProof.Rows L2
/-! ### g(f(..)), where f may raise and what it gives is g's for the call -/
section
variable {X : Cx} {cl : Nat → Addr} {Cv : Addr}
def zCallN (F : FX) (zf : ZX) : ZX := fun env Q E => zf env (fun o => F [.rf o] (fun r _ => Q r) (fun _ => False)) E
theorem mz_callN {k : Nat} {f : Addr} {F : FX} {W2 : L2.WX} {a : Expr} {zf : ZX} {x : Str} {p cp : Pos} (hF : FB X.prog X.w X.K X.mg X.base cl k 1 f F) (hr : Room k X.A) (gl : Gl X x) (hm : X.mg x = some (.ref f)) (hk : PySem.W.keepIn X.K (.ref f) = true) (ha : MZ X cl Cv W2 a zf) (hdb : (x == ("__debug__" : Str)) = false := by decide)
    (he : starEach [a] X.env = (false, eval a X.env) :: starEach [] X.env := by rfl) (hpl : (backTo cp (starEach [] X.env)).any (·.1) = false := by rfl) : MZ X cl Cv W2 (.Call (.Name x p) [a] [] cp) (zCallN F zf) := by
  obtain ⟨fd, ps, F0, hb⟩ := hF.ex
  have mo := hF.mo X.A hr
  refine ⟨fun env Q Q' E E' k ke q => ha.mo _ _ _ _ _ (fun o z => mo _ _ _ _ _ (fun o _ w => k o w) (fun _ w => w) z) ke q, PEmono (pe_call (E := E0) F0 hr gl hm hk hb .nil pass0 (pa_cons ha.pe pa_nil he) hdb he hpl) fun σ H Q ⟨β, G, env, r0, q⟩ => ?_⟩
  refine ⟨β, G, env, r0, ha.mo _ _ _ _ _ (fun o z v H1 G1 X1 e1 ro hX => ?_) (fun n z => z) q⟩
  show sp0 X.K cl 1 F ([v] ++ []) H1 Q E0
  obtain ⟨Hm, hHm⟩ : ∃ Hm : Hp, Hm = fun b => if b ∈ X1 then none else H1 b := ⟨_, rfl⟩
  have hmX : ∀ b ∈ X1, Hm b = none := fun b hb => by rw [hHm]; exact if_pos hb
  have hmN : ∀ b, b ∉ X1 → Hm b = H1 b := fun b hb => by rw [hHm]; exact if_neg hb
  have ex : Ext H G Hm G1 := by
    refine ⟨fun b u h => ?_, e1.gg, fun b u h => ?_, e1.gn⟩
    · rw [hmN b fun hb => by have := (hX b hb).1; rw [this] at h; cases h]
      exact e1.hh b u h
    · rw [hmN b fun hb => by have := (hX b hb).2.1; rw [this] at h; cases h]
      exact e1.gh b u h
  obtain ⟨Fl, r1, _, hFl⟩ := (r0.ext ex).callF (as := []) (vs := []) (ss := []) (by unfold ArReps; rfl) rfl rfl
  have nF : ∀ b, ¬ Fl b := fun b y => by
    obtain ⟨i, p, hh⟩ := hFl b y
    cases hh
  have r2 := R.consNew (fp := X1) r1 nF (fun b u h => by
    by_cases hb : b ∈ X1
    · rw [hmX b hb] at h; cases h
    · rw [hmN b hb] at h; exact h) hmX ro
  refine ⟨rfl, G1, fun b => b ∈ X1, _, r2, mo _ _ _ _ _ (fun r env' w v σ' H' G' X' r3 ro3 => ?_) (fun n w => w) z⟩
  obtain ⟨fp, _, _, _, s4⟩ := r3.sl
  refine w v H' G' X' ⟨fun b u h => r3.hk b u (e1.hh b u h) fun hb => (by have := (hX b hb).1; rw [this] at h; cases h), e1.gg.trans r3.g0, r3.gh, fun b hb hg => ?_⟩ ro3 fun b hb => ?_
  · refine r3.gk b (fun z => hb (e1.hh.free z)) (fun hbx => hb (hX b hbx).1) (e1.gn b hb hg)
  · obtain ⟨h1, h2, h3, _⟩ := s4 b hb
    refine ⟨?_, h2, h1⟩
    rcases h3 with y | y
    · exact e1.hh.free y
    · exact (hX b y).1
end
end C
namespace C
open PySem PySem.Spec PyProof.Rows L2
/-! ### a dict of the module: text keys, ints -/
def tblAt : List (Str × Int) → Str → Option Int
  | [], _ => none
  | p :: ps, z => if p.1 = z then some p.2 else tblAt ps z
structure KTbl (K : PySem.W.Frag) (w : World) (d : Addr) (tbl : List (Str × Int)) : Prop where
  kd : ∃ es n, KDict K w d es n
  at_ : ∀ z, ∃ r, PySem.W.nsIn K d z = some r ∧ match tblAt tbl z with
    | some i => ∃ t, r = some (.int i t)
    | none => r = none
def TblE (P : Params) : List DictEntry → List (Str × Int) → Prop
  | [], [] => True
  | e :: es, p :: ps => (∃ t, e.key = .str p.1 t) ∧ e.hash = PyData.keyHash P p.1 ∧ (∃ t, e.val = .int p.2 t) ∧ TblE P es ps
  | _, _ => False
theorem TblE.lit {P : Params} : ∀ {es : List DictEntry} {ps : List (Str × Int)}, TblE P es ps → PySem.W.KeysLit P es
  | [], _, _ => trivial
  | e :: es, [], h => h.elim
  | e :: es, p :: ps, ⟨⟨t, h1⟩, h2, _, h4⟩ => ⟨⟨p.1, t, h1, h2⟩, TblE.lit h4⟩
theorem TblE.ref {P : Params} : ∀ {es : List DictEntry} {ps : List (Str × Int)}, TblE P es ps → es.any (·.refKey) = false
  | [], _, _ => rfl
  | e :: es, [], h => h.elim
  | e :: es, p :: ps, ⟨⟨t, h1⟩, h2, _, h4⟩ => by
    rw [List.any_cons, TblE.ref h4]
    unfold DictEntry.refKey
    rw [h1]
    rfl
theorem TblE.find {P : Params} (z : Str) : ∀ {es : List DictEntry} {ps : List (Str × Int)}, TblE P es ps → match tblAt ps z with
    | some i => ∃ e t, es.find? (·.key.isStr z) = some e ∧ e.val = .int i t
    | none => es.find? (·.key.isStr z) = none
  | [], [], _ => rfl
  | e :: es, [], h => h.elim
  | [], p :: ps, h => h.elim
  | e :: es, p :: ps, ⟨⟨t, h1⟩, h2, ⟨u, h3⟩, h4⟩ => by
    have ih := TblE.find z h4
    unfold tblAt
    by_cases c : p.1 = z
    · rw [if_pos c]
      refine ⟨e, u, ?_, h3⟩
      rw [List.find?_cons_of_pos]
      rw [h1]
      unfold Value.isStr
      rw [c]
      exact beq_self_eq_true _
    · rw [if_neg c, List.find?_cons_of_neg]
      · exact ih
      · rw [h1]
        unfold Value.isStr
        intro y
        exact c (eq_of_beq y)
theorem ktbl_mk {K : PySem.W.Frag} {w : World} {d : Addr} {es : Array DictEntry} {n : Nat} {tbl : List (Str × Int)} (h : K.lookup d = some ⟨.type "dict", none, .dict es n, #[]⟩) (low : (d == sysModules) = false) (t : TblE w.params es.toList tbl) : KTbl K w d tbl := by
  refine ⟨⟨es, n, h, t.lit, low⟩, fun z => ?_⟩
  unfold PySem.W.nsIn
  rw [h]
  dsimp only
  have f := t.find z
  cases q : tblAt tbl z with
  | some i =>
    rw [q] at f
    obtain ⟨e, u, f1, f2⟩ := f
    rw [f1]
    exact ⟨_, rfl, u, by rw [f2]⟩
  | none =>
    rw [q] at f
    dsimp only at f
    rw [f, t.ref]
    exact ⟨none, rfl, rfl⟩
/-- d.get(e) -/
theorem pe_kget {X : Cx} {o e : Expr} {ty : TE} {d : Addr} {es : Array DictEntry} {n : Nat} {apos cpos : Pos} (D : KDict X.K X.w d es n) (ho : PE X o (tC (.ref d))) (he : PE X e ty) (m : M1 X o "get" apos e cpos) :
    PE X (.Call (.Attribute o "get" apos) [e] [] cpos) (fun σ H Q => ty σ H fun y H2 => ∃ (z : Str) (r : Option Value) (v : V), y = .str z ∧ PySem.W.nsIn X.K d z = some r ∧ RelV v (r.getD .none) ∧ Q v H2) := by
  refine ⟨fun pins s σ H Q I h => ?_⟩
  refine wpAny_Call_method m.base m.few m.line PySem.F.plainAttrs_dict PySem.F.slot_dict_get PySem.F.type_dict_get (thn (ho.run pins s σ H (fun x H1 => x = .ref d ∧ ty σ H1 fun y H2 => ∃ (z : Str) (r : Option Value) (v : V), y = .str z ∧ PySem.W.nsIn X.K d z = some r ∧ RelV v (r.getD .none) ∧ Q v H2) I ⟨rfl, h⟩) fun u s1 ⟨x, H1, I1, rx, ex, q1⟩ => ?_)
  subst ex
  obtain rfl : u = Value.ref d := rx
  refine ⟨kd_type D I1, fun b q => ?_, ?_⟩
  · cases q
    exact ⟨_, I1.kIn d _ D.at_, rfl⟩
  rw [m.trees]
  refine Calls.callWith_builtin rfl (Calls.evalArgs_plain (Calls.spliced_cons (thn (he.run pins s1 σ H1 _ I1 q1) fun iv s2 ⟨y, H2, I2, ry, z, r, v, ey, hn, rv, q2⟩ => Calls.spliced_nil ?_)))
  subst ey
  obtain ⟨t, rfl⟩ := ry
  have hm' := PySem.W.mapOf_K (prog := X.prog) (w := X.w) I2.kIn D.at_ D.lit
  refine call_meetsIn PySem.F.slot_dict_get hm'.typeIs PySem.F.entry_dict_get (PySem.F.args_dict_get_2 _ _) (meets_dict_get (PySem.strKind X.prog X.w) d (PySem.strKind_is X.prog X.w z t) D.low) ⟨_, hm', ?_⟩
  rw [PySem.W.find_K D.at_ hn]
  exact ⟨v, H2, I2.tok _, rv, q2⟩
def eGetC (tbl : List (Str × Int)) (qb : QX) : EX := fun env Q => qb env fun n => asFro n fun m => asStr m fun z => Q (match tblAt tbl z with
  | some i => .int i
  | none => .non)
theorem m_getC {X : Cx} {cl : Nat → Addr} {b : Expr} {qb : QX} {x : Str} {p apos pos : Pos} {tbl : List (Str × Int)} (hg : Gl X x) (ht : ∃ d, X.mg x = some (.ref d) ∧ KTbl X.K X.w d tbl) (hb : MQ X cl b qb) (hd : (x == ("__debug__" : Str)) = false := by decide) (m : M1 X (.Name x p) "get" apos b pos := by exact ⟨rfl, rfl, rfl, rfl⟩) :
    ME X cl (.Call (.Attribute (.Name x p) "get" apos) [b] [] pos) (eGetC tbl qb) := by
  obtain ⟨d, hm, ⟨es, n, D⟩, ha⟩ := ht
  refine ⟨fun env Q Q' k q => hb.mo _ _ _ (fun _ z => asFro_mo (fun _ z => asStr_mo (fun _ z => k _ z) z) z) q, PEmono (pe_kget D (pe_glob hg hm (v := .ref d) rfl hd) hb.pe m) fun σ H Q ⟨β, G, env, r0, q⟩ => ?_⟩
  refine ⟨β, G, env, r0, hb.mo _ _ _ (fun n q2 v H' G' e1 rv => ?_) q⟩
  cases n with
  | fro n =>
    unfold RepB at rv
    obtain ⟨z, rfl, rfl, q3⟩ := asStr_rep (show asStr n _ from q2) rv
    obtain ⟨r, hr, hz⟩ := ha z
    cases q : tblAt tbl z with
    | some i =>
      rw [q] at hz q3
      obtain ⟨t, rfl⟩ := hz
      exact ⟨z, _, .int i, rfl, hr, ⟨t, rfl⟩, q3 _ H' G' e1 rep_int⟩
    | none =>
      rw [q] at hz q3
      subst hz
      exact ⟨z, _, .non, rfl, hr, rfl, q3 _ H' G' e1 rep_non⟩
  | _ => exact q2.elim
end C
namespace C
open PySem PySem.Spec PyProof.Rows L2
/-! ### [e for .. in xs], where e changes what stands in a slot -/
def noBo : Env → Bool
  | [] => true
  | .bo _ :: _ => false
  | _ :: e => noBo e
theorem noBo_at : ∀ {env : Env} {i : Nat} {o : OV}, noBo env = true → env[i]? ≠ some (.bo o)
  | [], _, _, _, h => by cases h
  | .un :: e, 0, _, _, h => by cases h
  | .ow _ :: e, 0, _, _, h => by cases h
  | .rf _ :: e, 0, _, _, h => by cases h
  | .bo _ :: e, _, _, n, _ => by cases n
  | .un :: e, i + 1, _, n, h => noBo_at (env := e) n h
  | .ow _ :: e, i + 1, _, n, h => noBo_at (env := e) n h
  | .rf _ :: e, i + 1, _, n, h => noBo_at (env := e) n h
theorem noBo_set : ∀ {env : Env} {i : Nat}, noBo env = true → noBo (env.set i .un) = true
  | [], _, h => h
  | .un :: e, 0, h => h
  | .ow _ :: e, 0, h => h
  | .rf _ :: e, 0, h => h
  | .bo _ :: e, _, n => by cases n
  | .un :: e, i + 1, n => noBo_set (env := e) n
  | .ow _ :: e, i + 1, n => noBo_set (env := e) n
  | .rf _ :: e, i + 1, n => noBo_set (env := e) n
theorem noBo_wipe {env : Env} (h : noBo env = true) : ∀ vs, noBo (wipeE env vs) = true
  | [] => h
  | v :: vs => noBo_set (noBo_wipe h vs)
section
variable {K : PySem.W.Frag} {cl : Nat → Addr} {β : Bs} {σ : L2.St} {H G : Hp} {env : Env} {D : Addr}
theorem srep_base {β β' : Bs} {i : Nat} {sv : Option V} {s : Slot} {fp : List Addr} (e : β'.σ = β.σ) (n : ∀ o, s ≠ .bo o) (h : SRep K cl β H G i sv s fp) : SRep K cl β' H G i sv s fp := by
  cases s with
  | un => exact h
  | ow o => exact h
  | rf o => unfold SRep at h ⊢; rw [e]; exact h
  | bo o => exact absurd rfl (n o)
theorem R.rebase (r : R K cl β σ H G env [D]) (nb : noBo env = true) : ∃ F' : Addr → Prop, R K cl ⟨H, G, F', β.σ⟩ σ H G env [] ∧ ∀ (σ' : L2.St) (H' G' : Hp) (env' : Env), noBo env' = true → R K cl ⟨H, G, F', β.σ⟩ σ' H' G' env' [] → R K cl β σ' H' G' env' [D] ∧ H' D = H D ∧ Same G G' := by
  obtain ⟨fp, s1, s2, s3, s4⟩ := r.sl
  refine ⟨fun b => ∃ i, i < env.length ∧ b ∈ fp i, ⟨r.len, Same.refl _, r.gh, fun b u h _ => h, fun b _ _ h => h, fp, fun i s hs => srep_base (β := β) rfl (fun o e => noBo_at (o := o) nb (hs.trans (congrArg some e))) (s1 i s hs), fun i b hi hb => ⟨(s2 i b hi hb).1, .inr ⟨i, hi, hb⟩⟩, s3, fun b hb => by cases hb⟩, fun σ' H' G' env' nb' r' => ?_⟩
  obtain ⟨hD1, hD2, hD3, hD4⟩ := s4 D (List.mem_singleton.mpr rfl)
  have nFD : ¬ ∃ i, i < env.length ∧ D ∈ fp i := fun ⟨i, hi, hb⟩ => hD4 i hi hb
  obtain ⟨u, hu⟩ := Option.ne_none_iff_exists'.mp hD1
  have hH : H' D = some u := r'.hk D u hu nFD
  have gD : G' D = none := r'.gk D hD1 nFD hD2
  have nF : ∀ b u, β.H b = some u → ¬ β.F b → ¬ ∃ i, i < env.length ∧ b ∈ fp i := fun b u h n ⟨i, hi, hb⟩ => by
    rcases (s2 i b hi hb).2 with z | z
    · rw [h] at z; cases z
    · exact n z
  obtain ⟨fp', t1, t2, t3, _⟩ := r'.sl
  refine ⟨⟨r'.len, r.g0.trans r'.g0, r'.gh, fun b u h n => r'.hk b u (r.hk b u h n) (nF b u h n), fun b h n q => ?_, fp', fun i s hs => srep_base (β := ⟨H, G, fun b => ∃ i, i < env.length ∧ b ∈ fp i, β.σ⟩) (β' := β) rfl (fun o e => noBo_at (o := o) nb' (hs.trans (congrArg some e))) (t1 i s hs), fun i b hi hb => ⟨(t2 i b hi hb).1, ?_⟩, t3, fun b hb => ?_⟩, by rw [hH, hu], r'.g0⟩
  · obtain ⟨w, hw⟩ := Option.ne_none_iff_exists'.mp h
    exact r'.gk b (by show H b ≠ none; rw [r.hk b w hw n]; simp) (nF b w hw n) (r.gk b h n q)
  · rcases (t2 i b hi hb).2 with z | ⟨j, hj, z⟩
    · cases q : β.H b with
      | none => exact .inl rfl
      | some w =>
        right
        by_cases n : β.F b
        · exact n
        · have : H b = some w := r.hk b w q n
          have z : H b = none := z
          rw [this] at z; cases z
    · exact (s2 j b hj z).2
  · rw [List.mem_singleton.mp hb]
    refine ⟨by rw [hH]; simp, gD, hD3, fun i hi hb => ?_⟩
    rcases (t2 i D hi hb).2 with z | z
    · exact hD1 z
    · exact nFD z
theorem R.updD (r : R K cl β σ H G env [D]) (w : HO) : R K cl β σ (upd H D w) G env [D] := by
  obtain ⟨fp, s1, s2, s3, s4⟩ := r.sl
  obtain ⟨hD1, hD2, hD3, hD4⟩ := s4 D (List.mem_singleton.mpr rfl)
  refine ⟨r.len, r.g0, fun b u h => ?_, fun b u h n => ?_, r.gk, fp, fun i s hs => (s1 i s hs).frame (Same.refl _) fun b hb u h => ?_, s2, s3, fun b hb => ?_⟩
  · rw [upd_ne fun e => by rw [e, hD2] at h; cases h]
    exact r.gh b u h
  · rw [upd_ne fun e => by
      rw [e] at h n
      rcases hD3 with z | z
      · rw [h] at z; cases z
      · exact n z]
    exact r.hk b u h n
  · rw [upd_ne fun e => by rw [e] at hb; exact hD4 i (List.getElem?_eq_some_iff.mp hs).1 hb]
    exact h
  · rw [List.mem_singleton.mp hb]
    exact ⟨by rw [upd_same]; simp, hD2, hD3, hD4⟩
theorem wipeE_len (env : Env) : ∀ vs, (wipeE env vs).length = env.length
  | [] => rfl
  | v :: vs => by unfold wipeE; rw [List.length_set, wipeE_len env vs]
theorem wipeE_at {env : Env} {i : Nat} : ∀ {vs : List Nat}, i ∈ vs → i < env.length → (wipeE env vs)[i]? = some .un
  | v :: vs, h, hi => by
    unfold wipeE
    by_cases e : v = i
    · rw [e, List.getElem?_set_self (by rw [wipeE_len]; exact hi)]
    · rw [List.getElem?_set_ne e]
      exact wipeE_at ((List.mem_cons.mp h).resolve_left fun z => e z.symm) hi
theorem R.unwipe {vs : List Nat} {Z : List Addr} (r : R K cl β (L2.wipe σ vs) H G (wipeE env vs) Z) : R K cl β σ H G (wipeE env vs) Z := by
  obtain ⟨fp, s1, s2, s3, s4⟩ := r.sl
  have len : (wipeE env vs).length = σ.length := by rw [r.len, wipe_length]
  refine ⟨len, r.g0, r.gh, r.hk, r.gk, fp, fun i s hs => ?_, s2, s3, s4⟩
  have hi := (List.getElem?_eq_some_iff.mp hs).1
  have h := s1 i s hs
  by_cases c : i ∈ vs
  · rw [wipeE_at c (by rw [← wipeE_len env vs]; exact hi)] at hs
    cases hs
    exact h
  · rw [List.getD_eq_getElem?_getD, wipe_at (by rw [← len]; exact hi), if_neg c, ← List.getD_eq_getElem?_getD] at h
    exact h
end
/-- the turns of the block, the slots as they are -/
def lcC (vs : List Nat) (g : GX) (fx : XX) (Q : List MV → Env → Prop) : List MV → Env → List MV → Prop
  | [], env, acc => Q acc (wipeE env vs)
  | m :: ms, env, acc => g m (wipeE env vs) fun e => fx e (fun o e2 => match o with
    | .fro y => (noBo e2 = true ∧ acc.length < sizeLine) ∧ lcC vs g fx Q ms e2 (acc ++ [y])
    | _ => False) (fun _ => False)
def xLcC (vs : List Nat) (f : LX) (g : GX) (fx : XX) : XX := fun env Q _ => f env fun ms => noBo env = true ∧ lcC vs g fx (fun ys e => Q (.lst ys) e) ms env []
theorem lcC_mo {vs : List Nat} {g : GX} {fx : XX} (hg : ∀ m env (Q Q' : Env → Prop), (∀ e, Q e → Q' e) → g m env Q → g m env Q') (hf : ∀ env (Q Q' : OV → Env → Prop) (E E' : Int → Prop), (∀ o e, Q o e → Q' o e) → (∀ n, E n → E' n) → fx env Q E → fx env Q' E') {Q Q' : List MV → Env → Prop} (k : ∀ ys e, Q ys e → Q' ys e) :
    ∀ ms env acc, lcC vs g fx Q ms env acc → lcC vs g fx Q' ms env acc
  | [], env, acc, q => k _ _ q
  | m :: ms, env, acc, q => hg _ _ _ _ (fun e z => hf _ _ _ _ _ (fun o e2 w => by
    split at w
    · exact ⟨w.1, lcC_mo hg hf k ms _ _ w.2⟩
    · exact w.elim) (fun _ w => w) z) q
structure MLCC (X : Cx) (cl : Nat → Addr) (scope : Scope) (tg iter elt : Expr) (own : List (Str × Nat)) (f : LX) (g : GX) (fx : XX) : Prop where
  hi : MI X cl tg iter f
  ok : BlkOk X.N X.env.scope scope own
  hg : ∃ is, (∀ j ∈ is, j ∈ own.map (·.2)) ∧ ∀ (s : Shared) (H : Hp) (C : Addr) (cl' : List (Str × Addr)) (fp : List Addr), MG (BlkX X scope s H C cl' fp) cl tg g is
  he : ∀ (s : Shared) (H : Hp) (C : Addr) (cl' : List (Str × Addr)) (fp : List Addr), MX (BlkX X scope s H C cl' fp) cl (fun _ _ => False) elt fx
  m0 : Nonempty (Shared × Hp)
section
variable {X : Cx} {cl : Nat → Addr} {W : WX} {g : GX} {pos : Pos}
theorem lcC_run {scope : Scope} {tg iter elt : Expr} {own : List (Str × Nat)} {f : LX} {fx : XX} (h : MLCC X cl scope tg iter elt own f g fx) {is : List Nat} (his : ∀ j ∈ is, j ∈ own.map (·.2)) (hg : ∀ (s : Shared) (H : Hp) (C : Addr) (cl' : List (Str × Addr)) (fp : List Addr), MG (BlkX X scope s H C cl' fp) cl tg g is) (s0 : Shared) {σ : L2.St} {H : Hp} {Q : VK}
    (q : ∃ β G env, R X.K cl β σ H G env [] ∧ xLcC (own.map (·.2)) f g fx env (fun o env2 => ∀ v H' G' X_, R X.K cl β σ H' G' env2 X_ → Same G G' → RepO X.K cl H' G' o v X_ → Q v H') (fun _ => False)) :
    tLc (fun σ H Q => ∃ β G env, R X.K cl β σ H G env [] ∧ f env fun ms => ∀ J H' G' KH, Ext H G H' G' → Same KH G' → ItOk X.K cl J ms G' KH → Q J H') (gOf X.K cl g is) (tOf X.K cl tYesX) (xOf X.K cl (fun _ _ => False) fx) (own.map (·.2)) σ H Q := by
  obtain ⟨β, G, env, r0, q⟩ := q
  have gmo := (hg s0 H 0 [] []).mo
  have emo := (h.he s0 H 0 [] []).mo
  refine ⟨β, G, env, r0, h.hi.mo _ _ _ (fun ms z J H1 G1 KH e1 hk it D hD => ?_) q⟩
  obtain ⟨Y, w, hy⟩ := it
  generalize own.map (·.2) = vs at *
  obtain ⟨nb, z⟩ := z
  have e2 := Ext.new0 (o := .lst []) e1.gh hD
  have r1 := (r0.extX (Z := [D]) (e1.trans e2) fun b hb => by
    rw [List.mem_singleton.mp hb]
    exact ⟨e1.hh.free hD, e1.gh.free hD, by rw [upd_same]; simp⟩).wipe vs
  refine lc_it w (fun i H2 => ∃ G2 acc us env2, R X.K cl β (L2.wipe σ vs) H2 G2 (wipeE env2 vs) [D] ∧ noBo env2 = true ∧ Same G1 G2 ∧ H2 D = some (.lst us) ∧ Reps X.K cl G2 acc us ∧ lcC vs g fx (fun ys e => ∀ v H' G' X_, R X.K cl β σ H' G' e X_ → Same G G' → RepO X.K cl H' G' (.lst ys) v X_ → Q v H') (ms.drop i) env2 acc)
    ⟨G1, [], [], env, r1, nb, Same.refl _, upd_same, Reps.nil, z⟩ (fun i H2 _ ⟨G2, _, _, _, r2, _, g2, _⟩ => (hk.trans g2).trans r2.gh) (fun i x H2 H3 hi ⟨G2, acc, us, env2, r2, nb2, g2, hd, ra, q⟩ y => ?_) fun H2 ⟨G2, acc, us, env2, r2, nb2, g2, hd, ra, q⟩ => ?_
  · obtain ⟨F', r3, back⟩ := r2.rebase (noBo_wipe nb2 vs)
    obtain ⟨G3, m, e3, hm, rm⟩ := hy i H2 G2 x H3 hi ((hk.trans g2).trans r2.gh) g2 r2.gh y
    have hdr : ms.drop i = m :: ms.drop (i + 1) := by
      rw [List.drop_eq_getElem_cons hi]
      congr 1
      rw [List.getElem?_eq_getElem hi] at hm
      exact Option.some.inj hm
    rw [hdr] at q
    refine ⟨⟨H2, G2, F', β.σ⟩, G3, _, m, r3.ext e3, rm, gmo _ _ _ _ (fun en z σ2 r4 ag => ⟨wipe_agr ag his, ⟨H2, G2, F', β.σ⟩, G3, en, r4, fun H5 G5 e5 => ?_⟩) q⟩
    show (if true = true then _ else _)
    rw [if_pos rfl]
    refine ⟨⟨H2, G2, F', β.σ⟩, G5, en, r4.ext e5, emo _ _ _ _ _ (fun o e6 z v H6 G6 X6 r6 g6 ro => ?_) (fun _ w => w) z⟩
    split at z
    · rename_i yv
      obtain ⟨⟨nb6, lt⟩, z⟩ := z
      unfold RepO at ro
      obtain ⟨rfl, rv⟩ := ro
      have r7 := r6.wipe vs
      rw [wipe_agr ag his] at r7
      obtain ⟨r8, hd6, gg⟩ := back _ _ _ _ (noBo_wipe nb6 vs) r7
      rw [hd] at hd6
      exact ⟨us, hd6, by rw [Reps.len _ _ ra]; exact lt, G6, acc ++ [yv], us ++ [v], e6, r8.updD _, nb6, g2.trans gg, upd_same, Reps.app _ _ _ _ (Reps.same gg _ _ ra) (Reps.one rv), z⟩
    · exact z.elim
  · rw [List.drop_length] at q
    have q' : ∀ v H' G' X_, R X.K cl β σ H' G' (wipeE env2 vs) X_ → Same G G' → RepO X.K cl H' G' (.lst acc) v X_ → Q v H' := q
    exact q' (.ref D) H2 G2 [D] r2.unwipe (e1.gg.trans g2) (by unfold RepO; exact ⟨D, us, rfl, rfl, hd, ra⟩)
/-- name = [..] on one line, the name a local -/
theorem ms_setLcC (i : Nat) {y : Str} {py spos : Pos} {scope : Scope} {tg iter elt : Expr} {own : List (Str × Nat)} {f : LX} {fx : XX} (hc : X.calm = true) (hN : X.N.Nodup) (h : MLCC X cl scope tg iter elt own f g fx) (hsw : swapsWith (.ListComp elt [⟨tg, iter, [], 0⟩] scope pos) (some (.Name y py)) spos.line X.env = pure true)
    (hy : X.N[i]? = some y := by rfl) (hyl : X.env.scope.names.lookup y = some .local := by rfl) (hs : ∀ x, foldedSetIterable iter X.env x = pure x := by intro _; rfl) : MS X cl W (.Assign [.Name y py] (.ListComp elt [⟨tg, iter, [], 0⟩] scope pos) spos) (set i (xLcC (own.map (·.2)) f g fx)) := by
  obtain ⟨is, his, hg⟩ := h.hg
  obtain ⟨s0, H0⟩ := h.m0
  have gmo := (hg s0 H0 0 [] []).mo
  have emo := (h.he s0 H0 0 [] []).mo
  have mo : ∀ env (Q Q' : OV → Env → Prop) (E E' : Int → Prop), (∀ o e, Q o e → Q' o e) → xLcC (own.map (·.2)) f g fx env Q E → xLcC (own.map (·.2)) f g fx env Q' E' := fun env Q Q' E E' k q => h.hi.mo _ _ _ (fun ms z => ⟨z.1, lcC_mo gmo emo (fun ys e w => k _ _ w) ms _ _ z.2⟩) q
  refine ⟨fun env k k' l q => mo _ _ _ _ _ (fun o e z => by
    split at z
    · exact l.nx _ z
    · exact z.elim) q, PSmono (ps_setLc (te := xOf X.K cl (fun _ _ => False) fx) (tt := tOf X.K cl tYesX) (g := gOf X.K cl g is) hc hN hy hyl hsw h.hi.pi h.ok (fun s H C cl' fp => (hg s H C cl' fp).pg) (fun s H C cl' fp => mts_nil.pt) (fun s H C cl' fp => (h.he s H C cl' fp).pe) hs) fun D σ H ⟨β, G, env, r0, q⟩ => ?_⟩
  refine lcC_run h his hg s0 ⟨β, G, env, r0, mo env (fun o env2 => match setE env2 i o with
    | some e => (kOf X.K cl W β G D).nx e
    | none => False) _ _ _ (fun o e2 z v H' G' X_ r2 gg ro => ?_) q⟩
  cases g : setE e2 i o with
  | none => rw [g] at z; exact z.elim
  | some e3 =>
    rw [g] at z
    obtain ⟨h1, rfl⟩ := setE_out g
    exact z _ H' G' (r2.setv h1 ro) gg
end
end C
namespace C
open PySem PySem.Spec PyProof.Rows L2
/-! ### defs that call themselves: a body that is never reached -/
theorem mss_never {X : Cx} {cl : Nat → Addr} {W : WX} (sts : List Stmt) : MSs X cl W sts sNever := ⟨fun _ _ _ _ q => q, ⟨fun pins s σ H D I h => by obtain ⟨_, _, _, _, h⟩ := h; exact h.elim⟩⟩
end C
namespace C
open PySem PySem.Spec PyProof.Rows L2
/-! ### sorted(pairs of ints) -/
def pM2 (p : Int × Int) : MV := .tup [.int p.1, .int p.2]
def PairV (K : PySem.W.Frag) (H : Hp) (x : V) (p : Int × Int) : Prop := ∃ t, x = .ref t ∧ SqT K H t [.int p.1, .int p.2]
def PairsV (K : PySem.W.Frag) (H : Hp) : List V → List (Int × Int) → Prop
  | [], [] => True
  | x :: xs, p :: ps => PairV K H x p ∧ PairsV K H xs ps
  | _, _ => False
def pairL : MV → Option (Int × Int)
  | .tup [.int a, .int b] => some (a, b)
  | _ => none
def pairsL : List MV → Option (List (Int × Int))
  | [] => some []
  | m :: ms => match pairL m, pairsL ms with
    | some p, some ps => some (p :: ps)
    | _, _ => none
theorem pairL_map (ps : List (Int × Int)) : pairsL (ps.map pM2) = some ps := by
  induction ps with
  | nil => rfl
  | cons p ps ih =>
    show (match pairL (pM2 p), pairsL (ps.map pM2) with
      | some p, some ps => some (p :: ps)
      | _, _ => none) = _
    rw [ih]; rfl
section
variable {K : PySem.W.Frag} {cl : Nat → Addr} {G H : Hp}
theorem pair_rep {m : MV} {v : V} {p : Int × Int} (h : pairL m = some p) (r : Rep K cl G m v) : PairV K G v p := by
  unfold pairL at h
  split at h
  · rename_i a b
    cases h
    unfold Rep at r
    obtain ⟨t, vs, rfl, h1, h2⟩ := r
    unfold Reps at h2
    obtain ⟨v1, ws, rfl, r1, h2⟩ := h2
    unfold Reps at h2
    obtain ⟨v2, ws, rfl, r2, h2⟩ := h2
    unfold Reps at h2
    unfold Rep at r1 r2
    subst r1 r2 h2
    exact ⟨t, rfl, h1⟩
  · cases h
theorem rep_pair {v : V} {p : Int × Int} (h : PairV K G v p) : Rep K cl G (pM2 p) v := by
  obtain ⟨t, rfl, h1⟩ := h
  unfold pM2 Rep
  refine ⟨t, _, rfl, h1, ?_⟩
  unfold Reps
  refine ⟨_, _, rfl, by unfold Rep; rfl, ?_⟩
  unfold Reps
  refine ⟨_, _, rfl, by unfold Rep; rfl, ?_⟩
  unfold Reps
  rfl
theorem pairs_rep : ∀ {ms : List MV} {vs : List V} {ps : List (Int × Int)}, pairsL ms = some ps → Reps K cl G ms vs → PairsV K G vs ps
  | [], vs, ps, h, r => by
    unfold Reps at r
    subst r
    cases h
    exact trivial
  | m :: ms, vs, ps, h, r => by
    unfold Reps at r
    obtain ⟨v, ws, rfl, r1, r2⟩ := r
    unfold pairsL at h
    split at h
    · rename_i p qs e1 e2
      cases h
      exact ⟨pair_rep e1 r1, pairs_rep e2 r2⟩
    · cases h
theorem PairV.same {v : V} {p : Int × Int} (e : Same G H) (h : PairV K G v p) : PairV K H v p := by
  obtain ⟨t, rfl, h1⟩ := h
  exact ⟨t, rfl, sqT_same e h1⟩
theorem PairsV.same (e : Same G H) : ∀ {vs : List V} {ps : List (Int × Int)}, PairsV K G vs ps → PairsV K H vs ps
  | [], [], _ => trivial
  | [], _ :: _, h => h.elim
  | _ :: _, [], h => h.elim
  | _ :: _, _ :: _, h => ⟨h.1.same e, PairsV.same e h.2⟩
theorem PairsV.mem : ∀ {vs : List V} {ps : List (Int × Int)}, PairsV K G vs ps → ∀ x ∈ vs.zip ps, PairV K G x.1 x.2
  | [], _, _, x, hx => by cases hx
  | _ :: _, [], h, x, hx => by cases hx
  | v :: vs, p :: ps, h, x, hx => by
    rcases List.mem_cons.mp hx with rfl | hx
    · exact h.1
    · exact PairsV.mem h.2 x hx
theorem reps_zip : ∀ {vs : List V} {ps : List (Int × Int)}, vs.length = ps.length → (∀ x ∈ vs.zip ps, PairV K G x.1 x.2) → Reps K cl G (ps.map pM2) vs
  | [], [], _, _ => by
    show Reps K cl G [] []
    unfold Reps; rfl
  | [], _ :: _, h, _ => by cases h
  | _ :: _, [], h, _ => by cases h
  | v :: vs, p :: ps, h, hx => by
    show Reps K cl G (pM2 p :: ps.map pM2) (v :: vs)
    unfold Reps
    exact ⟨v, vs, rfl, rep_pair (hx (v, p) List.mem_cons_self), reps_zip (by simpa using h) fun x m => hx x (List.mem_cons_of_mem _ m)⟩
end
def leP (p q : Int × Int) : Prop := p.1 < q.1 ∨ (p.1 = q.1 ∧ p.2 ≤ q.2)
def rSortP (K : PySem.W.Frag) : List V → Hp → VK → Prop := fun vs H Q => ∃ (a : Addr) (xs : List V) (ps : List (Int × Int)), vs = [V.ref a] ∧ SqL K H a xs ∧ PairsV K H xs ps ∧
  ∀ ys qs d, ys.length = qs.length → (ys.zip qs).Perm (xs.zip ps) → qs.Perm ps → qs.Pairwise leP → H d = none → Q (.ref d) (upd H d (.lst ys))
theorem zip_map {α β : Type} (f : α → β) : ∀ xs : List α, xs.zip (xs.map f) = xs.map fun x => (x, f x)
  | [] => rfl
  | x :: xs => by rw [List.map_cons, List.map_cons, List.zip_cons_cons, zip_map f xs]
theorem cr_sortP {X : Cx} : CallR X (.builtin "sorted") (rSortP X.K) := by
  intro pins s σ H vs us Q I r h
  obtain ⟨a, xs, ps, rfl, hs, hp, q⟩ := h
  have ex : ∃ k : V → Int × Int, ∀ x p, PairV X.K H x p → k x = p := by
    refine ⟨fun x => Classical.epsilon fun p => PairV X.K H x p, fun x p h => ?_⟩
    have h2 := Classical.epsilon_spec (p := fun p => PairV X.K H x p) ⟨p, h⟩
    show (Classical.epsilon fun p => PairV X.K H x p) = p
    generalize (Classical.epsilon fun p => PairV X.K H x p) = z at h2 ⊢
    obtain ⟨t, rfl, h1⟩ := h
    obtain ⟨t', e', h2⟩ := h2
    cases e'
    have e := I.tuple_inj h2 h1
    have e1 := (List.cons.inj e).1
    have e2 := (List.cons.inj (List.cons.inj e).2).1
    exact Prod.ext (V.int.inj e1) (V.int.inj e2)
  obtain ⟨k, hk⟩ := ex
  have hps : ∀ {xs : List V} {ps : List (Int × Int)}, PairsV X.K H xs ps → ps = xs.map k := by
    intro xs
    induction xs with
    | nil =>
      intro ps h
      cases ps with
      | nil => rfl
      | cons _ _ => exact h.elim
    | cons x xs ih =>
      intro ps h
      cases ps with
      | nil => exact h.elim
      | cons p ps =>
        rw [List.map_cons, hk x p h.1, ← ih h.2]
  have ep := hps hp
  have hx : ∀ x ∈ xs, ∃ t, x = .ref t ∧ SqT X.K H t [.int (k x).1, .int (k x).2] := fun x m => by
    have : (x, k x) ∈ xs.zip ps := by rw [ep, zip_map]; exact List.mem_map.mpr ⟨x, m, rfl⟩
    exact hp.mem _ this
  obtain ⟨its, rv, hl, hz⟩ := I.list hs
  obtain ⟨u, rfl, ru⟩ := vals1 r
  obtain rfl : u = Value.ref a := ru
  obtain ⟨e1, e2⟩ := refs_back rv fun x m => by
    obtain ⟨t, e, _⟩ := hx x m
    exact ⟨t, e⟩
  refine SrtO.sorted_pairsO (k := fun u => k (backV u)) hl.isList (by rw [← rv.length]; exact hz) (fun v hv => ?_) fun h' d out h1 h2 kp hd hn => ?_
  · obtain ⟨t, rfl⟩ := e2 v hv
    have hm : V.ref t ∈ xs := by rw [e1]; exact List.mem_map.mpr ⟨_, hv, rfl⟩
    obtain ⟨t', e, ht⟩ := hx _ hm
    cases e
    obtain ⟨its2, r2, ⟨o, ho, hc, n, hd⟩, _⟩ := I.tuple ht
    obtain ⟨u1, u2, rfl, ri, rj⟩ := vals2 r2
    obtain ⟨t1, rfl⟩ := ri
    obtain ⟨t2, rfl⟩ := rj
    exact ⟨t, o, t1, t2, n, rfl, ho, hc, hd⟩
  · have h3 : ∀ u ∈ out, ∃ a, u = Value.ref a := fun u hu => e2 u (h2.perm.mem_iff.mp hu)
    obtain ⟨n, hn⟩ := hn
    have hb : (out.map backV).Perm xs := by
      rw [e1]
      exact h2.perm.map _
    have hq : ((out.map backV).map k).Pairwise leP := by
      refine List.pairwise_map.mpr (List.pairwise_map.mpr (h1.imp fun {x y} h => ?_))
      have := SrtO.lexB_no.mp h
      unfold leP
      omega
    refine ⟨.ref d, upd H d (.lst (out.map backV)), I.laid (t' := s.toks) kp hd ⟨?_, out, n, vals_back h3, hn⟩, rfl, q _ ((out.map backV).map k) d (by simp) ?_ ?_ hq (I.hok.fresh hd)⟩
    · rw [hb.length_eq]
      exact hz
    · rw [ep, zip_map, zip_map]
      exact hb.map _
    · rw [ep]
      exact hb.map _
def gSortP (o : OV) (Q : MV → Prop) : Prop := asL o fun ms => match pairsL ms with
  | some ps => ∀ qs : List (Int × Int), qs.Perm ps → qs.Pairwise leP → Q (.lst (qs.map pM2))
  | none => False
theorem gb_sortP {X : Cx} {cl : Nat → Addr} : GB X cl (.builtin "sorted") gSortP := by
  refine ⟨fun o Q Q' k q => asL_mo (fun ms z => by
    split at z
    · exact fun qs h1 h2 => k _ (z qs h1 h2)
    · exact z.elim) q, _, cr_sortP, fun m x H G Q g r q => ?_⟩
  obtain ⟨ms, p, vs, rfl, h2, h3, q⟩ := asL_rep g q r
  split at q
  · rename_i ps e
    have hp := pairs_rep e h3
    exact ⟨p, vs, ps, rfl, SqL.of h2, hp.same g, fun ys qs d l z pm hs hd => q qs pm hs _ _ _ (Ext.new g hd) (new_lst g hd (reps_zip l fun x m => hp.mem x (z.mem_iff.mp m)))⟩
  · exact q.elim
/-! ### p in xs, of pairs of ints -/
def dP (p : Int × Int) : PyData := .tuple [.int p.1, .int p.2]
theorem toD_pM2 (p : Int × Int) : toD (pM2 p) = some (dP p) := by
  unfold pM2 toD
  unfold toDs toD
  unfold toDs toD
  unfold toDs
  rfl
theorem toDs_pairs : ∀ ps : List (Int × Int), toDs (ps.map pM2) = some (ps.map dP)
  | [] => by show toDs [] = _; unfold toDs; rfl
  | p :: ps => by
    show toDs (pM2 p :: ps.map pM2) = _
    unfold toDs
    rw [toD_pM2, toDs_pairs ps]
    rfl
theorem lay_dP (p : Int × Int) : PyData.canLay0 (dP p) = true ∧ PyData.depth (dP p) ≤ 3 := by
  unfold dP
  constructor
  · simp [PyData.canLay0, PyData.canLayAll0]
  · simp [PyData.depth, PyData.depthAll]
theorem lay_dPs : ∀ ps : List (Int × Int), PyData.canLayAll0 (ps.map dP) = true ∧ PyData.depthAll (ps.map dP) ≤ 3
  | [] => ⟨rfl, by simp [PyData.depthAll]⟩
  | p :: ps => by
    obtain ⟨h1, h2⟩ := lay_dPs ps
    obtain ⟨h3, h4⟩ := lay_dP p
    refine ⟨?_, ?_⟩
    · rw [List.map_cons, PyData.canLayAll0, h3, h1]; rfl
    · rw [List.map_cons, PyData.depthAll]; omega
theorem shaped_dP (p : Int × Int) : SeqAt.shaped (dP p) = true := by
  obtain ⟨h1, h2⟩ := lay_dP p
  unfold SeqAt.shaped
  rw [h1, decide_eq_true (by omega)]; rfl
theorem shaped_dPs (ps : List (Int × Int)) : SeqAt.shaped (.list (ps.map dP)) = true := by
  obtain ⟨h1, h2⟩ := lay_dPs ps
  unfold SeqAt.shaped
  rw [show PyData.canLay0 (.list (ps.map dP)) = true by unfold PyData.canLay0; exact h1, decide_eq_true (by unfold PyData.depth; omega)]; rfl
theorem eqv_dP (p q : Int × Int) : PyData.eqv (dP p) (dP q) = decide (p = q) := by
  unfold dP
  simp [PyData.eqv, PyData.eqvAll, Prod.ext_iff]
  rfl
theorem any_dP (p : Int × Int) : ∀ ps : List (Int × Int), ((ps.map dP).any fun z => PyData.eqv z (dP p)) = decide (p ∈ ps)
  | [] => rfl
  | q :: ps => by
    rw [List.map_cons, List.any_cons, any_dP p ps, eqv_dP]
    by_cases h : q = p
    · subst h; simp
    · have : ¬ p = q := fun z => h z.symm
      simp [h, this]
noncomputable def gInP (neg : Bool) : GR := fun m n Q => asFro m fun m => match pairL m with
  | some p => asL n fun ms => match pairsL ms with
    | some ps => Q (neg ^^ dB (p ∈ ps))
    | none => False
  | none => False
theorem gInP_mo {neg : Bool} : ∀ m n (Q Q' : Bool → Prop), (∀ k, Q k → Q' k) → gInP neg m n Q → gInP neg m n Q' := fun m n Q Q' k q => asFro_mo (fun m z => by
  split at z
  · exact asL_mo (fun ms z => by
      split at z
      · exact k _ z
      · exact z.elim) z
  · exact z.elim) q
theorem pairL_eq {m : MV} {p : Int × Int} (h : pairL m = some p) : m = pM2 p := by
  unfold pairL at h
  split at h
  · cases h; rfl
  · cases h
theorem pairsL_eq : ∀ {ms : List MV} {ps : List (Int × Int)}, pairsL ms = some ps → ms = ps.map pM2
  | [], ps, h => by cases h; rfl
  | m :: ms, ps, h => by
    unfold pairsL at h
    split at h
    · rename_i p qs e1 e2
      cases h
      rw [pairL_eq e1, pairsL_eq e2]; rfl
    · cases h
theorem gInP_out {K : PySem.W.Frag} {cl : Nat → Addr} {neg : Bool} {H G : Hp} {m n : OV} {x y : V} {Q : Bool → Prop} (g : Same G H) (rx : RepB K cl H G m x) (ry : RepB K cl H G n y) (q : gInP neg m n Q) : ∃ (p : Int × Int) (ps : List (Int × Int)), Dp K H x (dP p) ∧ Dp K H y (.list (ps.map dP)) ∧ Q (neg ^^ decide (p ∈ ps)) := by
  cases m with
  | fro m =>
    have q : (match pairL m with
      | some p => asL n fun ms => match pairsL ms with
        | some ps => Q (neg ^^ dB (p ∈ ps))
        | none => False
      | none => False) := q
    split at q
    · rename_i p e
      have hx := RepB.dp g rx (show toDO (.fro m) = some (dP p) by rw [pairL_eq e]; exact toD_pM2 p)
      have key : ∀ ms ps, pairsL ms = some ps → toD (.lst ms) = some (.list (ps.map dP)) := fun ms ps e => by
        rw [pairsL_eq e]
        unfold toD
        rw [toDs_pairs]
      cases n with
      | lst ms =>
        have q : (match pairsL ms with
          | some ps => Q (neg ^^ dB (p ∈ ps))
          | none => False) := q
        split at q
        · rename_i ps e2
          rw [dB_eq] at q
          exact ⟨p, ps, hx, RepB.dp g ry (key ms ps e2), q⟩
        · exact q.elim
      | fro n =>
        cases n with
        | lst ms =>
          have q : (match pairsL ms with
            | some ps => Q (neg ^^ dB (p ∈ ps))
            | none => False) := q
          split at q
          · rename_i ps e2
            rw [dB_eq] at q
            exact ⟨p, ps, hx, RepB.dp g ry (key ms ps e2), q⟩
          · exact q.elim
        | _ => exact q.elim
      | _ => exact q.elim
    · exact q.elim
  | _ => exact q.elim
section
variable {X : Cx} {cl : Nat → Addr}
theorem gc_inP (hu : X.A.units + 65 < cLine) : GC X cl .In (gInP false) := ⟨gInP_mo, _, op_inD hu, fun m n x y H G Q g rx ry q => by
  obtain ⟨p, ps, h1, h2, q⟩ := gInP_out (Q := fun k => Q (.bl k) H) g rx ry q
  exact ⟨_, _, h1, h2, shaped_dP p, shaped_dPs ps, by rw [any_dP]; simpa using q⟩⟩
theorem gc_notinP (hu : X.A.units + 65 < cLine) : GC X cl .NotIn (gInP true) := ⟨gInP_mo, _, op_notInD hu, fun m n x y H G Q g rx ry q => by
  obtain ⟨p, ps, h1, h2, q⟩ := gInP_out (Q := fun k => Q (.bl k) H) g rx ry q
  exact ⟨_, _, h1, h2, shaped_dP p, shaped_dPs ps, by rw [any_dP]; simpa using q⟩⟩
end
theorem units65 {k : Nat} {A : Around} (r : Room k A) : A.units + 65 < cLine := by have := r.un; omega
end C
namespace C
open PySem PySem.Spec PyProof.Rows L2
/-! ### defs as values; lists of owned things -/
section
variable {X : Cx} {cl : Nat → Addr} {W : WX} {a b c e elt tg iter : Expr} {es : List Expr} {na nb : NX} {fa : EX} {ga : AX} {qa : QX} {g : GX} {pos p : Pos} {x : Str}
theorem rep_fn {K : PySem.W.Frag} {G : Hp} {k : Nat} : Rep K cl G (.fn k) (.ref (cl k)) := by unfold Rep; rfl
/-- the name of a def, as a value -/
theorem m_globF (k : Nat) {f : Addr} (hg : Gl X x) (hm : X.mg x = some (.ref f)) (hf : cl k = f) (hd : (x == ("__debug__" : Str)) = false := by decide) : ME X cl (.Name x pos) (eK (.fn k)) :=
  ⟨fun _ _ _ k q => k _ q, PEmono (pe_glob hg hm (v := .ref f) rfl hd) fun σ H Q ⟨β, G, env, r0, q⟩ => q _ H G (Ext.refl r0.gh) (by subst hf; exact rep_fn)⟩
/-- a call of a local that holds a def -/
def nCallL (i kf n : Nat) (F : FX) (ga : AX) : NX := fun env Q => match getP env i [] with
  | some (.fro (.fn k)) => k = kf ∧ nCall n F ga env Q
  | _ => False
theorem mn_callL {k n : Nat} {f : Addr} {F : FX} (i kf : Nat) (hF : FB X.prog X.w X.K X.mg X.base cl k n f F) (hr : Room k X.A) (hc : cl kf = f) (hk : PySem.W.keepIn X.K (.ref f) = true) (ha : MA X cl (e :: es) ga) (hN : X.N[i]? = some x := by rfl)
    (hv : Vis X.env.scope x := by first | exact Or.inl rfl | exact Or.inr (Or.inl rfl) | exact Or.inr (Or.inr rfl)) (hdb : (x == ("__debug__" : Str)) = false := by decide) (hcd : (x == ("__classdict__" : Str)) = false := by decide)
    (he : starEach (e :: es) X.env = (false, eval e X.env) :: starEach es X.env := by rfl) (hpl : (backTo pos (starEach es X.env)).any (·.1) = false := by rfl) : MN X cl (.Call (.Name x p) (e :: es) [] pos) (nCallL i kf n F ga) := by
  obtain ⟨fd, ps, F0, hb⟩ := hF.ex
  refine ⟨fun env Q Q' k q => ?_, PEmono (pe_callL (i := i) (E := E0) F0 hr hN hv hk hb .nil pass0 ha.pa hdb hcd he hpl) fun σ H Q ⟨β, G, env, r0, q⟩ => ?_⟩
  · unfold nCallL at q ⊢
    split at q
    · exact ⟨q.1, nCall_mo ha.mo (hF.mo X.A hr) _ _ _ k q.2⟩
    · exact q.elim
  · unfold nCallL at q
    split at q
    · rename_i k' hk'
      obtain ⟨q1, q⟩ := q
      obtain ⟨v0, w, h1, h2, h3⟩ := r0.rd (p := []) (fun f hf => by cases hf) hk'
      have h2' : v0 = w := h2
      subst h2'
      unfold RepB Rep at h3
      subst h3; subst q1
      refine ⟨by rw [h1, hc], β, G, env, r0, ha.mo _ _ _ (fun as z vs H' G' e rs => ?_) q⟩
      simp only [List.append_nil]
      exact nCall_in (hF.mo X.A hr) r0 e rs z rfl
    · exact q.elim
/-! displays of new things -/
abbrev NSX := Env → (List OV → Prop) → Prop
def nsOf (K : PySem.W.Frag) (cl : Nat → Addr) (f : NSX) : TA := fun σ H Q => ∃ β G env, R K cl β σ H G env [] ∧ f env fun os => ∀ vs H' G' X_, Ext H G H' G' → RepOs K cl H' G' os vs X_ → (∀ b ∈ X_, H b = none ∧ G' b = none ∧ H' b ≠ none) → Q vs H'
structure MNS (X : Cx) (cl : Nat → Addr) (es : List Expr) (f : NSX) : Prop where
  mo : ∀ env (Q Q' : List OV → Prop), (∀ m, Q m → Q' m) → f env Q → f env Q'
  pa : PA X es (nsOf X.K cl f)
def nsN : NSX := fun _ Q => Q []
def nsC (na : NX) (ns : NSX) : NSX := fun env Q => na env fun o => ns env fun os => Q (o :: os)
variable {ns : NSX}
theorem mns_nil : MNS X cl [] nsN :=
  ⟨fun _ _ _ k q => k _ q, PAmono pa_nil fun σ H Q ⟨β, G, env, r0, q⟩ => q [] H G [] (Ext.refl r0.gh) (by unfold RepOs; exact ⟨rfl, rfl⟩) fun b hb => by cases hb⟩
theorem mns_cons (ha : MN X cl e na) (hr : MNS X cl es ns) (hs : starEach (e :: es) X.env = (false, eval e X.env) :: starEach es X.env := by rfl) : MNS X cl (e :: es) (nsC na ns) := by
  refine ⟨fun env Q Q' k q => ha.mo _ _ _ (fun o z => hr.mo _ _ _ (fun os w => k _ w) z) q, PAmono (pa_cons ha.pe hr.pa hs) fun σ H Q ⟨β, G, env, r0, q⟩ => ?_⟩
  refine ⟨β, G, env, r0, ha.mo _ _ _ (fun o z v H1 G1 X1 e1 ro h1 => ?_) q⟩
  refine ⟨β, G1, env, r0.ext e1, hr.mo _ _ _ (fun os z vs H2 G2 X2 e2 rs h2 => ?_) z⟩
  refine z (v :: vs) H2 G2 (X1 ++ X2) (e1.trans e2) ?_ fun b hb => ?_
  · unfold RepOs
    exact ⟨v, vs, X1, X2, rfl, rfl, RepO.frame e2.gg _ _ _ (fun b _ u hu => e2.hh b u hu) ro, rs, fun b hb hb2 => (h1 b hb).2.2 (h2 b hb2).1⟩
  · rcases List.mem_append.mp hb with y | y
    · obtain ⟨y1, y2, y3⟩ := h1 b y
      refine ⟨y1, e2.gn b y3 y2, ?_⟩
      obtain ⟨u, hu⟩ := Option.ne_none_iff_exists'.mp y3
      rw [e2.hh b u hu]; simp
    · obtain ⟨y1, y2, y3⟩ := h2 b y
      exact ⟨e1.hh.free y1, y2, y3⟩
def nNst (ns : NSX) : NX := fun env Q => ns env fun os => os.length ≤ sizeLine ∧ Q (.nst os)
theorem mn_nst (h : MNS X cl es ns) : MN X cl (.List es pos) (nNst ns) := by
  refine ⟨fun env Q Q' k q => h.mo _ _ _ (fun os z => ⟨z.1, k _ z.2⟩) q, PEmono (pe_lst h.pa) fun σ H Q ⟨β, G, env, r0, q⟩ => ⟨β, G, env, r0, h.mo _ _ _ (fun os z vs H1 G1 X1 e1 rs h1 => ?_) q⟩⟩
  refine ⟨by rw [RepOs.len rs]; exact z.1, fun p hp => z.2 (.ref p) _ G1 (p :: X1) (e1.trans (Ext.new0 e1.gh hp)) ?_ fun b hb => ?_⟩
  · unfold RepO
    exact ⟨p, vs, X1, rfl, rfl, upd_same, RepOs.frame (Same.refl _) _ _ _ (fun b hb u hu => by rw [upd_ne (fun y : b = p => (h1 b hb).2.2 (by rw [y]; exact hp))]; exact hu) rs, fun y => (h1 p y).2.2 hp⟩
  · rcases List.mem_cons.mp hb with rfl | y
    · exact ⟨e1.hh.free hp, e1.gh.free hp, by rw [upd_same]; simp⟩
    · obtain ⟨y1, y2, y3⟩ := h1 b y
      exact ⟨y1, y2, by rw [upd_ne (fun w : b = p => y3 (by rw [w]; exact hp))]; exact y3⟩
/-! a comprehension of new things -/
theorem RepOs.snoc2 {K : PySem.W.Frag} {H G : Hp} {o : OV} {v : V} {f : List Addr} (hr : RepO K cl H G o v f) : ∀ {os : List OV} {vs : List V} {fp : List Addr}, RepOs K cl H G os vs fp → (∀ b ∈ fp, b ∉ f) → RepOs K cl H G (os ++ [o]) (vs ++ [v]) (fp ++ f)
  | [], vs, fp, h, hd => by
    unfold RepOs at h
    obtain ⟨rfl, rfl⟩ := h
    show RepOs K cl H G [o] [v] f
    unfold RepOs
    exact ⟨v, [], f, [], rfl, by simp, hr, by unfold RepOs; exact ⟨rfl, rfl⟩, fun b _ z => by cases z⟩
  | q :: os, vs, fp, h, hd => by
    unfold RepOs at h
    obtain ⟨w, ws, f1, f2, rfl, rfl, h2, h3, h4⟩ := h
    show RepOs K cl H G (q :: (os ++ [o])) (w :: (ws ++ [v])) _
    unfold RepOs
    refine ⟨w, ws ++ [v], f1, f2 ++ f, rfl, by simp, h2, RepOs.snoc2 hr h3 (fun b hb => hd b (List.mem_append_right _ hb)), fun b hb z => ?_⟩
    rcases List.mem_append.mp z with y | y
    · exact h4 b hb y
    · exact hd b (List.mem_append_left _ hb) y
def lcoN (g : GX) (na : NX) (env0 : Env) : List MV → List OV → (List OV → Prop) → Prop
  | [], acc, Q => Q acc
  | m :: ms, acc, Q => g m env0 fun e => na e fun o => acc.length < sizeLine ∧ lcoN g na env0 ms (acc ++ [o]) Q
theorem lcoN_mo {env0 : Env} (hg : ∀ m env (Q Q' : Env → Prop), (∀ e, Q e → Q' e) → g m env Q → g m env Q') (hf : ∀ env (Q Q' : OV → Prop), (∀ m, Q m → Q' m) → na env Q → na env Q') :
    ∀ ms acc (Q Q' : List OV → Prop), (∀ m, Q m → Q' m) → lcoN g na env0 ms acc Q → lcoN g na env0 ms acc Q'
  | [], acc, Q, Q', k, q => k _ q
  | m :: ms, acc, Q, Q', k, q => hg _ _ _ _ (fun e z => hf _ _ _ (fun y z => ⟨z.1, lcoN_mo hg hf ms _ Q Q' k z.2⟩) z) q
def nLcO (vs : List Nat) (f : LX) (g : GX) (na : NX) : NX := fun env Q => f env fun ms => lcoN g na (wipeE env vs) ms [] fun os => Q (.nst os)
theorem mn_lcO {scope : Scope} {own : List (Str × Nat)} {f : LX} (hc : X.calm = true) (hN : X.N.Nodup) (hi : MJ X cl tg iter f) (ok : BlkOk X.N X.env.scope scope own)
    (hg : ∃ is, (∀ j ∈ is, j ∈ own.map (·.2)) ∧ ∀ (s : Shared) (H : Hp) (C : Addr) (cl' : List (Str × Addr)) (fp : List Addr), MG (BlkX X scope s H C cl' fp) cl tg g is)
    (he : ∀ (s : Shared) (H : Hp) (C : Addr) (cl' : List (Str × Addr)) (fp : List Addr), MN (BlkX X scope s H C cl' fp) cl elt na) (m0 : Nonempty (Shared × Hp)) (hs : ∀ x, foldedSetIterable iter X.env x = pure x := by intro _; rfl) :
    MN X cl (.ListComp elt [⟨tg, iter, [], 0⟩] scope pos) (nLcO (own.map (·.2)) f g na) := by
  obtain ⟨is, his, hg⟩ := hg
  obtain ⟨s0, H0⟩ := m0
  have gmo := (hg s0 H0 0 [] []).mo
  have emo := (he s0 H0 0 [] []).mo
  refine ⟨fun env Q Q' k q => hi.mo _ _ _ (fun ms z => lcoN_mo gmo emo ms _ _ _ (fun _ w => k _ w) z) q, PEmono (pe_lc (te := nOf X.K cl na) (tt := tOf X.K cl tYesX) (g := gOf X.K cl g is) hc hN hi.pi ok (fun s H C cl' fp => (hg s H C cl' fp).pg) (fun s H C cl' fp => (mts_nil (X := BlkX X scope s H C cl' fp) (cl := cl)).pt) (fun s H C cl' fp => (he s H C cl' fp).pe) hs) fun σ H Q ⟨β, G, env, r0, q⟩ => ?_⟩
  refine ⟨β, G, env, r0, hi.mo _ _ _ (fun ms z J H1 G1 KH e1 hk it D hD => ?_) q⟩
  obtain ⟨Y, w, hy⟩ := it
  generalize own.map (·.2) = vs at *
  refine lc_it w (fun i H2 => ∃ G2 acc us fp, Ext H1 G1 H2 G2 ∧ H2 D = some (.lst us) ∧ G2 D = none ∧ RepOs X.K cl H2 G2 acc us fp ∧ (∀ b ∈ fp, H1 b = none ∧ b ≠ D ∧ G2 b = none ∧ H2 b ≠ none) ∧
      lcoN g na (wipeE env vs) (ms.drop i) acc fun os => ∀ v H' G' X_, Ext H G H' G' → RepO X.K cl H' G' (.nst os) v X_ → (∀ b ∈ X_, H b = none ∧ G' b = none ∧ H' b ≠ none) → Q v H')
    ⟨G1, [], [], [], Ext.new0 e1.gh hD, upd_same, e1.gh.free hD, by unfold RepOs; exact ⟨rfl, rfl⟩, fun b hb => (by cases hb), z⟩ (fun i H2 _ ⟨G2, _, _, _, e2, _⟩ => hk.trans e2.hh) (fun i x H2 H3 hi' ⟨G2, acc, us, fp, e2, hd, gd, ra, hf, q⟩ y => ?_) fun H2 ⟨G2, acc, us, fp, e2, hd, gd, ra, hf, q⟩ => ?_
  · obtain ⟨G3, m, e3, hm, rm⟩ := hy i H2 G2 x H3 hi' (hk.trans e2.hh) e2.gg e2.gh y
    have hdr : ms.drop i = m :: ms.drop (i + 1) := by
      rw [List.drop_eq_getElem_cons hi']
      congr 1
      rw [List.getElem?_eq_getElem hi'] at hm
      exact Option.some.inj hm
    rw [hdr] at q
    have e13 := e2.trans e3
    have r3 := (r0.ext (e1.trans e13)).wipe vs
    refine ⟨β, G3, _, m, r3, rm, gmo _ _ _ _ (fun en z2 σ2 r4 ag => ⟨wipe_agr ag his, β, G3, en, r4, (fun H5 G5 e5 => ?_ : ∀ H5 G5, Ext H3 G3 H5 G5 → _)⟩) q⟩
    show if (true = true) then _ else _
    rw [if_pos rfl]
    refine ⟨β, G5, en, r4.ext e5, emo _ _ _ (fun o z3 v H6 G6 X6 e6 ro hX => ?_) z2⟩
    have e36 := (e3.trans e5).trans e6
    have e16 := e2.trans e36
    have hd6 := e36.hh _ _ hd
    have gd6 := e36.gn D (by rw [hd]; simp) gd
    have hD6 : ∀ b ∈ X6, b ≠ D := fun b hb y => by
      have := (hX b hb).1
      rw [y, (e3.trans e5).hh _ _ hd] at this; cases this
    refine ⟨us, hd6, by rw [RepOs.len ra]; exact z3.1, G6, acc ++ [o], us ++ [v], fp ++ X6, ⟨fun b u hb => ?_, e16.gg, fun b u hb => ?_, e16.gn⟩, upd_same, gd6, ?_, fun b hb => ?_, z3.2⟩
    · rw [upd_ne (ne_of_none hb hD)]; exact e16.hh b u hb
    · rw [upd_ne (ne_of_none hb gd6)]; exact e16.gh b u hb
    · refine RepOs.snoc2 (RepO.frame (Same.refl _) _ _ _ (fun b hb u hu => by rw [upd_ne (hD6 b hb)]; exact hu) ro) (RepOs.frame e36.gg _ _ _ (fun b hb u hu => by rw [upd_ne (hf b hb).2.1]; exact e36.hh b u hu) ra) fun b hb hb6 => ?_
      have h5 := (hX b hb6).1
      obtain ⟨u, hu⟩ := Option.ne_none_iff_exists'.mp (hf b hb).2.2.2
      rw [(e3.trans e5).hh b u hu] at h5; cases h5
    · rcases List.mem_append.mp hb with w | w
      · obtain ⟨w1, w2, w3, w4⟩ := hf b w
        refine ⟨w1, w2, e36.gn b w4 w3, ?_⟩
        obtain ⟨u, hu⟩ := Option.ne_none_iff_exists'.mp w4
        rw [upd_ne w2, e36.hh b u hu]; simp
      · obtain ⟨w1, w2, w3⟩ := hX b w
        refine ⟨((e2.trans e3).trans e5).hh.free w1, hD6 b w, w2, ?_⟩
        rw [upd_ne (hD6 b w)]; exact w3
  · rw [List.drop_length] at q
    have q' : ∀ v H' G' X_, Ext H G H' G' → RepO X.K cl H' G' (.nst acc) v X_ → (∀ b ∈ X_, H b = none ∧ G' b = none ∧ H' b ≠ none) → Q v H' := q
    refine q' (.ref D) H2 G2 (D :: fp) (e1.trans e2) ?_ fun b hb => ?_
    · unfold RepO
      exact ⟨D, us, fp, rfl, rfl, hd, ra, fun y => (hf D y).2.1 rfl⟩
    · rcases List.mem_cons.mp hb with rfl | w
      · exact ⟨e1.hh.free hD, gd, by rw [hd]; simp⟩
      · obtain ⟨w1, w2, w3, w4⟩ := hf b w
        exact ⟨e1.hh.free w1, w3, w4⟩
/-! [list(row) for row in rows], whoever holds the rows -/
def rowsO : List OV → Option (List MV)
  | [] => some []
  | .lst ms :: os => match rowsO os with
    | some rs => some (.lst ms :: rs)
    | none => none
  | _ :: _ => none
def rowsM : List MV → Option (List MV)
  | [] => some []
  | .lst ms :: os => match rowsM os with
    | some rs => some (.lst ms :: rs)
    | none => none
  | _ :: _ => none
def RowsAt (K : PySem.W.Frag) (cl : Nat → Addr) (H G : Hp) (rs : List MV) (vs : List V) : Prop := vs.length = rs.length ∧ ∀ (i : Nat) (m : MV), rs[i]? = some m → ∃ (e : Addr) (ws : List V) (ms : List MV), vs[i]? = some (V.ref e) ∧ m = MV.lst ms ∧ H e = some (HO.lst ws) ∧ Reps K cl G ms ws
theorem rowsAt_cons {K : PySem.W.Frag} {H G : Hp} {rs : List MV} {vs : List V} {e : Addr} {ws : List V} {ms : List MV} (h : RowsAt K cl H G rs vs) (h1 : H e = some (.lst ws)) (h2 : Reps K cl G ms ws) : RowsAt K cl H G (.lst ms :: rs) (.ref e :: vs) := by
  refine ⟨by simp [h.1], fun i m hm => ?_⟩
  cases i with
  | zero => simp at hm; subst hm; exact ⟨e, ws, ms, rfl, rfl, h1, h2⟩
  | succ i =>
    obtain ⟨e', ws', ms', y1, y2⟩ := h.2 i m (by simpa using hm)
    exact ⟨e', ws', ms', by simpa using y1, y2⟩
theorem rowsO_at {K : PySem.W.Frag} {H G : Hp} : ∀ {os : List OV} {rs : List MV} {vs : List V}, rowsO os = some rs → RepBs K cl H G os vs → RowsAt K cl H G rs vs
  | [], rs, vs, h, r => by
    unfold rowsO at h; cases h
    unfold RepBs at r; subst r
    exact ⟨rfl, fun i m hm => by simp at hm⟩
  | o :: os, rs, vs, h, r => by
    unfold RepBs at r
    obtain ⟨v, ws, rfl, r1, r2⟩ := r
    cases o with
    | lst ms =>
      unfold rowsO at h
      cases e : rowsO os with
      | none => rw [e] at h; cases h
      | some rs' =>
        rw [e] at h; cases h
        unfold RepB at r1
        obtain ⟨a, us, rfl, y1, y2⟩ := r1
        exact rowsAt_cons (rowsO_at e r2) y1 y2
    | _ => unfold rowsO at h; cases h
theorem rowsM_at {K : PySem.W.Frag} {H G : Hp} (g : Same G H) : ∀ {os rs : List MV} {vs : List V}, rowsM os = some rs → Reps K cl G os vs → RowsAt K cl H G rs vs
  | [], rs, vs, h, r => by
    unfold rowsM at h; cases h
    unfold Reps at r; subst r
    exact ⟨rfl, fun i m hm => by simp at hm⟩
  | o :: os, rs, vs, h, r => by
    unfold Reps at r
    obtain ⟨v, ws, rfl, r1, r2⟩ := r
    cases o with
    | lst ms =>
      unfold rowsM at h
      cases e : rowsM os with
      | none => rw [e] at h; cases h
      | some rs' =>
        rw [e] at h; cases h
        unfold Rep at r1
        obtain ⟨a, us, rfl, y1, y2⟩ := r1
        exact rowsAt_cons (rowsM_at g e r2) (g _ _ y1) y2
    | _ => unfold rowsM at h; cases h
def onRows (o : OV) (Q : List MV → Prop) : Prop := match o with
  | .nst os => match rowsO os with
    | some rs => Q rs
    | none => False
  | o => asL o fun ms => match rowsM ms with
    | some rs => Q rs
    | none => False
theorem onRows_mo {o : OV} {Q Q' : List MV → Prop} (k : ∀ m, Q m → Q' m) (h : onRows o Q) : onRows o Q' := by
  unfold onRows at h ⊢
  split at h
  · split at h
    · exact k _ h
    · exact h
  · refine asL_mo (fun ms z => ?_) h
    split at z
    · exact k _ z
    · exact z
theorem onRows_rep {K : PySem.W.Frag} {H G : Hp} {o : OV} {v : V} {Q : List MV → Prop} (g : Same G H) (h : onRows o Q) (r : RepB K cl H G o v) : ∃ a vs rs, v = .ref a ∧ H a = some (.lst vs) ∧ RowsAt K cl H G rs vs ∧ Q rs := by
  unfold onRows at h
  split at h
  · rename_i os
    split at h
    · rename_i rs hr
      unfold RepB at r
      obtain ⟨a, vs, rfl, h1, h2⟩ := r
      exact ⟨a, vs, rs, rfl, h1, rowsO_at hr h2, h⟩
    · exact h.elim
  · obtain ⟨ms, a, vs, rfl, h1, h2, z⟩ := asL_rep g h r
    split at z
    · rename_i rs hr
      exact ⟨a, vs, rs, rfl, h1, rowsM_at g hr h2, z⟩
    · exact z.elim
def nRows (i : Nat) (qa : QX) : NX := fun env Q => qa env fun o => onRows o fun rs => (rs.length ≤ sizeLine ∧ i < env.length) ∧ Q (.lst rs)
def tRow (i : Nat) : TE := fun σ H Q => ∃ (e : Addr) (ws : List V), σ[i]? = some (some (V.ref e)) ∧ H e = some (HO.lst ws) ∧ ∀ l, H l = none → Q (.ref l) (upd H l (.lst ws))
theorem pe_row (i : Nat) {y : Str} {py : Pos} (hg : Gl X "list") (hm : X.mg "list" = none) (hN : X.N[i]? = some y := by rfl) (hv : Vis X.env.scope y := by first | exact Or.inl rfl | exact Or.inr (Or.inl rfl) | exact Or.inr (Or.inr rfl)) (hd : (y == ("__debug__" : Str)) = false := by decide)
    (hcd : (y == ("__classdict__" : Str)) = false := by decide) (hs : starEach [.Name y py] X.env = (false, eval (.Name y py) X.env) :: starEach [] X.env := by rfl) : PE X (.Call (.Name "list" p) [.Name y py] [] pos) (tRow i) :=
  PEmono (pe_callTy call_list_of hg hm (by rfl) (pa_cons (pe_var hN hv hd hcd) pa_nil hs) (by decide) (by decide) hs rfl) fun σ H Q ⟨e, ws, h1, h2, q⟩ => ⟨.ref e, h1, e, ws, rfl, .inl (SqL.of h2), q⟩
theorem mn_rows {scope : Scope} {own : List (Str × Nat)} (i : Nat) (hc : X.calm = true) (hN : X.N.Nodup) (hi : MQ X cl iter qa) (ok : BlkOk X.N X.env.scope scope own) (hio : own.map (·.2) = [i])
    (hg : ∀ (s : Shared) (H : Hp) (C : Addr) (cl' : List (Str × Addr)) (fp : List Addr), PG (BlkX X scope s H C cl' fp) tg (gName i))
    (he : ∀ (s : Shared) (H : Hp) (C : Addr) (cl' : List (Str × Addr)) (fp : List Addr), PE (BlkX X scope s H C cl' fp) elt (tRow i)) (hs : ∀ x, foldedSetIterable iter X.env x = pure x := by intro _; rfl) :
    MN X cl (.ListComp elt [⟨tg, iter, [], 0⟩] scope pos) (nRows i qa) := by
  refine ⟨fun env Q Q' k q => hi.mo _ _ _ (fun o z => onRows_mo (fun rs w => ⟨w.1, k _ w.2⟩) z) q, PEmono (pe_lc (te := tRow i) (tt := tYes) (g := gName i) hc hN (pi_list hi.pe) ok hg (fun s H C cl' fp => pts_nil) he hs) fun σ H Q ⟨β, G, env, r0, q⟩ => ?_⟩
  refine ⟨β, G, env, r0, hi.mo _ _ _ (fun o z v H1 G1 e1 rv => ?_) q⟩
  obtain ⟨a, vs, rs, rfl, h1, ra, z⟩ := onRows_rep e1.gh z rv
  refine ⟨a, rfl, ⟨vs, SqL.of h1⟩, fun D hD => ?_⟩
  rw [hio]
  have w := walk_list (K := X.K) (a := a) (xs := vs)
  refine lc_it w (fun j H2 => ∃ G2 us, Ext H1 G1 H2 G2 ∧ H2 D = some (.lst us) ∧ G2 D = none ∧ Reps X.K cl G2 (rs.take j) us)
    ⟨G1, [], Ext.new0 e1.gh hD, upd_same, e1.gh.free hD, by simpa using Reps.nil⟩ (fun j H2 _ ⟨G2, _, e2, _⟩ => SqL.of (e2.hh _ _ h1)) (fun j x H2 H3 hj ⟨G2, us, e2, hd, gd, r2⟩ y => ?_) fun H2 ⟨G2, us, e2, hd, gd, r2⟩ => ?_
  · obtain ⟨rfl, y⟩ := y
    have hj' : j < rs.length := by rw [← ra.1]; exact hj
    obtain ⟨m, hm⟩ : ∃ m, rs[j]? = some m := ⟨rs[j], by simp [hj']⟩
    obtain ⟨e, ws, ms, y1, rfl, y2, y3⟩ := ra.2 j m hm
    rw [y1] at y; cases y
    have hil : i < σ.length := by rw [← r0.len]; exact z.1.2
    have hw : L2.wipe σ [i] = σ.set i none := rfl
    refine ⟨?_, ?_⟩
    · rw [hw]
      show ((σ.set i none).set i (some (.ref e))).set i none = σ.set i none
      rw [List.set_set, List.set_set]
    · unfold tYes
      dsimp only
      rw [if_pos rfl]
      refine ⟨e, ws, ?_, e2.hh _ _ y2, fun l hl => ?_⟩
      · rw [hw]
        exact List.getElem?_set_self (by rw [List.length_set]; exact hil)
      · have hDl : D ≠ l := fun w => by rw [w, hl] at hd; cases hd
        have hgl : G2 l = none := e2.gh.free hl
        have en : Ext H3 G2 (upd H3 l (.lst ws)) (upd G2 l (.lst ws)) := Ext.new e2.gh hl
        have e3 := e2.trans en
        refine ⟨us, by rw [upd_ne hDl]; exact hd, ?_, upd G2 l (.lst ws), us ++ [.ref l], ⟨fun b u hb => ?_, e3.gg, fun b u hb => ?_, e3.gn⟩, upd_same, by rw [upd_ne hDl]; exact gd, ?_⟩
        · rw [Reps.len _ _ r2, List.length_take]
          have := z.1.1
          omega
        · rw [upd_ne (ne_of_none hb hD)]; exact e3.hh b u hb
        · have hbD : b ≠ D := fun w => by
            rw [w, upd_ne hDl, gd] at hb; cases hb
          rw [upd_ne hbD]; exact en.gh b u hb
        · have ht : rs.take (j + 1) = rs.take j ++ [.lst ms] := by
            rw [List.take_add_one, hm]; rfl
          rw [ht]
          refine Reps.app _ _ _ _ (Reps.same en.gg _ _ r2) (Reps.one ?_)
          unfold Rep
          exact ⟨l, ws, rfl, upd_same, Reps.same (e2.gg.trans en.gg) _ _ y3⟩
  · refine z.2 (.ref D) H2 G2 [D] (e1.trans e2) ?_ fun b hb => ?_
    · unfold RepO
      refine ⟨D, us, rfl, rfl, hd, ?_⟩
      have : rs.take vs.length = rs := by rw [ra.1, List.take_length]
      rw [this] at r2
      exact r2
    · have : b = D := by simpa using hb
      subst this
      exact ⟨e1.hh.free hD, gd, by rw [hd]; simp⟩
/-! a list of owned things gets a new one -/
def xAppO (i : Nat) (p : List Nat) (na : NX) : XX := fun env Q _ => match ownP env i p with
  | some (.nst os) => na env fun o => os.length < sizeLine ∧ Q (.fro .non) (setP env i p (.nst (os ++ [o])))
  | _ => False
theorem mx_appO {o : Expr} {i : Nat} {pl : List Nat} {apos cpos : Pos} (ho : MP X o i pl) (ha : MN X cl e na) (hp : fld38 pl = true := by rfl) (he : starEach [e] X.env = (false, eval e X.env) :: starEach [] X.env := by rfl)
    (hbase : attributeBase o "append" X.env (eval o X.env) = eval o X.env := by rfl)
    (hfew : ((backTo cpos (starEach [e] X.env)).all (fun x => !x.1) && (backToKw cpos (keywordEach [] X.env)).all (fun x => x.1.isSome) && decide ([e].length + ([] : List Keyword).length + (if ([] : List Keyword).isEmpty then 0 else 1) < 30)) = true := by rfl)
    (hline : (apos.endLine == cpos.line) = true := by rfl) : MX X cl W (.Call (.Attribute o "append" apos) [e] [] cpos) (xAppO i pl na) := by
  refine ⟨fun env Q Q' E E' k _ q => ?_, PEmono (pe_bm PySem.F.plainAttrs_list PySem.F.slot_list_append PySem.F.type_list_append mt_append ho (pa_cons ha.pe pa_nil he) hbase hfew hline he rfl) fun σ H Q ⟨β, G, env, r0, q⟩ => ?_⟩
  · unfold xAppO at q ⊢
    split at q
    · exact ha.mo _ _ _ (fun m z => ⟨z.1, k _ _ z.2⟩) q
    · exact q.elim
  · unfold xAppO at q
    split at q
    · rename_i os h
      obtain ⟨v0, w, f1, h1, h2, h3, _⟩ := r0.write (fld38_out hp) h
      unfold RepO at h3
      obtain ⟨l, vs, fq, rfl, rfl, y1, _⟩ := h3
      refine ⟨v0, .ref l, h1, h2, .inl ⟨rfl, vs, SqL.of y1⟩, β, G, env, r0, ha.mo _ _ _ (fun on z v H1 G1 X1 e1 ro hX => ?_) q⟩
      have r1 := r0.extX e1 hX
      obtain ⟨v0', w', f1', g1, g2, g3, g4, g5, g6⟩ := r1.write (fld38_out hp) h
      rw [h1] at g1; cases g1
      have := PAt.uniq (PAt.same e1.hh h2) g2
      subst this
      unfold RepO at g3
      obtain ⟨l', vs', fq', hl, rfl, x1, x2, x3⟩ := g3
      cases hl
      refine ⟨l, vs', v, rfl, rfl, x1, by rw [RepOs.len x2]; exact z.1, ?_⟩
      have nl : ∀ b ∈ X1, b ≠ l := fun b hb y => g5 l List.mem_cons_self (y ▸ hb)
      have nq : ∀ b ∈ fq', b ≠ l := fun b hb y => x3 (y ▸ hb)
      refine z.2 .non _ G1 [] (g6 (upd H1 l (.lst (vs' ++ [v]))) G1 (.nst (os ++ [on])) (l :: (fq' ++ X1)) (Same.refl _) (fun b u hb => ?_) (fun b hb u hu => ?_) (fun b _ q => q) ?_ (fun b hb => ?_) fun b hb => ?_) e1.gg rn
      · rw [upd_ne (fun y => by rw [y, g4 l List.mem_cons_self] at hb; cases hb)]; exact e1.gh b u hb
      · rw [upd_ne (fun y => hb (by rw [y]; exact List.mem_cons_self))]; exact hu
      · unfold RepO
        refine ⟨l, vs' ++ [v], fq' ++ X1, rfl, rfl, upd_same, RepOs.snoc2 (RepO.frame (Same.refl _) _ _ _ (fun b hb u hu => by rw [upd_ne (nl b hb)]; exact hu) ro) (RepOs.frame (Same.refl _) _ _ _ (fun b hb u hu => by rw [upd_ne (nq b hb)]; exact hu) x2) (fun b hb => g5 b (List.mem_cons_of_mem _ hb)), fun y => ?_⟩
        rcases List.mem_append.mp y with y | y
        · exact x3 y
        · exact g5 l List.mem_cons_self y
      · rcases List.mem_cons.mp hb with y | y
        · exact .inl (by rw [y]; exact List.mem_cons_self)
        · rcases List.mem_append.mp y with y | y
          · exact .inl (List.mem_cons_of_mem _ y)
          · exact .inr (.inl y)
      · rcases List.mem_cons.mp hb with y | y
        · exact g4 b (by rw [y]; exact List.mem_cons_self)
        · rcases List.mem_append.mp y with y | y
          · exact g4 b (List.mem_cons_of_mem _ y)
          · exact (hX b y).2.1
    · exact q.elim
end
end C
namespace C
open PySem PySem.Spec PyProof.Rows L2
/-! ### for row in g[k]: row.append(e), g an own list of owned things, g[k] a list of own lists -/
section
variable {K : PySem.W.Frag} {cl : Nat → Addr} {H H' G G' : Hp} {β : Bs} {σ : L2.St} {env : Env} {X : List Addr}
/-- what is owned besides is written -/
theorem R.updX2 (r : R K cl β σ H G env X) {p : Addr} {o : HO} (hp : p ∈ X) : R K cl β σ (upd H p o) G env X := by
  obtain ⟨fp, s1, s2, s3, s4⟩ := r.sl
  obtain ⟨p1, p2, p3, p4⟩ := s4 p hp
  refine ⟨r.len, r.g0, fun b u hb => ?_, fun b u hb n => ?_, r.gk, fp, fun i s hs => ?_, s2, s3, fun b hb => ?_⟩
  · rw [upd_ne (fun y => by rw [y, p2] at hb; cases hb)]; exact r.gh b u hb
  · rw [upd_ne (fun y : b = p => ?_)]
    · exact r.hk b u hb n
    · rcases p3 with q | q
      · rw [y, q] at hb; cases hb
      · exact n (by rw [y]; exact q)
  · exact (s1 i s hs).frame (Same.refl _) fun b hb u hu => by
      rw [upd_ne (fun y : b = p => p4 i (List.getElem?_eq_some_iff.mp hs).1 (by rw [← y]; exact hb))]; exact hu
  · obtain ⟨q1, q2, q3, q4⟩ := s4 b hb
    refine ⟨?_, q2, q3, q4⟩
    by_cases y : b = p
    · rw [y, upd_same]; simp
    · rw [upd_ne y]; exact q1
theorem R.subX (r : R K cl β σ H G env X) {X' : List Addr} (h : ∀ b ∈ X', b ∈ X) : R K cl β σ H G env X' := by
  obtain ⟨fp, s1, s2, s3, s4⟩ := r.sl
  exact ⟨r.len, r.g0, r.gh, r.hk, r.gk, fp, s1, s2, s3, fun b hb => s4 b (h b hb)⟩
theorem R.forget (r : R K cl β σ H G env X) (i : Nat) : R K cl β σ H G (env.set i .un) X := by
  obtain ⟨fp, s1, s2, s3, s4⟩ := r.sl
  refine ⟨by rw [List.length_set, r.len], r.g0, r.gh, r.hk, r.gk, fun j => if j = i then [] else fp j, fun j s hs => ?_, fun j b hj hb => ?_, fun j k b hj hk h1 h2 => ?_, fun b hb => ?_⟩
  all_goals (try dsimp only at *)
  · by_cases e : j = i
    · subst e
      rw [if_pos rfl]
      have hl : j < env.length := by have := (List.getElem?_eq_some_iff.mp hs).1; rwa [List.length_set] at this
      rw [List.getElem?_set_self hl] at hs
      cases hs
      unfold SRep
      rfl
    · rw [if_neg e]
      rw [List.getElem?_set_ne (Ne.symm e)] at hs
      exact s1 j s hs
  · rw [List.length_set] at hj
    by_cases e : j = i
    · rw [if_pos e] at hb; cases hb
    · rw [if_neg e] at hb; exact s2 j b hj hb
  · rw [List.length_set] at hj hk
    by_cases e : j = i
    · rw [if_pos e] at h1; cases h1
    · by_cases e' : k = i
      · rw [if_pos e'] at h2; cases h2
      · rw [if_neg e] at h1; rw [if_neg e'] at h2; exact s3 j k b hj hk h1 h2
  · obtain ⟨h1, h2, h3, h4⟩ := s4 b hb
    refine ⟨h1, h2, h3, fun j hj => ?_⟩
    rw [List.length_set] at hj
    by_cases e : j = i
    · rw [if_pos e]; simp
    · rw [if_neg e]; exact h4 j hj
/-- a slot's value does not matter -/
theorem R.unsetv (r : R K cl β σ H G env X) (i : Nat) (v : Option V) (hi : i < env.length) : R K cl β (σ.set i v) H G (env.set i .un) X := by
  have := (r.unset i).junk (i := i) (List.getElem?_set_self hi) v
  rw [List.set_set] at this
  exact this
end
def lsOf : List OV → Option (List (List MV))
  | [] => some []
  | .lst ms :: os => match lsOf os with
    | some rs => some (ms :: rs)
    | none => none
  | _ :: _ => none
theorem lsOf_eq : ∀ {os : List OV} {rs : List (List MV)}, lsOf os = some rs → os = rs.map OV.lst
  | [], rs, h => by unfold lsOf at h; cases h; rfl
  | o :: os, rs, h => by
    cases o with
    | lst ms =>
      unfold lsOf at h
      cases e : lsOf os with
      | none => rw [e] at h; cases h
      | some rs' => rw [e] at h; cases h; rw [lsOf_eq e]; rfl
    | _ => unfold lsOf at h; cases h
theorem lsOf_map : ∀ rs : List (List MV), lsOf (rs.map OV.lst) = some rs
  | [] => rfl
  | r :: rs => by show lsOf (OV.lst r :: rs.map OV.lst) = _; unfold lsOf; rw [lsOf_map rs]
def appR (fa : EX) (en : Env) : List (List MV) → List (List MV) → (List (List MV) → Prop) → Prop
  | [], acc, Q => Q acc
  | r :: rs, acc, Q => fa en fun m => r.length < sizeLine ∧ appR fa en rs (acc ++ [r ++ [m]]) Q
theorem appR_mo {fa : EX} {en : Env} (hf : ∀ env (Q Q' : MV → Prop), (∀ m, Q m → Q' m) → fa env Q → fa env Q') : ∀ rs acc (Q Q' : List (List MV) → Prop), (∀ m, Q m → Q' m) → appR fa en rs acc Q → appR fa en rs acc Q'
  | [], acc, Q, Q', k, q => k _ q
  | r :: rs, acc, Q, Q', k, q => hf _ _ _ (fun m z => ⟨z.1, appR_mo hf rs _ Q Q' k z.2⟩) q
def forApp (i k j : Nat) (fa : EX) : SX := fun env K => match env[i]? with
  | some (.ow (.nst os)) => match os[k]? with
    | some (.nst rows) => match lsOf rows with
      | some rs => (i ≠ j ∧ j < env.length) ∧ appR fa ((env.set i .un).set j .un) rs [] fun rs' => K.nx ((env.set j .un).set i (.ow (.nst (os.set k (.nst (rs'.map .lst))))))
      | none => False
    | _ => False
  | _ => False
section
variable {X : Cx} {cl : Nat → Addr} {W : WX} {a e : Expr} {fa : EX} {x y : Str} {pos p1 p2 p3 p4 p5 : Pos}
theorem ms_forApp (i k j : Nat) {apos cpos : Pos} (hp : PassesOwn (model X.prog X.w) X.A X.env X.xe) (hc : X.calm = true) (hN : X.N.Nodup) (ho : MP X a i [38 + k]) (ha : ME X cl e fa) (hj : X.N[j]? = some y := by rfl) (hy : Loc X.env.scope y := by first | exact Or.inl rfl | exact Or.inr rfl)
    (hyf : X.fn y = true ∨ X.env.scope.names.lookup y = some .local := by first | exact .inl rfl | exact .inr rfl | assumption) (hv : Vis X.env.scope y := by first | exact Or.inl rfl | exact Or.inr rfl)
    (hyd : (y == ("__debug__" : Str)) = false := by decide) (hyc : (y == ("__classdict__" : Str)) = false := by decide)
    (he : starEach [e] X.env = (false, eval e X.env) :: starEach [] X.env := by rfl)
    (hbase : attributeBase (.Name y p1) "append" X.env (eval (.Name y p1) X.env) = eval (.Name y p1) X.env := by rfl)
    (hfew : ((backTo cpos (starEach [e] X.env)).all (fun x => !x.1) && (backToKw cpos (keywordEach [] X.env)).all (fun x => x.1.isSome) && decide ([e].length + ([] : List Keyword).length + (if ([] : List Keyword).isEmpty then 0 else 1) < 30)) = true := by rfl)
    (hline : (apos.endLine == cpos.line) = true := by rfl) (hsw : swapsWith (.Call (.Attribute (.Name y p1) "append" apos) [e] [] cpos) none p3.line X.env = pure false := by rfl)
    (hs : ∀ x, foldedSetIterable a X.env x = pure x := by intro _; rfl) :
    MS X cl W (.For (.Name y p2) a [.Expr (.Call (.Attribute (.Name y p1) "append" apos) [e] [] cpos) p3] [] pos) (forApp i k j fa) := by
  have B := ps_expr (X := X) (pos := p3) (pe_bm (cpos := cpos) (apos := apos) PySem.F.plainAttrs_list PySem.F.slot_list_append PySem.F.type_list_append mt_append (pe_var (pos := p1) hj hv hyd hyc) (pa_cons ha.pe pa_nil he) hbase hfew hline he rfl) hsw
  refine ⟨fun env K K' l q => ?_, PSmono (ps_for hp hc (pi_list ho) (pg_name (pos := p2) hN hj hy hyf) (pss_one B) hs) fun D σ H ⟨β, G, env, r0, q⟩ => ?_⟩
  · unfold forApp at q ⊢
    split at q
    case h_2 => exact q.elim
    split at q
    case h_2 => exact q.elim
    split at q
    case h_2 => exact q.elim
    exact ⟨q.1, appR_mo ha.mo _ _ _ _ (fun _ z => l.nx _ z) q.2⟩
  · unfold forApp at q
    split at q
    case h_2 => exact q.elim
    rename_i os e1
    split at q
    case h_2 => exact q.elim
    rename_i rows e2
    split at q
    case h_2 => exact q.elim
    rename_i rs e3
    obtain ⟨⟨hij, hjl⟩, q⟩ := q
    have hil : i < env.length := (List.getElem?_eq_some_iff.mp e1).1
    obtain ⟨v, X0, hvσ, ro, r1⟩ := r0.take e1
    unfold RepO at ro
    obtain ⟨l, vs, fq, rfl, rfl, h1, h2, h3⟩ := ro
    obtain ⟨u, fk, u1, u2, u3, u4⟩ := RepOs.get h2 e2
    have rows_eq := lsOf_eq e3
    subst rows_eq
    unfold RepO at u2
    obtain ⟨t, us, fr, rfl, rfl, t1, t2, t3⟩ := u2
    refine ⟨.ref l, .ref t, hvσ, .inr ⟨by omega, l, vs, .ref t, rfl, h1, by rw [show 38 + k - 38 = k by omega]; exact u1, rfl⟩, t, rfl, ⟨us, SqL.of t1⟩, ?_⟩
    have hus : us.length = rs.length := by rw [RepOs.len t2, List.length_map]
    -- the turns
    refine for_it (walk_list (K := X.K) (a := t) (xs := us)) (fun n σ' H' => ∃ (G' : Hp) (done : List (List MV)), R X.K cl β σ' H' G' ((env.set i .un).set j .un) (l :: fq) ∧ Same G G' ∧ σ'[i]? = some (some (V.ref l)) ∧ H' t = some (HO.lst us) ∧
      (∀ b, b ≠ t → b ∉ fr → ∀ w, H b = some w → H' b = some w) ∧ done.length = n ∧ (∃ fr', RepOs X.K cl H' G' ((done ++ rs.drop n).map OV.lst) us fr' ∧ ∀ b ∈ fr', b ∈ fr) ∧
      appR fa ((env.set i .un).set j .un) (rs.drop n) done fun rs' => (kOf X.K cl W β G D).nx ((env.set j .un).set i (.ow (.nst (os.set k (.nst (rs'.map .lst)))))))
      ⟨G, [], ?_, Same.refl _, hvσ, t1, fun b _ _ w hw => hw, rfl, ⟨fr, t2, fun _ z => z⟩, q⟩ (fun n σ' H' _ ⟨G', dn, _, _, _, h, _⟩ => SqL.of h) (fun n x σ' H' H2 hn ⟨G', dn, r', gg, hσ', ht, hfr, hdn, ⟨fr', hre, hsub⟩, q⟩ yy => ?_) fun σ' H' ⟨G', dn, r', gg, hσ', ht, hfr, hdn, ⟨fr', hre, hsub⟩, q⟩ => ?_
    · exact r1.forget j
    · obtain ⟨rfl, yx⟩ := yy
      have hn' : n < rs.length := by rw [← hus]; exact hn
      have hdr : rs.drop n = rs[n] :: rs.drop (n + 1) := List.drop_eq_getElem_cons hn'
      generalize hr : rs[n] = row at hdr
      rw [hdr] at q hre
      have hun : ((env.set i .un).set j .un)[j]? = some .un := List.getElem?_set_self (by rw [List.length_set]; exact hjl)
      have hat : ((dn ++ row :: rs.drop (n + 1)).map OV.lst)[n]? = some (.lst row) := by
        rw [List.map_append, List.getElem?_append_right (by rw [List.length_map]; omega), List.length_map, hdn, Nat.sub_self]; rfl
      obtain ⟨xv, fk, w1, w2, w3, w4⟩ := RepOs.get hre hat
      rw [yx] at w1; cases w1
      unfold RepO at w2
      obtain ⟨ra, ws, rfl, rfl, z1, z2⟩ := w2
      have hra : ra ∈ fr := hsub ra (w3 ra (by simp))
      have hjσ : j < σ'.length := by rw [← r'.len]; rw [List.length_set, List.length_set]; exact hjl
      have r2 : R X.K cl β (σ'.set j (some (.ref ra))) H2 G' ((env.set i .un).set j .un) (l :: fq) := r'.junk hun (some (.ref ra))
      show _
      refine ⟨.ref ra, List.getElem?_set_self hjσ, .inl ⟨rfl, ws, SqL.of z1⟩, β, G', _, r2.drop, ha.mo _ _ _ (fun m z v H4 G4 e4 rm => ?_) q⟩
      have M4 := e4.hh _ _ z1
      refine ⟨ra, ws, v, rfl, rfl, M4, by rw [Reps.len _ _ z2]; exact z.1, G4, dn ++ [row ++ [m]], ?_, gg.trans e4.gg, ?_, ?_, ?_, ?_, ?_, z.2⟩
      · exact (r2.ext e4).updX2 (List.mem_cons_of_mem _ (u3 ra (List.mem_cons_of_mem _ hra)))
      · rw [List.getElem?_set_ne (Ne.symm hij)]; exact hσ'
      · rw [upd_ne (fun y => t3 (by rw [y]; exact hra))]; exact e4.hh _ _ ht
      · intro b hb hb2 w hw
        rw [upd_ne (fun y => hb2 (by rw [y]; exact hra))]
        exact e4.hh _ _ (hfr b hb hb2 w hw)
      · rw [List.length_append, hdn]; rfl
      · obtain ⟨fp', c1, c2⟩ := w4 (upd H4 ra (.lst (ws ++ [v]))) G4 (.lst (row ++ [m])) [ra] (.ref ra) e4.gg (fun b hb hb2 u hu => by
          rw [upd_ne (fun y => hb2 (by rw [y]; simp))]; exact e4.hh _ _ hu) (by
          unfold RepO
          exact ⟨ra, ws ++ [v], rfl, rfl, upd_same, Reps.app _ _ _ _ (Reps.same e4.gg _ _ z2) (Reps.one rm)⟩) (fun b hb _ => hb)
        rw [set_self yx] at c1
        refine ⟨fp', ?_, fun b hb => ?_⟩
        · have hl : (dn ++ [row ++ [m]] ++ rs.drop (n + 1)).map OV.lst = ((dn ++ row :: rs.drop (n + 1)).map OV.lst).set n (.lst (row ++ [m])) := by
            rw [List.map_append, List.map_append, List.map_append, List.set_append_right _ _ (by rw [List.length_map]; omega), List.length_map, hdn, Nat.sub_self]
            simp
          rw [hl]; exact c1
        · rcases c2 b hb with y | y
          · rw [List.mem_singleton.mp y]; exact hra
          · exact hsub b y.1
    · rw [hus, List.drop_length] at q hre
      rw [List.append_nil] at hre
      have q' : (kOf X.K cl W β G D).nx ((env.set j .un).set i (.ow (.nst (os.set k (.nst (dn.map .lst)))))) := q
      obtain ⟨fp', c1, c2⟩ := u4 H' G' (.nst (dn.map OV.lst)) (t :: fr') (.ref t) gg (fun b hb hb2 u hu => hfr b (fun y => hb2 (by rw [y]; exact List.mem_cons_self)) (fun y => hb2 (List.mem_cons_of_mem _ y)) u hu) (by
        unfold RepO
        exact ⟨t, us, fr', rfl, rfl, ht, hre, fun y => t3 (hsub t y)⟩) (fun b hb _ => by
          rcases List.mem_cons.mp hb with y | y
          · rw [y]; exact List.mem_cons_self
          · exact List.mem_cons_of_mem _ (hsub b y))
      rw [set_self u1] at c1
      have hlq : l ≠ t := fun y => h3 (by rw [y]; exact u3 t List.mem_cons_self)
      have hlf : l ∉ fr := fun y => h3 (u3 l (List.mem_cons_of_mem _ y))
      have hsq : ∀ b ∈ fp', b ∈ fq := fun b hb => by
        rcases c2 b hb with y | y
        · rcases List.mem_cons.mp y with y | y
          · rw [y]; exact u3 t List.mem_cons_self
          · exact u3 b (List.mem_cons_of_mem _ (hsub b y))
        · exact y.1
      have rr : RepO X.K cl H' G' (.nst (os.set k (.nst (dn.map OV.lst)))) (.ref l) (l :: fp') := by
        unfold RepO
        exact ⟨l, vs, fp', rfl, rfl, hfr l hlq hlf _ h1, c1, fun y => h3 (hsq l y)⟩
      have rS := (r'.subX (X' := l :: fp') (fun b hb => by
        rcases List.mem_cons.mp hb with y | y
        · rw [y]; exact List.mem_cons_self
        · exact List.mem_cons_of_mem _ (hsq b y))).setAt (i := i) (by rw [List.length_set, List.length_set]; exact hil) hσ' rr
      have he : (((env.set i .un).set j .un).set i (.ow (.nst (os.set k (.nst (dn.map OV.lst)))))) = ((env.set j .un).set i (.ow (.nst (os.set k (.nst (dn.map OV.lst)))))) := by
        rw [List.set_comm _ _ hij, List.set_set]
      rw [he] at rS
      exact q' σ' H' G' rS gg
end
end C
namespace C
open PySem PySem.Spec PyProof.Rows L2
/-! None in a list of data; an int in a tuple of ints -/
def isNonM : MV → Bool
  | .non => true
  | _ => false
theorem any_non : ∀ {ms : List MV} {ds : List PyData}, toDs ms = some ds → (ds.any fun z => PyData.eqv z .none) = ms.any isNonM
  | [], ds, h => by unfold toDs at h; cases h; rfl
  | m :: ms, ds, h => by
    unfold toDs at h
    cases e : toD m with
    | none => rw [e] at h; cases h
    | some d =>
      rw [e] at h
      cases e2 : toDs ms with
      | none => rw [e2] at h; cases h
      | some es =>
        rw [e2] at h; cases h
        rw [List.any_cons, List.any_cons, any_non e2]
        congr 1
        cases m with
        | non => unfold toD at e; cases e; simp [PyData.eqv, isNonM]
        | bl b => unfold toD at e; cases e; simp [PyData.eqv, isNonM]
        | int i => unfold toD at e; cases e; simp [PyData.eqv, isNonM]
        | str i => unfold toD at e; cases e; simp [PyData.eqv, isNonM]
        | tup xs =>
          unfold toD at e
          cases e3 : toDs xs with
          | none => rw [e3] at e; cases e
          | some ys => rw [e3] at e; cases e; simp [PyData.eqv, isNonM]
        | lst xs =>
          unfold toD at e
          cases e3 : toDs xs with
          | none => rw [e3] at e; cases e
          | some ys => rw [e3] at e; cases e; simp [PyData.eqv, isNonM]
        | obj c xs => unfold toD at e; cases e
        | fn k => unfold toD at e; cases e
        | dct ks xs => unfold toD at e; cases e
noncomputable def gInN (neg : Bool) : GR := fun m n Q => match m with
  | .fro .non => asL n fun ms => match toDs ms with
    | some ds => SeqAt.shaped (.list ds) = true ∧ Q (neg ^^ ms.any isNonM)
    | none => False
  | _ => False
theorem gInN_mo {neg : Bool} : ∀ m n (Q Q' : Bool → Prop), (∀ k, Q k → Q' k) → gInN neg m n Q → gInN neg m n Q' := fun m n Q Q' k q => by
  unfold gInN at q ⊢
  split at q
  · refine asL_mo (fun ms z => ?_) q
    split at z
    · exact ⟨z.1, k _ z.2⟩
    · exact z
  · exact q
theorem gInN_out {K : PySem.W.Frag} {cl : Nat → Addr} {neg : Bool} {H G : Hp} {m n : OV} {x y : V} {Q : Bool → Prop} (g : Same G H) (rx : RepB K cl H G m x) (ry : RepB K cl H G n y) (q : gInN neg m n Q) : ∃ ds, Dp K H x .none ∧ Dp K H y (.list ds) ∧ SeqAt.shaped (.list ds) = true ∧ Q (neg ^^ ds.any fun z => PyData.eqv z .none) := by
  unfold gInN at q
  split at q
  · have hx : Dp K H x .none := RepB.dp g rx (show toD .non = some .none by unfold toD; rfl)
    cases n with
    | lst ms =>
      have q : (match toDs ms with
        | some ds => SeqAt.shaped (.list ds) = true ∧ Q (neg ^^ ms.any isNonM)
        | none => False) := q
      split at q
      · rename_i ds e
        exact ⟨ds, hx, RepB.dp g ry (show toD (.lst ms) = _ by unfold toD; rw [e]), q.1, by rw [any_non e]; exact q.2⟩
      · exact q.elim
    | fro n =>
      cases n with
      | lst ms =>
        have q : (match toDs ms with
          | some ds => SeqAt.shaped (.list ds) = true ∧ Q (neg ^^ ms.any isNonM)
          | none => False) := q
        split at q
        · rename_i ds e
          exact ⟨ds, hx, RepB.dp g ry (show toD (.lst ms) = _ by unfold toD; rw [e]), q.1, by rw [any_non e]; exact q.2⟩
        · exact q.elim
      | _ => exact q.elim
    | _ => exact q.elim
  · exact q.elim
def gInT (neg : Bool) : GR := fun m n Q => asFro m fun m => asInt m fun i => match n with
  | .fro (.tup ms) => match intsL ms with
    | some ns => Q (neg ^^ dB (i ∈ ns))
    | none => False
  | _ => False
theorem gInT_mo {neg : Bool} : ∀ m n (Q Q' : Bool → Prop), (∀ k, Q k → Q' k) → gInT neg m n Q → gInT neg m n Q' := fun m n Q Q' k q => asFro_mo (fun _ z => asInt_mo (fun _ z => by
  split at z
  · split at z
    · exact k _ z
    · exact z
  · exact z) z) q
theorem gInT_out {K : PySem.W.Frag} {cl : Nat → Addr} {neg : Bool} {H G : Hp} {m n : OV} {x y : V} {Q : Bool → Prop} (g : Same G H) (rx : RepB K cl H G m x) (ry : RepB K cl H G n y) (q : gInT neg m n Q) : ∃ (p : Addr) (i : Int) (ns : List Int), x = .int i ∧ y = .ref p ∧ SqT K H p (ns.map V.int) ∧ Q (neg ^^ inV (.int i) (ns.map V.int)) := by
  unfold gInT at q
  cases m with
  | fro m =>
    unfold RepB at rx
    obtain ⟨i, rfl, rfl, q⟩ := asInt_rep (show asInt m _ from q) rx
    split at q
    · split at q
      · rename_i ns e
        unfold RepB Rep at ry
        obtain ⟨p, vs, rfl, h2, h3⟩ := ry
        rw [ints_rep e h3] at h2
        exact ⟨p, i, ns, rfl, rfl, sqT_same g h2, by rw [inV_ints]; exact q⟩
      · exact q.elim
    · exact q.elim
  | _ => exact q.elim
section
variable {X : Cx} {cl : Nat → Addr}
theorem gc_inN (hu : X.A.units + 65 < cLine) : GC X cl .In (gInN false) := ⟨gInN_mo, _, op_inD hu, fun m n x y H G Q g rx ry q => by
  obtain ⟨ds, h1, h2, h3, q⟩ := gInN_out (Q := fun k => Q (.bl k) H) g rx ry q
  exact ⟨_, _, h1, h2, rfl, h3, by simpa using q⟩⟩
theorem gc_inT : GC X cl .In (gInT false) := by
  refine ⟨gInT_mo, _, op_in_seq, fun m n x y H G Q g rx ry q => ?_⟩
  obtain ⟨p, i, ns, rfl, rfl, h, q⟩ := gInT_out (Q := fun k => Q (.bl k) H) g rx ry q
  exact ⟨p, _, rfl, .inr h, rfl, ints_flat ns, by simpa using q⟩
theorem gc_notinT : GC X cl .NotIn (gInT true) := by
  refine ⟨gInT_mo, _, op_notIn_seq, fun m n x y H G Q g rx ry q => ?_⟩
  obtain ⟨p, i, ns, rfl, rfl, h, q⟩ := gInT_out (Q := fun k => Q (.bl k) H) g rx ry q
  exact ⟨p, _, rfl, .inr h, rfl, ints_flat ns, by simpa using q⟩
end
end C
namespace C
open PySem PySem.Spec PyProof.Rows L2
def S_Plan_init__ : SX :=
  (sqF (setF 0 [] 7 (xN (nList (qPl 1 []))))
  (sqF (setF 0 [] 23 (xE (eFrz (nRows 4 (qPl 2 [])))))
  (setF 0 [] 24 (xE (e1 gList (qPl 3 []))))))
inductive F_Plan_init__ (ss : Env) (Q : OV → Env → Prop) (E : Int → Prop) : Prop where
  | mk (h : fDef 5 4 S_Plan_init__ ss Q E) : F_Plan_init__ ss Q E
theorem e_Plan_init__ : F_Plan_init__ = fDef 5 4 S_Plan_init__ := funext fun _ => funext fun _ => funext fun _ => propext ⟨fun h => match h with | .mk h => h, .mk⟩
def S_is_plain : SX :=
  (sqF (ifS (uT (tOr (tCmp gEq (qPl 0 []) (qE (eK (.str "")))) (tOr (tCmp gGt (qE (e1 gLenV (qPl 0 []))) (qE (eK (.int 60)))) (tNot (tTru (qE (e1 gAll (qE (eFrz (nLc (lcX [1] (lA (qPl 0 [])) (gNm 1) tYesX (eB (tCmp (gInC false) (qPl 1 []) (qE (eK (.str "0123456789"))))))))))))))))
  (ret (xE (eK (.bl false))))
  skip)
  (ret (xE (eOr (qE (eB (tCmp gEq (qPl 0 []) (qE (eK (.str "0")))))) (eB (tCmp gNe (qE (eBin gIx (qPl 0 []) (qE (eK (.int 0))))) (qE (eK (.str "0")))))))))
inductive F_is_plain (ss : Env) (Q : OV → Env → Prop) (E : Int → Prop) : Prop where
  | mk (h : fDef 2 1 S_is_plain ss Q E) : F_is_plain ss Q E
theorem e_is_plain : F_is_plain = fDef 2 1 S_is_plain := funext fun _ => funext fun _ => funext fun _ => propext ⟨fun h => match h with | .mk h => h, .mk⟩
def S_is_signed : SX :=
  (sqF (ifS (uT (tTru (qE (eStw (qPl 0 []) (eK (.str "-"))))))
  (ret (xE (eAnd (qE (eB (tCmp gNe (qPl 0 []) (qE (eK (.str "-0")))))) (eFrz (nCall 1 F_is_plain (aV (eSlS (qPl 0 []) (oS (qE (eK (.int 1)))) oN) aN))))))
  skip)
  (ret (xN (nCall 1 F_is_plain (aV (eQ (qPl 0 [])) aN)))))
inductive F_is_signed (ss : Env) (Q : OV → Env → Prop) (E : Int → Prop) : Prop where
  | mk (h : fDef 1 1 S_is_signed ss Q E) : F_is_signed ss Q E
theorem e_is_signed : F_is_signed = fDef 1 1 S_is_signed := funext fun _ => funext fun _ => funext fun _ => propext ⟨fun h => match h with | .mk h => h, .mk⟩
def S_reach_word : SX :=
  (sqF (asg (gTupX (gLen 2 (gsCons (gNm 1) (gsCons (gNm 2) gsNil)))) (xE (eQ (qPl 0 []))))
  (sqF (ifS (uT (tCmp (gIsP false) (qPl 2 []) (qE (eK .non))))
  (ret (xN (nE (e1 gStr (qPl 1 [])))))
  skip)
  (ret (xN (nE (eJoin (qE (eK (.str ","))) (qE (eFrz (nLc (lcX [3] (lA (qE (eBin gAdd (qE (eTup (aV (eQ (qPl 1 [])) aN))) (qPl 2 [])))) (gNm 3) tYesX (e1 gStr (qPl 3 []))))))))))))
inductive F_reach_word (ss : Env) (Q : OV → Env → Prop) (E : Int → Prop) : Prop where
  | mk (h : fDef 4 1 S_reach_word ss Q E) : F_reach_word ss Q E
theorem e_reach_word : F_reach_word = fDef 4 1 S_reach_word := funext fun _ => funext fun _ => funext fun _ => propext ⟨fun h => match h with | .mk h => h, .mk⟩
def S_write_plan : SX :=
  (sqF (set 1 (xN (nLst (aV (eK (.str "plan")) aN))))
  (sqF (forS (lW (eQ (qPl 0 [7]))) (gTupX (gLen 3 (gsCons (gNm 2) (gsCons (gNm 3) (gsCons (gNm 4) gsNil)))))
  (drop (xApp 1 [] (eJoin (qE (eK (.str " "))) (qE (eBin gAdd (qE (eLst (aV (eK (.str "piece")) (aV (e1 gStr (qPl 2 [])) (aV (e1 gStr (qPl 3 [])) aN))))) (qE (eFrz (nLc (lcX [6] (lA (qPl 4 [])) (gNm 6) tYesX (e1 gStr (qPl 6 []))))))))))))
  (sqF (forS (lW (eQ (qPl 0 [23]))) (gNm 5)
  (drop (xApp 1 [] (eJoin (qE (eK (.str " "))) (qE (eBin gAdd (qE (eLst (aV (eK (.str "reaches")) aN))) (qE (eFrz (nLc (lcX [7] (lA (qPl 5 [])) (gNm 7) tYesX (eFrz (nCall 1 F_reach_word (aV (eQ (qPl 7 [])) aN)))))))))))))
  (sqF (drop (xApp 1 [] (eJoin (qE (eK (.str " "))) (qE (eBin gAdd (qE (eLst (aV (eK (.str "prices")) aN))) (qE (eFrz (nLc (lcX [8] (lA (qPl 0 [24])) (gNm 8) tYesX (e1 gStr (qPl 8 [])))))))))))
  (ret (xN (nE (eJoin (qE (eK (.str "\n"))) (qPl 1 [])))))))))
inductive F_write_plan (ss : Env) (Q : OV → Env → Prop) (E : Int → Prop) : Prop where
  | mk (h : fDef 9 1 S_write_plan ss Q E) : F_write_plan ss Q E
theorem e_write_plan : F_write_plan = fDef 9 1 S_write_plan := funext fun _ => funext fun _ => funext fun _ => propext ⟨fun h => match h with | .mk h => h, .mk⟩
def S_plan_piece : SX :=
  (sqF (set 1 (xE (eFrz (nSplit (qPl 0 []) (eK (.str " "))))))
  (sqF (ifS (uT (tOr (tCmp gNe (qE (e1 gLenV (qPl 1 []))) (qE (eK (.int 6)))) (tCmp gNe (qE (eBin gIx (qPl 1 []) (qE (eK (.int 0))))) (qE (eK (.str "piece"))))))
  (ret (xE (eK .non)))
  skip)
  (sqF (ifS (uT (tOr (tNot (tTru (qE (e1 gAll (qE (eFrz (nLc (lcX [2] (lT (eTup (aV (eK (.int 1)) (aV (eK (.int 2)) (aV (eK (.int 5)) aN))))) (gNm 2) tYesX (eFrz (nCall 1 F_is_plain (aV (eBin gIx (qPl 1 []) (qPl 2 [])) aN))))))))))) (tOr (tNot (tTru (qE (eFrz (nCall 1 F_is_signed (aV (eBin gIx (qPl 1 []) (qE (eK (.int 3)))) aN)))))) (tNot (tTru (qE (eFrz (nCall 1 F_is_signed (aV (eBin gIx (qPl 1 []) (qE (eK (.int 4)))) aN)))))))))
  (ret (xE (eK .non)))
  skip)
  (ret (xE (eTup (aV (e1 gInt (qE (eBin gIx (qPl 1 []) (qE (eK (.int 1)))))) (aV (e1 gInt (qE (eBin gIx (qPl 1 []) (qE (eK (.int 2)))))) (aV (eTup (aV (e1 gInt (qE (eBin gIx (qPl 1 []) (qE (eK (.int 3)))))) (aV (e1 gInt (qE (eBin gIx (qPl 1 []) (qE (eK (.int 4)))))) (aV (e1 gInt (qE (eBin gIx (qPl 1 []) (qE (eK (.int 5)))))) aN)))) aN)))))))))
inductive F_plan_piece (ss : Env) (Q : OV → Env → Prop) (E : Int → Prop) : Prop where
  | mk (h : fDef 3 1 S_plan_piece ss Q E) : F_plan_piece ss Q E
theorem e_plan_piece : F_plan_piece = fDef 3 1 S_plan_piece := funext fun _ => funext fun _ => funext fun _ => propext ⟨fun h => match h with | .mk h => h, .mk⟩
def S_reach_in : SX :=
  (sqF (set 1 (xE (eFrz (nSplit (qPl 0 []) (eK (.str ","))))))
  (sqF (ifS (uT (tOr (tCmp (gInT true) (qE (e1 gLenV (qPl 1 []))) (qE (eTup (aV (eK (.int 1)) (aV (eK (.int 4)) aN))))) (tNot (tTru (qE (e1 gAll (qE (eFrz (nLc (lcX [3] (lA (qPl 1 [])) (gNm 3) tYesX (eFrz (nCall 1 F_is_plain (aV (eQ (qPl 3 [])) aN)))))))))))))
  (ret (xE (eK .non)))
  skip)
  (sqF (set 2 (xE (eFrz (nLc (lcX [3] (lA (qPl 1 [])) (gNm 3) tYesX (e1 gInt (qPl 3 [])))))))
  (sqF (ifS (uT (tCmp gEq (qE (e1 gLenV (qPl 2 []))) (qE (eK (.int 1)))))
  (ret (xE (eTup (aV (eBin gIx (qPl 2 []) (qE (eK (.int 0)))) (aV (eK .non) aN)))))
  skip)
  (ret (xE (eTup (aV (eBin gIx (qPl 2 []) (qE (eK (.int 0)))) (aV (eTup (aV (eBin gIx (qPl 2 []) (qE (eK (.int 1)))) (aV (eBin gIx (qPl 2 []) (qE (eK (.int 2)))) (aV (eBin gIx (qPl 2 []) (qE (eK (.int 3)))) aN)))) aN)))))))))
inductive F_reach_in (ss : Env) (Q : OV → Env → Prop) (E : Int → Prop) : Prop where
  | mk (h : fDef 4 1 S_reach_in ss Q E) : F_reach_in ss Q E
theorem e_reach_in : F_reach_in = fDef 4 1 S_reach_in := funext fun _ => funext fun _ => funext fun _ => propext ⟨fun h => match h with | .mk h => h, .mk⟩
def S_reaches_in : SX :=
  (sqF (set 1 (xE (eFrz (nSplit (qPl 0 []) (eK (.str " "))))))
  (sqF (set 2 (xE (eFrz (nLc (lcX [3] (lA (qE (eSl (qPl 1 []) (oS (qE (eK (.int 1)))) oN))) (gNm 3) tYesX (eFrz (nCall 1 F_reach_in (aV (eQ (qPl 3 [])) aN))))))))
  (sqF (ifS (uT (tOr (tCmp gNe (qE (eBin gIx (qPl 1 []) (qE (eK (.int 0))))) (qE (eK (.str "reaches")))) (tCmp (gInN false) (qE (eK .non)) (qPl 2 []))))
  (ret (xE (eK .non)))
  skip)
  (ret (xE (eQ (qPl 2 [])))))))
inductive F_reaches_in (ss : Env) (Q : OV → Env → Prop) (E : Int → Prop) : Prop where
  | mk (h : fDef 4 1 S_reaches_in ss Q E) : F_reaches_in ss Q E
theorem e_reaches_in : F_reaches_in = fDef 4 1 S_reaches_in := funext fun _ => funext fun _ => funext fun _ => propext ⟨fun h => match h with | .mk h => h, .mk⟩
def S_prices_in : SX :=
  (sqF (set 1 (xE (eFrz (nSplit (qPl 0 []) (eK (.str " "))))))
  (sqF (ifS (uT (tOr (tCmp gNe (qE (eBin gIx (qPl 1 []) (qE (eK (.int 0))))) (qE (eK (.str "prices")))) (tOr (tCmp gLt (qE (e1 gLenV (qPl 1 []))) (qE (eK (.int 2)))) (tNot (tTru (qE (e1 gAll (qE (eFrz (nLc (lcX [2] (lA (qE (eSl (qPl 1 []) (oS (qE (eK (.int 1)))) oN))) (gNm 2) tYesX (eFrz (nCall 1 F_is_plain (aV (eQ (qPl 2 [])) aN))))))))))))))
  (ret (xE (eK .non)))
  skip)
  (ret (xN (nLc (lcX [2] (lA (qE (eSl (qPl 1 []) (oS (qE (eK (.int 1)))) oN))) (gNm 2) tYesX (e1 gInt (qPl 2 []))))))))
inductive F_prices_in (ss : Env) (Q : OV → Env → Prop) (E : Int → Prop) : Prop where
  | mk (h : fDef 3 1 S_prices_in ss Q E) : F_prices_in ss Q E
theorem e_prices_in : F_prices_in = fDef 3 1 S_prices_in := funext fun _ => funext fun _ => funext fun _ => propext ⟨fun h => match h with | .mk h => h, .mk⟩
def S_read_rows : SX :=
  sNever
inductive F_read_rows (ss : Env) (Q : OV → Env → Prop) (E : Int → Prop) : Prop where
  | mk (h : fDef 4 3 S_read_rows ss Q E) : F_read_rows ss Q E
theorem e_read_rows : F_read_rows = fDef 4 3 S_read_rows := funext fun _ => funext fun _ => funext fun _ => propext ⟨fun h => match h with | .mk h => h, .mk⟩
def S_read_rows_reaches_in : SX :=
  (sqF (set 3 (xN (nLst aN)))
  (sqF (whileS (tAnd (tCmp gLt (qPl 1 []) (qE (e1 gLenV (qPl 0 [])))) (tCmp (gIsP true) (qE (eFrz (nCallL 2 100 1 F_reaches_in (aV (eBin gIx (qPl 0 []) (qPl 1 [])) aN)))) (qE (eK .non))))
  (sqF (drop (xApp 3 [] (eFrz (nCallL 2 100 1 F_reaches_in (aV (eBin gIx (qPl 0 []) (qPl 1 [])) aN)))))
  (aug 1 gAddS (qE (eK (.int 1))))))
  (fz 3 (ret (xE (eTup (aV (eQ (qPl 3 [])) (aV (eQ (qPl 1 [])) aN))))))))
inductive F_read_rows_reaches_in (ss : Env) (Q : OV → Env → Prop) (E : Int → Prop) : Prop where
  | mk (h : fDef 4 3 S_read_rows_reaches_in ss Q E) : F_read_rows_reaches_in ss Q E
theorem e_read_rows_reaches_in : F_read_rows_reaches_in = fDef 4 3 S_read_rows_reaches_in := funext fun _ => funext fun _ => funext fun _ => propext ⟨fun h => match h with | .mk h => h, .mk⟩
def S_read_rows_plan_piece : SX :=
  (sqF (set 3 (xN (nLst aN)))
  (sqF (whileS (tAnd (tCmp gLt (qPl 1 []) (qE (e1 gLenV (qPl 0 [])))) (tCmp (gIsP true) (qE (eFrz (nCallL 2 101 1 F_plan_piece (aV (eBin gIx (qPl 0 []) (qPl 1 [])) aN)))) (qE (eK .non))))
  (sqF (drop (xApp 3 [] (eFrz (nCallL 2 101 1 F_plan_piece (aV (eBin gIx (qPl 0 []) (qPl 1 [])) aN)))))
  (aug 1 gAddS (qE (eK (.int 1))))))
  (fz 3 (ret (xE (eTup (aV (eQ (qPl 3 [])) (aV (eQ (qPl 1 [])) aN))))))))
inductive F_read_rows_plan_piece (ss : Env) (Q : OV → Env → Prop) (E : Int → Prop) : Prop where
  | mk (h : fDef 4 3 S_read_rows_plan_piece ss Q E) : F_read_rows_plan_piece ss Q E
theorem e_read_rows_plan_piece : F_read_rows_plan_piece = fDef 4 3 S_read_rows_plan_piece := funext fun _ => funext fun _ => funext fun _ => propext ⟨fun h => match h with | .mk h => h, .mk⟩
def S_read_plan : SX :=
  (sqF (set 1 (xE (eFrz (nSplit (qPl 0 []) (eK (.str "\n"))))))
  (sqF (ifS (uT (tCmp gNe (qE (eBin gIx (qPl 1 []) (qE (eK (.int 0))))) (qE (eK (.str "plan")))))
  sNever
  skip)
  (sqF (asg (gTupX (gLen 2 (gsCons (gNm 2) (gsCons (gNm 3) gsNil)))) (xE (eFrz (nCall 3 F_read_rows_plan_piece (aV (eQ (qPl 1 [])) (aV (eK (.int 1)) (aV (eK (.fn 101)) aN)))))))
  (sqF (asg (gTupX (gLen 2 (gsCons (gNm 4) (gsCons (gNm 3) gsNil)))) (xE (eFrz (nCall 3 F_read_rows_reaches_in (aV (eQ (qPl 1 [])) (aV (eQ (qPl 3 [])) (aV (eK (.fn 100)) aN)))))))
  (sqF (ifS (uT (tOr (tCmp gEq (qPl 3 []) (qE (e1 gLenV (qPl 1 [])))) (tOr (tNot (tTru (qPl 4 []))) (tCmp (gIsP false) (qE (eFrz (nCall 1 F_prices_in (aV (eBin gIx (qPl 1 []) (qPl 3 [])) aN)))) (qE (eK .non))))))
  sNever
  skip)
  (sqF (ifS (uT (tCmp gLt (qE (eBin gAdd (qPl 3 []) (qE (eK (.int 1))))) (qE (e1 gLenV (qPl 1 [])))))
  sNever
  skip)
  (ret (xN (nMake 9 4 F_Plan_init__ (aV (eQ (qPl 2 [])) (aV (eQ (qPl 4 [])) (aV (eFrz (nCall 1 F_prices_in (aV (eBin gIx (qPl 1 []) (qPl 3 [])) aN))) aN))))))))))))
inductive F_read_plan (ss : Env) (Q : OV → Env → Prop) (E : Int → Prop) : Prop where
  | mk (h : fDef 5 1 S_read_plan ss Q E) : F_read_plan ss Q E
theorem e_read_plan : F_read_plan = fDef 5 1 S_read_plan := funext fun _ => funext fun _ => funext fun _ => propext ⟨fun h => match h with | .mk h => h, .mk⟩
def S_law_cell : SX :=
  (sqF (ifS (uT (tCmp gLt (qPl 1 []) (qE (e1 gLenV (qPl 0 [])))))
  (ret (xE (eBin gIx (qPl 0 []) (qPl 1 []))))
  skip)
  (ret (xE (eK (.int 0)))))
inductive F_law_cell (ss : Env) (Q : OV → Env → Prop) (E : Int → Prop) : Prop where
  | mk (h : fDef 2 2 S_law_cell ss Q E) : F_law_cell ss Q E
theorem e_law_cell : F_law_cell = fDef 2 2 S_law_cell := funext fun _ => funext fun _ => funext fun _ => propext ⟨fun h => match h with | .mk h => h, .mk⟩
def S_law_digits : SX :=
  (sqF (set 3 (xN (nLst aN)))
  (sqF (set 4 (xE (eQ (qPl 0 []))))
  (sqF (forS (lR1 (qPl 2 [])) (gNm 5)
  (ifJ (uT (tCmp gGe (qPl 0 []) (qE (eK (.int 1000000000000000000)))))
  (sqF (drop (xApp 3 [] (eBin gModI (qE (e1 gInt (qPl 4 []))) (qPl 1 []))))
  (set 4 (xE (eBin gDivI (qPl 4 []) (qPl 1 [])))))
  (sqF (set 6 (xE (eBin gModI (qE (e1 gInt (qE (eBin gAdd (qE (eBin gAdd (qE (eBin gMulI (qPl 0 []) (qE (eK (.int 48271))))) (qE (eBin gMulI (qPl 5 []) (qE (eK (.int 69621))))))) (qE (eK (.int 1013))))))) (qE (eK (.int 2147483647))))))
  (sqF (set 6 (xE (eBin gModI (qE (e1 gInt (qE (eBin gAdd (qE (eBin gAdd (qE (eBin gMulI (qPl 6 []) (qPl 6 []))) (qE (eBin gMulI (qE (eK (.int 7))) (qPl 6 []))))) (qPl 5 []))))) (qE (eK (.int 2147483629))))))
  (drop (xApp 3 [] (eBin gModI (qE (e1 gInt (qE (eBin gDivI (qPl 6 []) (qE (eK (.int 31))))))) (qPl 1 []))))))))
  (ret (xMv 3)))))
inductive F_law_digits (ss : Env) (Q : OV → Env → Prop) (E : Int → Prop) : Prop where
  | mk (h : fDef 7 3 S_law_digits ss Q E) : F_law_digits ss Q E
theorem e_law_digits : F_law_digits = fDef 7 3 S_law_digits := funext fun _ => funext fun _ => funext fun _ => propext ⟨fun h => match h with | .mk h => h, .mk⟩
def S_law_number : SX :=
  (sqF (set 1 (xE (e1 gInt (qE (eBin gDivI (qPl 0 []) (qE (eK (.int 8))))))))
  (ret (xE (eBin gIx (qE (eLst (aV (eK (.int 0)) (aV (eK (.int 1)) (aV (eK (.int 7)) (aV (eK (.int 10)) (aV (eBin gSubI (qE (eK (.int 0))) (qE (eK (.int 1)))) (aV (eBin gSubI (qE (eK (.int 0))) (qE (eK (.int 30)))) (aV (eBin gAdd (qE (eBin gMulI (qPl 1 []) (qE (eK (.int 1000000000000000))))) (qE (eK (.int 5)))) (aV (eBin gSubI (qE (eBin gSubI (qE (eK (.int 0))) (qE (eBin gMulI (qPl 1 []) (qE (eK (.int 1000000000000000))))))) (qE (eK (.int 1)))) aN)))))))))) (qE (eBin gModI (qE (e1 gInt (qPl 0 []))) (qE (eK (.int 8)))))))))
inductive F_law_number (ss : Env) (Q : OV → Env → Prop) (E : Int → Prop) : Prop where
  | mk (h : fDef 2 1 S_law_number ss Q E) : F_law_number ss Q E
theorem e_law_number : F_law_number = fDef 2 1 S_law_number := funext fun _ => funext fun _ => funext fun _ => propext ⟨fun h => match h with | .mk h => h, .mk⟩
def S_law_plan : SX :=
  (sqF (set 1 (xE (eFrz (nCall 3 F_law_digits (aV (eQ (qPl 0 [])) (aV (eK (.int 1600)) (aV (eK (.int 60)) aN)))))))
  (sqF (set 2 (xN (nLst aN)))
  (sqF (forS (lR1 (qE (eBin gModI (qE (e1 gInt (qE (eBin gIx (qPl 1 []) (qE (eK (.int 0))))))) (qE (eK (.int 5)))))) (gNm 3)
  (sqF (set 4 (xN (nSl (qPl 1 []) (oS (qE (eBin gAdd (qE (eK (.int 4))) (qE (eBin gMulI (qE (eK (.int 5))) (qPl 3 [])))))) (oS (qE (eBin gAdd (qE (eK (.int 9))) (qE (eBin gMulI (qE (eK (.int 5))) (qPl 3 [])))))))))
  (sqF (set 5 (xE (eTup (aV (eFrz (nCall 1 F_law_number (aV (eBin gIx (qPl 4 []) (qE (eK (.int 2)))) aN))) (aV (eFrz (nCall 1 F_law_number (aV (eBin gIx (qPl 4 []) (qE (eK (.int 3)))) aN))) (aV (e1 gAbs (qE (eFrz (nCall 1 F_law_number (aV (eBin gIx (qPl 4 []) (qE (eK (.int 4)))) aN))))) aN))))))
  (drop (xApp 2 [] (eTup (aV (e1 gAbs (qE (eFrz (nCall 1 F_law_number (aV (eBin gIx (qPl 4 []) (qE (eK (.int 0)))) aN))))) (aV (e1 gAbs (qE (eFrz (nCall 1 F_law_number (aV (eBin gIx (qPl 4 []) (qE (eK (.int 1)))) aN))))) (aV (eQ (qPl 5 [])) aN)))))))))
  (sqF (set 6 (xN (nLst aN)))
  (sqF (forS (lR1 (qE (eBin gAdd (qE (eK (.int 1))) (qE (eBin gModI (qE (e1 gInt (qE (eBin gIx (qPl 1 []) (qE (eK (.int 1))))))) (qE (eK (.int 3)))))))) (gNm 7)
  (sqF (set 4 (xN (nLst aN)))
  (sqF (forS (lR1 (qE (eBin gModI (qE (e1 gInt (qE (eBin gIx (qPl 1 []) (qE (eK (.int 2))))))) (qE (eK (.int 5)))))) (gNm 3)
  (sqF (set 8 (xE (eFrz (nLc (lcX [10] (lR1 (qE (eK (.int 4)))) (gNm 10) tYesX (e1 gAbs (qE (eFrz (nCall 1 F_law_number (aV (eBin gIx (qPl 1 []) (qE (eBin gAdd (qE (eK (.int 24))) (qE (eBin gModI (qE (e1 gInt (qE (eBin gAdd (qE (eBin gAdd (qE (eBin gMulI (qE (eK (.int 4))) (qPl 3 []))) (qE (eBin gMulI (qE (eK (.int 5))) (qPl 7 []))))) (qPl 10 []))))) (qE (eK (.int 30)))))))) aN))))))))))
  (drop (xApp 4 [] (eTup (aV (eBin gIx (qPl 8 []) (qE (eK (.int 0)))) (aV (eIf (tCmp gEq (qE (eBin gModI (qE (e1 gInt (qE (eBin gIx (qPl 1 []) (qE (eBin gAdd (qE (eK (.int 30))) (qPl 3 []))))))) (qE (eK (.int 2))))) (qE (eK (.int 0)))) (eK .non) (eTup (aV (eBin gIx (qPl 8 []) (qE (eK (.int 1)))) (aV (eBin gIx (qPl 8 []) (qE (eK (.int 2)))) (aV (eBin gIx (qPl 8 []) (qE (eK (.int 3)))) aN))))) aN)))))))
  (fz 4 (drop (xApp 6 [] (eQ (qPl 4 []))))))))
  (sqF (set 9 (xE (eFrz (nLc (lcX [3] (lR1 (qE (eBin gAdd (qE (eK (.int 1))) (qE (eBin gModI (qE (e1 gInt (qE (eBin gIx (qPl 1 []) (qE (eK (.int 3))))))) (qE (eK (.int 5)))))))) (gNm 3) tYesX (e1 gAbs (qE (eFrz (nCall 1 F_law_number (aV (eBin gIx (qPl 1 []) (qE (eBin gAdd (qE (eK (.int 54))) (qPl 3 [])))) aN))))))))))
  (fz 6 (fz 2 (ret (xE (eTup (aV (eQ (qPl 2 [])) (aV (eQ (qPl 6 [])) (aV (eQ (qPl 9 [])) aN))))))))))))))
inductive F_law_plan (ss : Env) (Q : OV → Env → Prop) (E : Int → Prop) : Prop where
  | mk (h : fDef 11 1 S_law_plan ss Q E) : F_law_plan ss Q E
theorem e_law_plan : F_law_plan = fDef 11 1 S_law_plan := funext fun _ => funext fun _ => funext fun _ => propext ⟨fun h => match h with | .mk h => h, .mk⟩
def S_law_plan_lines : SX :=
  (sqF (set 3 (xN (nLst (aV (eK (.str "plan")) aN))))
  (sqF (forS (lW (eQ (qPl 0 []))) (gTupX (gLen 3 (gsCons (gNm 4) (gsCons (gNm 5) (gsCons (gNm 6) gsNil)))))
  (drop (xApp 3 [] (eJoin (qE (eK (.str " "))) (qE (eBin gAdd (qE (eLst (aV (eK (.str "piece")) (aV (e1 gStr (qPl 4 [])) (aV (e1 gStr (qPl 5 [])) aN))))) (qE (eFrz (nLc (lcX [11] (lA (qPl 6 [])) (gNm 11) tYesX (e1 gStr (qPl 11 []))))))))))))
  (sqF (forS (lW (eQ (qPl 1 []))) (gNm 7)
  (sqF (set 8 (xN (nLst (aV (eK (.str "reaches")) aN))))
  (sqF (forS (lW (eQ (qPl 7 []))) (gTupX (gLen 2 (gsCons (gNm 9) (gsCons (gNm 10) gsNil))))
  (drop (xApp 8 [] (eIf (tCmp (gIsP false) (qPl 10 []) (qE (eK .non))) (e1 gStr (qPl 9 [])) (eJoin (qE (eK (.str ","))) (qE (eFrz (nLc (lcX [11] (lA (qE (eBin gAdd (qE (eLst (aV (eQ (qPl 9 [])) aN))) (qE (e1 gList (qPl 10 [])))))) (gNm 11) tYesX (e1 gStr (qPl 11 [])))))))))))
  (drop (xApp 3 [] (eJoin (qE (eK (.str " "))) (qPl 8 [])))))))
  (sqF (drop (xApp 3 [] (eJoin (qE (eK (.str " "))) (qE (eBin gAdd (qE (eLst (aV (eK (.str "prices")) aN))) (qE (eFrz (nLc (lcX [12] (lA (qPl 2 [])) (gNm 12) tYesX (e1 gStr (qPl 12 [])))))))))))
  (ret (xMv 3))))))
inductive F_law_plan_lines (ss : Env) (Q : OV → Env → Prop) (E : Int → Prop) : Prop where
  | mk (h : fDef 13 3 S_law_plan_lines ss Q E) : F_law_plan_lines ss Q E
theorem e_law_plan_lines : F_law_plan_lines = fDef 13 3 S_law_plan_lines := funext fun _ => funext fun _ => funext fun _ => propext ⟨fun h => match h with | .mk h => h, .mk⟩
def S_law : SX :=
  (sqF (asg (gTupX (gLen 3 (gsCons (gNm 1) (gsCons (gNm 2) (gsCons (gNm 3) gsNil))))) (xE (eFrz (nCall 1 F_law_plan (aV (eFrz (nCall 2 F_law_cell (arPl (.br 0 []) 0 [] (aV (eK (.int 0)) aN)))) aN)))))
  (sqF (set 4 (xN (nNst (nsC (nList (qPl 1 [])) (nsC (nLcO [6] (lA (qPl 2 [])) (gNm 6) (nList (qPl 6 []))) (nsC (nList (qPl 3 [])) nsN))))))
  (sqF (set 5 (xE (eFrz (nMake 9 4 F_Plan_init__ (arPl (.br 4 [38]) 4 [38] (arPl (.br 4 [39]) 4 [39] (arPl (.br 4 [40]) 4 [40] aN)))))))
  (sqF (drop (xApp 4 [38] (eTup (aV (eK (.int 0)) (aV (eK (.int 0)) (aV (eTup (aV (eK (.int 0)) (aV (eK (.int 0)) (aV (eK (.int 1)) aN)))) aN))))))
  (sqF (forApp 4 1 6 (eTup (aV (eK (.int 0)) (aV (eK .non) aN))))
  (sqF (drop (xAppO 4 [39] (nLst aN)))
  (sqF (drop (xApp 4 [40] (eK (.int 0))))
  (sqF (ifS (uT (tOr (tCmp gNe (qPl 5 [7]) (qPl 1 [])) (tOr (tCmp gNe (qPl 5 [23]) (qPl 2 [])) (tCmp gNe (qPl 5 [24]) (qPl 3 [])))))
  (ret (xE (eK (.bl false))))
  skip)
  (sqF (set 7 (xE (eJoin (qE (eK (.str "\n"))) (qE (eFrz (nCall 3 F_law_plan_lines (aV (eQ (qPl 1 [])) (aV (eQ (qPl 2 [])) (aV (eQ (qPl 3 [])) aN)))))))))
  (sqF (ifS (uT (tCmp gNe (qE (eFrz (nCall 1 F_write_plan (aV (eQ (qPl 5 [])) aN)))) (qPl 7 [])))
  (ret (xE (eK (.bl false))))
  skip)
  (sqF (set 8 (xE (eFrz (nCall 1 F_read_plan (aV (eQ (qPl 7 [])) aN)))))
  (ret (xE (eAnd (qE (eIsC 9 (qPl 8 []))) (eAnd (qE (eB (tCmp gEq (qPl 8 [7]) (qPl 1 [])))) (eAnd (qE (eB (tCmp gEq (qPl 8 [23]) (qPl 2 [])))) (eB (tCmp gEq (qPl 8 [24]) (qPl 3 [])))))))))))))))))))
inductive F_law (ss : Env) (Q : OV → Env → Prop) (E : Int → Prop) : Prop where
  | mk (h : fDef 9 1 S_law ss Q E) : F_law ss Q E
theorem e_law : F_law = fDef 9 1 S_law := funext fun _ => funext fun _ => funext fun _ => propext ⟨fun h => match h with | .mk h => h, .mk⟩
end C
namespace C
open PySem PySem.Spec PyProof.Rows L2 TL
local macro_rules | `(tactic| walk_at "ev") => `(tactic| (conv => whnf))
local macro_rules | `(tactic| walk_at "side") => `(tactic| (first | assumption | exact trivial | exact line1000 rfl | (show (0 : Int) < _; first | omega | decide) | exact rfl | exact smallof (by omega) (by omega) | exact ⟨smallof (by omega) (by omega), smallof (by omega) (by omega)⟩ | exact Or.inl (by omega) | exact Or.inr (Or.inl (by omega)) | exact cdiv_of (by omega) (by omega) | omega | exact lt_line (by omega) | exact le_line (by omega) | exact ⟨by decide, by decide, by decide⟩ | decide | fail))
local macro_rules | `(tactic| walk_at "go") => `(tactic| ((repeat' ((conv => whnf); first | refine And.intro (by walk_at "side") ?_ | walk_at "call" | walk_at "test" | fail)); try (conv => whnf)))
local macro_rules | `(tactic| walk_at "call") => `(tactic| (first | refine setE_go (by assumption) ?_ | fail))
local macro_rules | `(tactic| walk_at "test") => `(tactic| (first | refine mdec_yes (by omega) ?_ | refine mdec_no (by omega) ?_ | refine mdec_no (fun h => h rfl) ?_ | refine mndec_yes (by omega) ?_ | refine mndec_no (by omega) ?_ | fail))
local macro_rules | `(tactic| walk_at "call") => `(tactic| (first | refine gl0 ?_ | refine gl1 ?_ | refine gl2 ?_ | refine gl3 ?_ | refine at_go (by omega) (by omega) ?_ | refine at_goN (by omega) (by omega) ?_ | fail))
local macro_rules | `(tactic| walk_at "call") => `(tactic| (first | refine ints_go ?_ | refine bools_go ?_ | fail))
local macro_rules | `(tactic| walk_at "call") => `(tactic| (first | refine eqD_go (pl_ints _) (pl_ints _) ?_ | fail))
theorem w_cell (ns : List Int) (k : Int) (hk : 0 ≤ k) (Q : OV → Env → Prop) (E : Int → Prop) (h : ∀ e, Q (.fro (.int (cell ns k))) e) : F_law_cell [.bo (.scr (scrOf ns)), .ow (.fro (.int k))] Q E := by
  refine F_law_cell.mk ?_
  walk_at "ev"
  have hl : (scrOf ns).length = ns.length := by simp [scrOf]
  refine mdec (fun hc => ?_) fun hc => ?_
  · walk_at "ev"
    rw [hl] at hc
    refine .mk _ (atI_scr hk hc) ?_
    walk_at "ev"
    exact h _
  · walk_at "ev"
    rw [hl] at hc
    have e : cell ns k = 0 := by
      unfold cell
      rw [List.getD_eq_getElem?_getD, List.getElem?_eq_none (by omega)]; rfl
    rw [← e]
    exact h _
local macro_rules | `(tactic| walk_at "call") => `(tactic| (first | refine w_cell _ _ (by omega) _ _ (fun _ => ?_) | fail))
local macro_rules | `(tactic| walk_at "call") => `(tactic| (first | refine w_cell _ _ (by omega) _ _ (fun _ => ?_) | fail))

/-! ### words that write numbers -/
abbrev sM (w : List Nat) : MV := .str (txt w)
theorem emp_txt {w : List Nat} : (txt w = ("" : Str)) ↔ w = [] := by
  rw [show ("" : Str) = txt [] from rfl, txt_eq]
theorem lit0 : ("0" : Str) = txt [48] := txt_lit "0"
theorem litm : ("-" : Str) = txt [45] := txt_lit "-"
theorem litm0 : ("-0" : Str) = txt [45, 48] := txt_lit "-0"
theorem lit_sp : (" " : Str) = txt [32] := txt_lit " "
theorem lit_nl : ("\n" : Str) = txt [10] := txt_lit "\n"
theorem ch_txt (c : Nat) : (⟨#[c]⟩ : Str) = txt [c] := rfl
theorem dg_iff {w : List Nat} : (∀ c ∈ w, c ∈ ("0123456789" : Str).cps.toList) ↔ ∀ c ∈ w, 48 ≤ c ∧ c ≤ 57 := by
  have e : ("0123456789" : Str).cps.toList = [48, 49, 50, 51, 52, 53, 54, 55, 56, 57] := by rw [lit_digits]; rfl
  rw [e]
  exact ⟨fun h c hc => in_digits.mp (h c hc), fun h c hc => in_digits.mpr (h c hc)⟩
theorem sl_line {w : List Nat} (h : w.length < 16000000) : (txt w).length ≤ sizeLine := by rw [txt_len]; exact le_line h
theorem sl_line2 {w : List Nat} (h : w.length < 15000000) : (txt w).length + 2 ≤ sizeLine := by rw [txt_len]; exact le_line (n := w.length + 2) (by omega)
theorem chM_txt (w : List Nat) : chM (txt w) = w.map fun c => MV.str ⟨#[c]⟩ := rfl
theorem at_ch {w : List Nat} {c : Nat} {r : List Nat} (h : w = c :: r) : atI (txt w).cps.toList 0 = some c := by
  subst h
  exact atI_nat (j := 0) rfl

theorem w_is_plain (w : List Nat) (hw : w.length < 1000000) (Q : OV → Env → Prop) (E : Int → Prop)
    (k : ∀ en, Q (.fro (.bl (dB (Pln w)))) en) : F_is_plain [.ow (.fro (sM w))] Q E := by
  refine F_is_plain.mk ?_
  have hl := sl_line (w := w) (by omega)
  walk_at "go"
  refine mdec (fun c => ?_) fun c => ?_
  · walk_at "go"
    rw [dB_no fun p : Pln w => p.ne (emp_txt.mp c)] at k
    exact k _
  · have c := fun z => c (emp_txt.mpr z)
    walk_at "go"
    rw [txt_len]
    refine mdec (fun d => ?_) fun d => ?_
    · walk_at "go"
      rw [dB_no fun p : Pln w => by have := p.le; omega] at k
      exact k _
    · walk_at "go"
      rw [chM_txt]
      refine lc_ty (fun c : Nat => MV.str ⟨#[c]⟩) (fun c => .bl (dB (c ∈ ("0123456789" : Str).cps.toList))) w (le_line (by omega)) (fun c hc Y y => ?_) ?_
      · walk_at "go"
        exact y
      walk_at "go"
      try (refine alls_go ?_; walk_at "go")
      rw [all_dB, propext dg_iff]
      refine mndec (fun e => ?_) fun e => ?_
      · walk_at "go"
        rw [dB_no fun p : Pln w => e p.dg] at k
        exact k _
      · walk_at "go"
        rw [lit0, txt_eq]
        refine mdec (fun f => ?_) fun f => ?_
        · walk_at "go"
          rw [dB_yes f]
          rw [dB_yes (⟨c, by omega, e, .inl f⟩ : Pln w)] at k
          exact k _
        · walk_at "go"
          cases w with
          | nil => exact absurd rfl c
          | cons a r =>
            rw [at_ch rfl]
            walk_at "go"
            rw [ch_txt, txt_eq]
            have e2 : Pln (a :: r) = ¬ ([a] = [48]) := propext ⟨fun p z => by
              rcases p.hd with q | q
              · exact f q
              · exact q (by rw [(List.cons.inj z).1]; rfl), fun z => ⟨c, by omega, e, .inr fun q => z (by rw [Option.some.inj q])⟩⟩
            rw [e2] at k
            exact k _

theorem sgn_m {w v : List Nat} (h : w = 45 :: v) : Sgn w ↔ (w ≠ [45, 48] ∧ Pln v) := by
  subst h
  exact Iff.rfl
theorem sgn_p {w : List Nat} (h : w.head? ≠ some 45) : Sgn w ↔ Pln w := by
  unfold Sgn
  split
  · exact absurd rfl h
  · exact Iff.rfl
theorem w_is_signed (w : List Nat) (hw : w.length < 1000000) (Q : OV → Env → Prop) (E : Int → Prop)
    (k : ∀ en, Q (.fro (.bl (dB (Sgn w)))) en) : F_is_signed [.ow (.fro (sM w))] Q E := by
  refine F_is_signed.mk ?_
  have hl := sl_line (w := w) (by omega)
  walk_at "go"
  rw [litm, stw_txt]
  cases w with
  | nil =>
    walk_at "go"
    refine w_is_plain [] (by decide) _ _ fun en => ?_
    walk_at "go"
    rw [propext (sgn_p (w := []) (fun z => by cases z))] at k
    exact k _
  | cons a r =>
    rw [List.length_cons] at hw
    by_cases c : a = 45
    · subst c
      rw [decide_eq_true (show (45 :: r).head? = some 45 from rfl)]
      walk_at "go"
      rw [litm0, txt_eq]
      rw [propext (sgn_m rfl)] at k
      refine mxt (fun d => ?_) fun d => ?_
      · walk_at "go"
        rw [show (1 : Int) = ((1 : Nat) : Int) from rfl, slice_from]
        refine w_is_plain r (by omega) _ _ fun en => ?_
        walk_at "go"
        rw [show ((45 :: r ≠ [45, 48]) ∧ Pln r) = Pln r from propext ⟨fun z => z.2, fun z => ⟨d, z⟩⟩] at k
        exact k _
      · walk_at "go"
        rw [dB_no fun z : (45 :: r ≠ [45, 48]) ∧ Pln r => z.1 d] at k
        rw [dB_no fun z : ¬ 45 :: r = [45, 48] => z d]
        exact k _
    · rw [decide_eq_false (show ¬ (a :: r).head? = some 45 from fun z => c (Option.some.inj z))]
      walk_at "go"
      refine w_is_plain (a :: r) (by rw [List.length_cons]; omega) _ _ fun en => ?_
      walk_at "go"
      rw [propext (sgn_p (w := a :: r) fun z => c (Option.some.inj z))] at k
      exact k _

end C
namespace C
open PySem PySem.Spec PyProof.Rows L2 TL
local macro_rules | `(tactic| walk_at "ev") => `(tactic| (conv => whnf))
local macro_rules | `(tactic| walk_at "side") => `(tactic| (first | assumption | exact trivial | exact line1000 rfl | (show (0 : Int) < _; first | omega | decide) | exact rfl | exact smallof (by omega) (by omega) | exact ⟨smallof (by omega) (by omega), smallof (by omega) (by omega)⟩ | exact Or.inl (by omega) | exact Or.inr (Or.inl (by omega)) | exact cdiv_of (by omega) (by omega) | omega | exact lt_line (by omega) | exact le_line (by omega) | exact ⟨by decide, by decide, by decide⟩ | decide | fail))
local macro_rules | `(tactic| walk_at "go") => `(tactic| ((repeat' ((conv => whnf); first | refine And.intro (by walk_at "side") ?_ | walk_at "call" | walk_at "test" | fail)); try (conv => whnf)))
local macro_rules | `(tactic| walk_at "call") => `(tactic| (first | refine setE_go (by assumption) ?_ | fail))
local macro_rules | `(tactic| walk_at "test") => `(tactic| (first | refine mdec_yes (by omega) ?_ | refine mdec_no (by omega) ?_ | refine mdec_no (fun h => h rfl) ?_ | refine mndec_yes (by omega) ?_ | refine mndec_no (by omega) ?_ | fail))
local macro_rules | `(tactic| walk_at "call") => `(tactic| (first | refine gl0 ?_ | refine gl1 ?_ | refine gl2 ?_ | refine gl3 ?_ | refine at_go (by omega) (by omega) ?_ | refine at_goN (by omega) (by omega) ?_ | fail))
local macro_rules | `(tactic| walk_at "call") => `(tactic| (first | refine ints_go ?_ | refine bools_go ?_ | fail))
local macro_rules | `(tactic| walk_at "call") => `(tactic| (first | refine eqD_go (pl_ints _) (pl_ints _) ?_ | fail))
local macro_rules | `(tactic| walk_at "call") => `(tactic| (first | refine w_cell _ _ (by omega) _ _ (fun _ => ?_) | fail))
local macro_rules | `(tactic| walk_at "call") => `(tactic| (first | refine w_cell _ _ (by omega) _ _ (fun _ => ?_) | fail))
/-! ### pairs of numbers -/
def prM (p : Int × Int) : MV := .tup [.int p.1, .int p.2]
def pa (ps : List (Int × Int)) (i : Nat) : Int × Int := ps.getD i (0, 0)
theorem atPr {xs : List (Int × Int)} {i : Int} {Q : MV → Prop} (h0 : 0 ≤ i) (h1 : i < xs.length) (q : Q (prM (pa xs i.toNat))) : gAt (xs.map prM) i Q := atT prM (0, 0) h0 h1 q
theorem atPrN {xs : List (Int × Int)} {i : Int} {Q : MV → Prop} (h0 : i < 0) (h1 : 0 ≤ i + xs.length) (q : Q (prM (pa xs (i + xs.length).toNat))) : gAt (xs.map prM) i Q := atTN prM (0, 0) h0 h1 q
theorem enPr {xs : List (Int × Int)} {i : Nat} {m : MV} (h : (enM (xs.map prM))[i]? = some m) : i < xs.length ∧ m = .tup [.int i, prM (pa xs i)] := enT (0, 0) h
theorem getPr {xs : List (Int × Int)} {i : Nat} {m : MV} (h : (xs.map prM)[i]? = some m) : i < xs.length ∧ m = prM (pa xs i) := getT (0, 0) h
local macro_rules | `(tactic| walk_at "call") => `(tactic| (first | refine at_go (by omega) (by omega) ?_ | refine at_goN (by omega) (by omega) ?_ | refine atPr (by omega) (by omega) ?_ | refine atPrN (by omega) (by omega) ?_ | fail))
local macro_rules | `(tactic| walk_at "call") => `(tactic| (first | refine alls_go ?_ | fail))
theorem st_cell (ps : List (Int × Int)) {k : Int} (h0 : 0 ≤ k) : cell (ps.map Prod.fst) k = (pa ps k.toNat).1 := by
  unfold cell pa
  rw [List.getD_eq_getElem?_getD, List.getD_eq_getElem?_getD, List.getElem?_map]
  cases ps[k.toNat]? <;> rfl
theorem sl_len {α : Type} (xs : List α) (a b : Nat) : (sl xs a b).length ≤ xs.length := by
  unfold sl
  rw [List.length_take, List.length_drop]; omega
theorem cut_from (xs : List MV) {a : Int} (h0 : 0 ≤ a) : cutM xs (some a) none = xs.drop a.toNat := by
  obtain ⟨k, rfl⟩ := Int.eq_ofNat_of_zero_le h0
  unfold cutM
  rw [HT.sIx_nat, show HT.sIx xs.length xs.length none = xs.length from rfl, Int.toNat_natCast]
  by_cases h : k ≤ xs.length
  · rw [Nat.min_eq_left h, List.take_of_length_le (by rw [List.length_drop]; omega)]
  · rw [Nat.min_eq_right (by omega), List.drop_eq_nil_of_le (show xs.length ≤ xs.length by omega), List.drop_eq_nil_of_le (by omega)]
    simp
theorem cut_to (xs : List MV) {a : Int} (h0 : 0 ≤ a) : cutM xs none (some a) = xs.take a.toNat := by
  obtain ⟨k, rfl⟩ := Int.eq_ofNat_of_zero_le h0
  unfold cutM
  rw [HT.sIx_nat, show HT.sIx xs.length 0 none = 0 from rfl, Int.toNat_natCast, List.drop_zero, Nat.sub_zero]
  by_cases h : k ≤ xs.length
  · rw [Nat.min_eq_left h]
  · rw [Nat.min_eq_right (by omega), List.take_of_length_le (Nat.le_refl _), List.take_of_length_le (by omega)]
theorem rgM_at0 {n i : Nat} {m : MV} (h : (rgM 0 n)[i]? = some m) : i < n ∧ m = .int i := by
  obtain ⟨a, b⟩ := rgM_at h
  exact ⟨a, by rw [b, Int.zero_add]⟩
theorem prM_list : ∀ P : List MV, (∀ m ∈ P, ∃ p, m = prM p) → ∃ ps : List (Int × Int), P = ps.map prM
  | [], _ => ⟨[], rfl⟩
  | m :: P, h => by
    obtain ⟨p, rfl⟩ := h m List.mem_cons_self
    obtain ⟨ps, rfl⟩ := prM_list P fun x hx => h x (List.mem_cons_of_mem _ hx)
    exact ⟨p :: ps, rfl⟩
theorem pa_get {ps : List (Int × Int)} {k : Nat} (h : k < ps.length) : ps[k]? = some (pa ps k) := by
  unfold pa
  rw [List.getD_eq_getElem?_getD, List.getElem?_eq_getElem h]; rfl
theorem pl_prs {k : Nat} (xs : List (Int × Int)) : Pl (k + 2) (.lst (xs.map prM)) := by
  unfold Pl
  intro m hm
  obtain ⟨i, _, rfl⟩ := List.mem_map.mp hm
  unfold prM Pl
  intro m hm
  simp only [List.mem_cons, List.not_mem_nil, or_false] at hm
  rcases hm with rfl | rfl <;> (unfold Pl; trivial)
local macro_rules | `(tactic| walk_at "call") => `(tactic| (first | refine eqD_go (pl_prs _) (pl_prs _) ?_ | fail))
theorem atRg {n : Nat} {r : Nat → MV} {i : Int} {Q : MV → Prop} (h0 : 0 ≤ i) (h1 : i < n) (q : Q (r i.toNat)) : gAt ((List.range n).map r) i Q := by
  refine atT r 0 h0 (by simpa using h1) ?_
  rw [List.getD_eq_getElem?_getD, List.getElem?_range (by omega)]
  exact q
theorem atRgN {n : Nat} {r : Nat → MV} {i : Int} {Q : MV → Prop} (h0 : i < 0) (h1 : 0 ≤ i + n) (q : Q (r (i + n).toNat)) : gAt ((List.range n).map r) i Q := by
  refine atTN r 0 h0 (by simpa using h1) ?_
  rw [List.length_range, List.getD_eq_getElem?_getD, List.getElem?_range (by omega)]
  exact q
local macro_rules | `(tactic| walk_at "call") => `(tactic| (first | refine at_go (by omega) (by omega) ?_ | refine at_goN (by omega) (by omega) ?_ | refine atPr (by omega) (by omega) ?_ | refine atPrN (by omega) (by omega) ?_ | refine atRg (by omega) (by omega) ?_ | refine atRgN (by omega) (by omega) ?_ | fail))
theorem pa_app {P : List (Int × Int)} {q : Int × Int} {j : Nat} (h : j < P.length) : pa (P ++ [q]) j = pa P j := by
  unfold pa
  rw [List.getD_eq_getElem?_getD, List.getD_eq_getElem?_getD, List.getElem?_append_left h]
theorem pa_new {P : List (Int × Int)} {q : Int × Int} : pa (P ++ [q]) P.length = q := by
  unfold pa
  rw [List.getD_eq_getElem?_getD, List.getElem?_append_right (Nat.le_refl _)]
  simp
theorem mul_bd {s g a b : Int} (h1 : -a ≤ s) (h2 : s ≤ a) (g0 : 0 ≤ g) (gb : g ≤ b) (ha : 0 ≤ a) : -(a * b) ≤ s * g ∧ s * g ≤ a * b := by
  have e1 := Int.mul_le_mul_of_nonneg_right h1 g0
  have e2 := Int.mul_le_mul_of_nonneg_right h2 g0
  have e3 := Int.mul_le_mul_of_nonneg_left gb ha
  rw [Int.neg_mul] at e1
  omega

theorem strsL_sM (ws : List (List Nat)) : strsL (ws.map sM) = some (ws.map txt) := by
  have := strsL_map (ws.map txt)
  rw [List.map_map] at this
  exact this
theorem joinL_sum (s : Nat) : ∀ ws : List (List Nat), ws ≠ [] → ((ws.map txt).map (·.length)).sum + ws.length = (joinL [s] ws).length + 1
  | [], h => absurd rfl h
  | [w], _ => by
    show (txt w).length + 0 + 1 = w.length + 1
    rw [txt_len]
  | w :: v :: ws, _ => by
    have ih := joinL_sum s (v :: ws) (by simp)
    show (txt w).length + (((v :: ws).map txt).map (·.length)).sum + ((v :: ws).length + 1) = (w ++ ([s] ++ joinL [s] (v :: ws))).length + 1
    rw [List.length_append, List.length_append, txt_len, List.length_singleton]
    omega
theorem join_sp (ws : List (List Nat)) : Txt.join (" " : Str) (ws.map txt) = txt (joinL [32] ws) := by rw [lit_sp, join_txt]
theorem join_nl (ws : List (List Nat)) : Txt.join ("\n" : Str) (ws.map txt) = txt (joinL [10] ws) := by rw [lit_nl, join_txt]
theorem join_ok {ws : List (List Nat)} (ne : ws ≠ []) (h : (joinL [32] ws).length < 1000000) : ((ws.map txt).map (·.length)).sum + (ws.map txt).length * (" " : Str).length ≤ 16777216 := by
  have := joinL_sum 32 ws ne
  rw [lit_sp, txt_len, List.length_singleton, List.length_map]
  omega
theorem join_okn {ws : List (List Nat)} (ne : ws ≠ []) (h : (joinL [10] ws).length < 1000000) : ((ws.map txt).map (·.length)).sum + (ws.map txt).length * ("\n" : Str).length ≤ 16777216 := by
  have := joinL_sum 10 ws ne
  rw [lit_nl, txt_len, List.length_singleton, List.length_map]
  omega
theorem sp_le {s : Nat} : ∀ (l w : List Nat), w ∈ sp s l → w.length ≤ l.length := fun l w h => by
  have j := sp_join s l
  have key : ∀ (ws : List (List Nat)) (w : List Nat), w ∈ ws → w.length ≤ (joinL [s] ws).length := by
    intro ws
    induction ws with
    | nil => intro w h; cases h
    | cons v ws ih =>
      intro w h
      cases ws with
      | nil =>
        rw [List.mem_singleton.mp h]
        exact Nat.le_refl _
      | cons u us =>
        show w.length ≤ (v ++ ([s] ++ joinL [s] (u :: us))).length
        rw [List.length_append, List.length_append]
        rcases List.mem_cons.mp h with rfl | h
        · omega
        · have := ih w h; omega
  have := key (sp s l) w h
  rw [j] at this
  exact this
theorem sp_cnt {s : Nat} : ∀ l : List Nat, (sp s l).length ≤ l.length + 1
  | [] => Nat.le_refl _
  | c :: r => by
    have := sp_cnt (s := s) r
    unfold sp
    split
    · rw [List.length_cons, List.length_cons]; omega
    · rw [hdC_len c (sp_ne s r), List.length_cons]; omega
theorem split_sp (l : List Nat) : (Txt.split (txt l) (" " : Str)).map MV.str = (sp 32 l).map sM := by
  rw [lit_sp, split_txt _ (by decide), List.map_map]; rfl
theorem split_nl (l : List Nat) : (Txt.split (txt l) ("\n" : Str)).map MV.str = (sp 10 l).map sM := by
  rw [lit_nl, split_txt _ (by decide), List.map_map]; rfl
theorem log_ok {i : Int} (h : -(2 ^ 1000) < i) (h2 : i < 2 ^ 1000) : i.natAbs.log2 < 1920 := by
  have : i.natAbs < 2 ^ 1000 := by omega
  have := PySem.Flt.log2_lt_of (by decide : 0 < 1000) this
  omega
theorem sp_ok {l : List Nat} (h : l.length < 1000000) : ((" " : Str).length == 0) = false ∧ (txt l).length + 2 ≤ sizeLine := ⟨by rw [lit_sp]; rfl, sl_line2 (by omega)⟩
theorem nl_ok {l : List Nat} (h : l.length < 1000000) : (("\n" : Str).length == 0) = false ∧ (txt l).length + 2 ≤ sizeLine := ⟨by rw [lit_nl]; rfl, sl_line2 (by omega)⟩
theorem gS {xs : List (List Nat)} {i : Int} {Q : MV → Prop} (h0 : 0 ≤ i) (h1 : i < xs.length) (q : Q (sM (xs.getD i.toNat []))) : gAt (xs.map sM) i Q := atT sM [] h0 h1 q
theorem joinL_mem {s c : Nat} : ∀ {ws : List (List Nat)}, c ∈ joinL [s] ws → c = s ∨ ∃ w ∈ ws, c ∈ w
  | [], h => by cases h
  | [w], h => .inr ⟨w, List.mem_singleton.mpr rfl, h⟩
  | w :: v :: ws, h => by
    have h : c ∈ w ++ ([s] ++ joinL [s] (v :: ws)) := h
    rcases List.mem_append.mp h with h | h
    · exact .inr ⟨w, List.mem_cons_self, h⟩
    · rcases List.mem_append.mp h with h | h
      · exact .inl (List.mem_singleton.mp h)
      · rcases joinL_mem h with h | ⟨x, hx, h⟩
        · exact .inl h
        · exact .inr ⟨x, List.mem_cons_of_mem _ hx, h⟩

/-! ### plans as values -/
abbrev Rs := Option (Int × Int × Int)
def rsM : Rs → MV
  | none => .non
  | some (i, j, m) => .tup [.int i, .int j, .int m]
abbrev Ln := Int × Int × Int
def lnM (l : Ln) : MV := .tup [.int l.1, .int l.2.1, .int l.2.2]
abbrev Pn := Int × Int × Ln
def pnM (x : Pn) : MV := .tup [.int x.1, .int x.2.1, lnM x.2.2]
abbrev Rch := Int × Rs
def rchM (x : Rch) : MV := .tup [.int x.1, rsM x.2]
abbrev Row := List Rch
def rowR (r : Row) : MV := .lst (r.map rchM)
abbrev planM (P : List Pn) (R : List Row) (L : List Int) : MV := .obj 9 [.lst (P.map pnM), .lst (R.map rowR), .lst (L.map .int)]

/-! ### numbers of at most 60 digits -/
def bw (v : Int) : Prop := -(10 ^ 60) < v ∧ v < 10 ^ 60
def bn (v : Int) : Prop := 0 ≤ v ∧ v < 10 ^ 60
theorem bn.bw {v : Int} (h : bn v) : bw v := ⟨by have := h.1; omega, h.2⟩
theorem bw_len {v : Int} (h : bw v) : (numI v).length ≤ 61 := numI_len (k := 60) (by have := h.1; have := h.2; omega) (by decide)
theorem bw_log {v : Int} (h : bw v) : v.natAbs.log2 < 1920 := log_ok (by have := h.1; omega) (by have := h.2; omega)
theorem bw_sgn {v : Int} (h : bw v) : Sgn (numI v) := sgn_num (by have := h.1; have := h.2; omega)
theorem bn_pln {v : Int} (h : bn v) : Pln (numI v) := by
  unfold numI
  rw [if_neg (by have := h.1; omega)]
  exact pln_num (by have := h.1; have := h.2; omega)
theorem digits_lt : ∀ (w : List Nat), (∀ c ∈ w, 48 ≤ c ∧ c ≤ 57) → NumText.digitsVal w < 10 ^ w.length := by
  intro w
  induction hk : w.length generalizing w with
  | zero =>
    intro _
    rw [List.eq_nil_of_length_eq_zero hk]
    decide
  | succ k ih =>
    intro h
    have hn : w ≠ [] := fun z => by rw [z] at hk; cases hk
    obtain ⟨v, d, rfl⟩ : ∃ v d, w = v ++ [d] := ⟨w.dropLast, w.getLast hn, (List.dropLast_concat_getLast hn).symm⟩
    rw [List.length_append, List.length_singleton] at hk
    have i1 := ih v (by omega) fun c hc => h c (List.mem_append_left _ hc)
    have hd := h d (List.mem_append_right _ (List.mem_singleton.mpr rfl))
    rw [val_app, Nat.pow_succ]
    omega
theorem pln_bn {w : List Nat} (h : Pln w) : bn (valS w) := by
  have a := digits_lt w h.dg
  have b : 10 ^ w.length ≤ 10 ^ 60 := Nat.pow_le_pow_right (by decide) h.le
  rw [valS_pln h]
  exact ⟨by omega, by omega⟩
theorem sgn_bw {w : List Nat} (h : Sgn w) : bw (valS w) := by
  by_cases c : w.head? = some 45
  · obtain ⟨v, rfl⟩ : ∃ v, w = 45 :: v := by
      cases w with
      | nil => cases c
      | cons a v => exact ⟨v, by rw [Option.some.inj c]⟩
    have p := ((sgn_m rfl).mp h).2
    have q := pln_bn p
    rw [valS_pln p] at q
    show bw (-((NumText.digitsVal v : Nat) : Int))
    exact ⟨by have := q.2; omega, by have := q.1; omega⟩
  · exact (pln_bn ((sgn_p c).mp h)).bw
theorem num_pln {w : List Nat} (h : Pln w) : numI (valS w) = w := sgn_back (pln_sgn h)
noncomputable def orN (p : Prop) (m : MV) : MV := match dB p with | true => m | false => .non
theorem orN_yes {p : Prop} {m : MV} (h : p) : orN p m = m := by unfold orN; rw [dB_yes h]
theorem orN_no {p : Prop} {m : MV} (h : ¬ p) : orN p m = .non := by unfold orN; rw [dB_no h]
theorem gl4 {m n o p q : MV} {ms : List MV} {Q : MV → Prop} (h : Q q) : gAt (m :: n :: o :: p :: q :: ms) 4 Q := by
  exact .mk _ (show atI (m :: n :: o :: p :: q :: ms) ((4 : Nat) : Int) = some q from atI_nat rfl) h
theorem gl5 {m n o p q r : MV} {ms : List MV} {Q : MV → Prop} (h : Q r) : gAt (m :: n :: o :: p :: q :: r :: ms) 5 Q := by
  exact .mk _ (show atI (m :: n :: o :: p :: q :: r :: ms) ((5 : Nat) : Int) = some r from atI_nat rfl) h

/-! ### lines of plans: what they say -/
def PLAN : List Nat := [112, 108, 97, 110]
def PIECE : List Nat := [112, 105, 101, 99, 101]
def REACHES : List Nat := [114, 101, 97, 99, 104, 101, 115]
def PRICES : List Nat := [112, 114, 105, 99, 101, 115]
theorem litPlan : ("plan" : Str) = txt PLAN := txt_lit "plan"
theorem litPc : ("piece" : Str) = txt PIECE := txt_lit "piece"
theorem litRch : ("reaches" : Str) = txt REACHES := txt_lit "reaches"
theorem litPri : ("prices" : Str) = txt PRICES := txt_lit "prices"
theorem lit_co : ("," : Str) = txt [44] := txt_lit ","
def pplL (x : Pn) : List Nat := joinL [32] [PIECE, numI x.1, numI x.2.1, numI x.2.2.1, numI x.2.2.2.1, numI x.2.2.2.2]
def rchL : Rch → List Nat
  | (e, none) => numI e
  | (e, some (i, j, m)) => joinL [44] [numI e, numI i, numI j, numI m]
def rowL (r : Row) : List Nat := joinL [32] (REACHES :: r.map rchL)
def priL (L : List Int) : List Nat := joinL [32] (PRICES :: L.map numI)
structure OkP (x : Pn) : Prop where
  s : bn x.1
  w : bn x.2.1
  p : bw x.2.2.1
  q : bw x.2.2.2.1
  d : bn x.2.2.2.2
structure OkE (x : Rch) : Prop where
  e : bn x.1
  r : ∀ i j m, x.2 = some (i, j, m) → bn i ∧ bn j ∧ bn m
def OkR (r : Row) : Prop := ∀ x ∈ r, OkE x
def OkL (L : List Int) : Prop := L ≠ [] ∧ ∀ v ∈ L, bn v
structure PPF (ws : List (List Nat)) : Prop where
  ln : ws.length = 6
  hd : ws.getD 0 [] = PIECE
  a : Pln (ws.getD 1 [])
  b : Pln (ws.getD 2 [])
  c : Sgn (ws.getD 3 [])
  d : Sgn (ws.getD 4 [])
  e : Pln (ws.getD 5 [])
def ReF (w : List Nat) : Prop := ((sp 44 w).length = 1 ∨ (sp 44 w).length = 4) ∧ ∀ p ∈ sp 44 w, Pln p
def RRF (ws : List (List Nat)) : Prop := ws.getD 0 [] = REACHES ∧ ∀ w ∈ ws.drop 1, ReF w
def PRF (ws : List (List Nat)) : Prop := ws.getD 0 [] = PRICES ∧ 2 ≤ ws.length ∧ ∀ w ∈ ws.drop 1, Pln w
theorem pplL_sp (x : Pn) : sp 32 (pplL x) = [PIECE, numI x.1, numI x.2.1, numI x.2.2.1, numI x.2.2.2.1, numI x.2.2.2.2] := by
  refine sp_joinL _ (by simp) fun w hw => ?_
  simp only [List.mem_cons, List.not_mem_nil, or_false] at hw
  rcases hw with rfl | rfl | rfl | rfl | rfl | rfl
  · decide
  all_goals exact num_free (by omega)
theorem rchL_free (x : Rch) {s : Nat} (h : s < 44 ∨ 57 < s) : s ∉ rchL x := fun z => by
  obtain ⟨e, r⟩ := x
  cases r with
  | none => exact num_free (by omega) z
  | some r =>
    obtain ⟨i, j, m⟩ := r
    have z : s ∈ joinL [44] [numI e, numI i, numI j, numI m] := z
    rcases joinL_mem z with q | ⟨w, hw, q⟩
    · omega
    · simp only [List.mem_cons, List.not_mem_nil, or_false] at hw
      rcases hw with rfl | rfl | rfl | rfl <;> exact num_free (s := s) (by omega) q
theorem rowL_sp (r : Row) : sp 32 (rowL r) = REACHES :: r.map rchL := by
  refine sp_joinL _ (by simp) fun w hw => ?_
  rcases List.mem_cons.mp hw with rfl | hw
  · decide
  · obtain ⟨x, _, rfl⟩ := List.mem_map.mp hw
    exact rchL_free x (by omega)
theorem priL_sp (L : List Int) : sp 32 (priL L) = PRICES :: L.map numI := by
  refine sp_joinL _ (by simp) fun w hw => ?_
  rcases List.mem_cons.mp hw with rfl | hw
  · decide
  · obtain ⟨x, _, rfl⟩ := List.mem_map.mp hw
    exact num_free (by omega)
theorem rchL_sp1 (e : Int) : sp 44 (rchL (e, none)) = [numI e] := sp_none _ (num_free (by omega))
theorem rchL_sp4 (e i j m : Int) : sp 44 (rchL (e, some (i, j, m))) = [numI e, numI i, numI j, numI m] := by
  refine sp_joinL _ (by simp) fun w hw => ?_
  simp only [List.mem_cons, List.not_mem_nil, or_false] at hw
  rcases hw with rfl | rfl | rfl | rfl <;> exact num_free (by omega)
theorem ppf_of {x : Pn} (h : OkP x) : PPF (sp 32 (pplL x)) := by
  rw [pplL_sp]
  exact ⟨rfl, rfl, bn_pln h.s, bn_pln h.w, bw_sgn h.p, bw_sgn h.q, bn_pln h.d⟩
theorem ppf_num {l : List Nat} (h : PPF (sp 32 l)) : ∃ x, OkP x ∧ l = pplL x := by
  have j := sp_join 32 l
  obtain ⟨h1, h2, h3, h4, h5, h6, h7⟩ := h
  match q : sp 32 l, h1 with
  | [z, a, b, c, d, e], _ =>
    rw [q] at h2 h3 h4 h5 h6 h7 j
    have h2 : z = PIECE := h2
    subst h2
    refine ⟨(valS a, valS b, valS c, valS d, valS e), ⟨pln_bn h3, pln_bn h4, sgn_bw h5, sgn_bw h6, pln_bn h7⟩, ?_⟩
    unfold pplL
    have e1 : numI (valS a) = a := num_pln h3
    have e2 : numI (valS b) = b := num_pln h4
    have e3 : numI (valS c) = c := sgn_back h5
    have e4 : numI (valS d) = d := sgn_back h6
    have e5 : numI (valS e) = e := num_pln h7
    rw [e1, e2, e3, e4, e5]
    exact j.symm
theorem ref_of {x : Rch} (h : OkE x) : ReF (rchL x) := by
  obtain ⟨e, r⟩ := x
  cases r with
  | none =>
    unfold ReF
    rw [rchL_sp1]
    exact ⟨.inl rfl, fun p hp => by rw [List.mem_singleton.mp hp]; exact bn_pln h.e⟩
  | some r =>
    obtain ⟨i, j, m⟩ := r
    have hr := h.r i j m rfl
    unfold ReF
    rw [rchL_sp4]
    refine ⟨.inr rfl, fun p hp => ?_⟩
    simp only [List.mem_cons, List.not_mem_nil, or_false] at hp
    rcases hp with rfl | rfl | rfl | rfl
    · exact bn_pln h.e
    · exact bn_pln hr.1
    · exact bn_pln hr.2.1
    · exact bn_pln hr.2.2
theorem ref_num {w : List Nat} (h : ReF w) : ∃ x, OkE x ∧ w = rchL x := by
  have j := sp_join 44 w
  obtain ⟨h1, h2⟩ := h
  rcases h1 with h1 | h1
  · match q : sp 44 w, h1 with
    | [a], _ =>
      rw [q] at h2 j
      have pa := h2 a (by simp)
      refine ⟨(valS a, none), ⟨pln_bn pa, fun i j m z => by cases z⟩, ?_⟩
      show w = numI (valS a)
      rw [num_pln pa]
      exact j.symm
  · match q : sp 44 w, h1 with
    | [a, b, c, d], _ =>
      rw [q] at h2 j
      have pa := h2 a (by simp)
      have pb := h2 b (by simp)
      have pc := h2 c (by simp)
      have pd := h2 d (by simp)
      refine ⟨(valS a, some (valS b, valS c, valS d)), ⟨pln_bn pa, fun i j m z => by cases z; exact ⟨pln_bn pb, pln_bn pc, pln_bn pd⟩⟩, ?_⟩
      show w = joinL [44] [numI (valS a), numI (valS b), numI (valS c), numI (valS d)]
      rw [num_pln pa, num_pln pb, num_pln pc, num_pln pd]
      exact j.symm
theorem all_num {α : Type} {F : List Nat → Prop} {Ok : α → Prop} {L : α → List Nat} (hn : ∀ {w}, F w → ∃ x, Ok x ∧ w = L x) : ∀ ws : List (List Nat), (∀ w ∈ ws, F w) → ∃ xs : List α, (∀ x ∈ xs, Ok x) ∧ ws = xs.map L
  | [], _ => ⟨[], fun x hx => (by cases hx), rfl⟩
  | w :: ws, h => by
    obtain ⟨x, hx, rfl⟩ := hn (h w List.mem_cons_self)
    obtain ⟨xs, hxs, rfl⟩ := all_num hn ws fun v hv => h v (List.mem_cons_of_mem _ hv)
    refine ⟨x :: xs, fun y hy => ?_, rfl⟩
    rcases List.mem_cons.mp hy with rfl | hy
    · exact hx
    · exact hxs y hy
theorem rrf_of {r : Row} (h : OkR r) : RRF (sp 32 (rowL r)) := by
  rw [rowL_sp]
  refine ⟨rfl, fun w hw => ?_⟩
  obtain ⟨x, hx, rfl⟩ := List.mem_map.mp (show w ∈ r.map rchL from hw)
  exact ref_of (h x hx)
theorem rrf_num {l : List Nat} (h : RRF (sp 32 l)) : ∃ r : Row, OkR r ∧ l = rowL r := by
  have j := sp_join 32 l
  obtain ⟨h1, h2⟩ := h
  match q : sp 32 l with
  | [] => exact absurd q (sp_ne 32 l)
  | z :: ws =>
    rw [q] at h1 h2 j
    have h1 : z = REACHES := h1
    subst h1
    obtain ⟨r, hr, e⟩ := all_num ref_num ws h2
    refine ⟨r, hr, ?_⟩
    unfold rowL
    rw [← e]
    exact j.symm
theorem pln_num2 {w : List Nat} (h : Pln w) : ∃ v : Int, bn v ∧ w = numI v := ⟨valS w, pln_bn h, (num_pln h).symm⟩
theorem prf_of {L : List Int} (h : OkL L) : PRF (sp 32 (priL L)) := by
  rw [priL_sp]
  refine ⟨rfl, ?_, fun w hw => ?_⟩
  · have := List.length_pos_iff.mpr h.1
    rw [List.length_cons, List.length_map]; omega
  · obtain ⟨x, hx, rfl⟩ := List.mem_map.mp (show w ∈ L.map numI from hw)
    exact bn_pln (h.2 x hx)
theorem prf_num {l : List Nat} (h : PRF (sp 32 l)) : ∃ L : List Int, OkL L ∧ l = priL L := by
  have j := sp_join 32 l
  obtain ⟨h1, h3, h2⟩ := h
  match q : sp 32 l with
  | [] => exact absurd q (sp_ne 32 l)
  | z :: ws =>
    rw [q] at h1 h2 h3 j
    have h1 : z = PRICES := h1
    subst h1
    obtain ⟨L, hL, e⟩ := all_num pln_num2 ws h2
    refine ⟨L, ⟨fun z => ?_, hL⟩, ?_⟩
    · rw [e, z] at h3
      exact absurd h3 (by decide)
    · unfold priL
      rw [← e]
      exact j.symm

end C
namespace C
open PySem PySem.Spec PyProof.Rows L2 TL
local macro_rules | `(tactic| walk_at "ev") => `(tactic| (conv => whnf))
local macro_rules | `(tactic| walk_at "side") => `(tactic| (first | assumption | exact trivial | exact line1000 rfl | (show (0 : Int) < _; first | omega | decide) | exact rfl | exact smallof (by omega) (by omega) | exact ⟨smallof (by omega) (by omega), smallof (by omega) (by omega)⟩ | exact Or.inl (by omega) | exact Or.inr (Or.inl (by omega)) | exact cdiv_of (by omega) (by omega) | omega | exact lt_line (by omega) | exact le_line (by omega) | exact ⟨by decide, by decide, by decide⟩ | decide | fail))
local macro_rules | `(tactic| walk_at "go") => `(tactic| ((repeat' ((conv => whnf); first | refine And.intro (by walk_at "side") ?_ | walk_at "call" | walk_at "test" | fail)); try (conv => whnf)))
local macro_rules | `(tactic| walk_at "call") => `(tactic| (first | refine setE_go (by assumption) ?_ | fail))
local macro_rules | `(tactic| walk_at "test") => `(tactic| (first | refine mdec_yes (by omega) ?_ | refine mdec_no (by omega) ?_ | refine mdec_no (fun h => h rfl) ?_ | refine mndec_yes (by omega) ?_ | refine mndec_no (by omega) ?_ | fail))
local macro_rules | `(tactic| walk_at "call") => `(tactic| (first | refine gl0 ?_ | refine gl1 ?_ | refine gl2 ?_ | refine gl3 ?_ | refine at_go (by omega) (by omega) ?_ | refine at_goN (by omega) (by omega) ?_ | fail))
local macro_rules | `(tactic| walk_at "call") => `(tactic| (first | refine ints_go ?_ | refine bools_go ?_ | fail))
local macro_rules | `(tactic| walk_at "call") => `(tactic| (first | refine eqD_go (pl_ints _) (pl_ints _) ?_ | fail))
local macro_rules | `(tactic| walk_at "call") => `(tactic| (first | refine w_cell _ _ (by omega) _ _ (fun _ => ?_) | fail))
local macro_rules | `(tactic| walk_at "call") => `(tactic| (first | refine w_cell _ _ (by omega) _ _ (fun _ => ?_) | fail))
local macro_rules | `(tactic| walk_at "call") => `(tactic| (first | refine at_go (by omega) (by omega) ?_ | refine at_goN (by omega) (by omega) ?_ | refine atPr (by omega) (by omega) ?_ | refine atPrN (by omega) (by omega) ?_ | fail))
local macro_rules | `(tactic| walk_at "call") => `(tactic| (first | refine alls_go ?_ | fail))
local macro_rules | `(tactic| walk_at "call") => `(tactic| (first | refine eqD_go (pl_prs _) (pl_prs _) ?_ | fail))
local macro_rules | `(tactic| walk_at "call") => `(tactic| (first | refine at_go (by omega) (by omega) ?_ | refine at_goN (by omega) (by omega) ?_ | refine atPr (by omega) (by omega) ?_ | refine atPrN (by omega) (by omega) ?_ | refine atRg (by omega) (by omega) ?_ | refine atRgN (by omega) (by omega) ?_ | fail))
def ppV (ws : List (List Nat)) : MV := .tup [.int (valS (ws.getD 1 [])), .int (valS (ws.getD 2 [])), .tup [.int (valS (ws.getD 3 [])), .int (valS (ws.getD 4 [])), .int (valS (ws.getD 5 []))]]
theorem w_plan_pieceV (l : List Nat) (hl : l.length < 400000) (Q : OV → Env → Prop) (E : Int → Prop)
    (k : ∀ en, Q (.fro (orN (PPF (sp 32 l)) (ppV (sp 32 l)))) en) : F_plan_piece [.ow (.fro (sM l))] Q E := by
  refine F_plan_piece.mk ?_
  have h1 := sp_ok (l := l) (by omega)
  walk_at "go"
  rw [split_sp]
  have wl := sp_le (s := 32) l
  obtain ⟨ws, hws⟩ : ∃ ws, ws = sp 32 l := ⟨_, rfl⟩
  rw [← hws] at k wl ⊢
  clear hws
  by_cases h5 : ws.length = 6
  · match ws, h5 with
    | [z, a, b, c, d, e], _ =>
      have hn2 : (([z, a, b, c, d, e].map sM).length : Int) = 6 := rfl
      have la := wl a (by simp)
      have lb := wl b (by simp)
      have lc := wl c (by simp)
      have ld := wl d (by simp)
      have le := wl e (by simp)
      walk_at "go"
      rw [litPc, txt_eq]
      refine mxt (fun hz => ?_) fun hz => ?_
      · walk_at "go"
        rw [orN_no fun z => hz z.hd] at k
        exact k _
      walk_at "go"
      refine w_is_plain a (by omega) _ _ fun en => ?_
      walk_at "go"
      refine w_is_plain b (by omega) _ _ fun en => ?_
      walk_at "go"
      refine gl5 ?_
      walk_at "go"
      refine w_is_plain e (by omega) _ _ fun en => ?_
      by_cases pa : Pln a
      case neg =>
        rw [dB_no pa]
        walk_at "go"
        rw [orN_no fun z => pa z.a] at k
        exact k _
      by_cases pb : Pln b
      case neg =>
        rw [dB_yes pa, dB_no pb]
        walk_at "go"
        rw [orN_no fun z => pb z.b] at k
        exact k _
      by_cases pe : Pln e
      case neg =>
        rw [dB_yes pa, dB_yes pb, dB_no pe]
        walk_at "go"
        rw [orN_no fun z => pe z.e] at k
        exact k _
      rw [dB_yes pa, dB_yes pb, dB_yes pe]
      walk_at "go"
      refine w_is_signed c (by omega) _ _ fun en => ?_
      walk_at "go"
      refine mndec (fun pc => ?_) fun pc => ?_
      · walk_at "go"
        rw [orN_no fun z => pc z.c] at k
        exact k _
      walk_at "go"
      refine gl4 ?_
      walk_at "go"
      refine w_is_signed d (by omega) _ _ fun en => ?_
      walk_at "go"
      refine mndec (fun pd => ?_) fun pd => ?_
      · walk_at "go"
        rw [orN_no fun z => pd z.d] at k
        exact k _
      rw [orN_yes (⟨rfl, hz, pa, pb, pc, pd, pe⟩ : PPF [z, a, b, c, d, e])] at k
      have la2 : (txt a).length ≤ 640 := by rw [txt_len]; have := pa.le; omega
      have lb2 : (txt b).length ≤ 640 := by rw [txt_len]; have := pb.le; omega
      have lc2 : (txt c).length ≤ 640 := by rw [txt_len]; have := sgn_len pc; omega
      have ld2 : (txt d).length ≤ 640 := by rw [txt_len]; have := sgn_len pd; omega
      have le2 : (txt e).length ≤ 640 := by rw [txt_len]; have := pe.le; omega
      walk_at "go"
      rw [sgn_val (pln_sgn pa)]
      walk_at "go"
      rw [sgn_val (pln_sgn pb)]
      walk_at "go"
      rw [sgn_val pc]
      walk_at "go"
      refine gl4 ?_
      walk_at "go"
      rw [sgn_val pd]
      walk_at "go"
      refine gl5 ?_
      walk_at "go"
      rw [sgn_val (pln_sgn pe)]
      walk_at "go"
      exact k _
  · have lws : (ws.map sM).length = ws.length := by simp
    rw [orN_no fun z => h5 z.ln] at k
    walk_at "go"
    exact k _
theorem w_plan_piece (l : List Nat) (hl : l.length < 400000) (Q : OV → Env → Prop) (E : Int → Prop)
    (k1 : ∀ x en, OkP x → l = pplL x → Q (.fro (pnM x)) en) (k0 : ∀ en, ¬ PPF (sp 32 l) → Q (.fro .non) en) : F_plan_piece [.ow (.fro (sM l))] Q E := by
  refine w_plan_pieceV l hl Q E fun en => ?_
  by_cases h : PPF (sp 32 l)
  · rw [orN_yes h]
    obtain ⟨x, hx, rfl⟩ := ppf_num h
    have e : ppV (sp 32 (pplL x)) = pnM x := by
      rw [pplL_sp]
      show MV.tup [.int (valS (numI x.1)), .int (valS (numI x.2.1)), .tup [.int (valS (numI x.2.2.1)), .int (valS (numI x.2.2.2.1)), .int (valS (numI x.2.2.2.2))]] = _
      rw [valS_num, valS_num, valS_num, valS_num, valS_num]; rfl
    rw [e]
    exact k1 x en hx rfl
  · rw [orN_no h]
    exact k0 en h
theorem split_co (l : List Nat) : (Txt.split (txt l) ("," : Str)).map MV.str = (sp 44 l).map sM := by
  rw [lit_co, split_txt _ (by decide), List.map_map]; rfl
theorem co_ok {l : List Nat} (h : l.length < 1000000) : (("," : Str).length == 0) = false ∧ (txt l).length + 2 ≤ sizeLine := ⟨by rw [lit_co]; rfl, sl_line2 (by omega)⟩
theorem w_reach_in (l : List Nat) (hl : l.length < 400000) (Q : OV → Env → Prop) (E : Int → Prop)
    (k1 : ∀ x en, OkE x → l = rchL x → Q (.fro (rchM x)) en) (k0 : ∀ en, ¬ ReF l → Q (.fro .non) en) : F_reach_in [.ow (.fro (sM l))] Q E := by
  refine F_reach_in.mk ?_
  have h1 := co_ok (l := l) (by omega)
  have wc := sp_cnt (s := 44) l
  walk_at "go"
  rw [split_co]
  have wl := sp_le (s := 44) l
  have lws : ((sp 44 l).map sM).length = (sp 44 l).length := by simp
  rw [lws, Bool.true_xor]
  refine mndec (fun c => ?_) fun c => ?_
  · walk_at "go"
    refine k0 _ fun z => c ?_
    simp only [List.mem_cons, List.not_mem_nil, or_false]
    rcases z.1 with y | y <;> omega
  walk_at "go"
  refine lc_ty sM (fun w => .bl (dB (Pln w))) (sp 44 l) (le_line (by omega)) (fun w hw Y y => ?_) ?_
  · have := wl w hw
    walk_at "go"
    refine w_is_plain w (by omega) _ _ fun en => ?_
    walk_at "go"
    exact y
  walk_at "go"
  try (refine alls_go ?_; walk_at "go")
  rw [all_dB]
  refine mndec (fun q => ?_) fun q => ?_
  · walk_at "go"
    exact k0 _ fun z => q z.2
  have hF : ReF l := ⟨by
    simp only [List.mem_cons, List.not_mem_nil, or_false] at c
    omega, q⟩
  obtain ⟨x, hx, rfl⟩ := ref_num hF
  walk_at "go"
  refine lc_ty sM (fun w => .int (valS w)) (sp 44 (rchL x)) (le_line (by omega)) (fun w hw Y y => ?_) ?_
  · have pw := q w hw
    have lw : (txt w).length ≤ 640 := by rw [txt_len]; have := pw.le; omega
    walk_at "go"
    rw [sgn_val (pln_sgn pw)]
    walk_at "go"
    exact y
  obtain ⟨e, r⟩ := x
  cases r with
  | none =>
    rw [rchL_sp1]
    show _
    have e1 : ([numI e].map fun w => MV.int (valS w)) = [.int e] := by
      show [MV.int (valS (numI e))] = _
      rw [valS_num]
    rw [e1]
    have hn1 : ((([MV.int e] : List MV).length : Nat) : Int) = 1 := rfl
    walk_at "go"
    exact k1 _ _ hx rfl
  | some r =>
    obtain ⟨i, j, m⟩ := r
    rw [rchL_sp4]
    have e1 : ([numI e, numI i, numI j, numI m].map fun w => MV.int (valS w)) = [.int e, .int i, .int j, .int m] := by
      show [MV.int (valS (numI e)), MV.int (valS (numI i)), MV.int (valS (numI j)), MV.int (valS (numI m))] = _
      rw [valS_num, valS_num, valS_num, valS_num]
    rw [e1]
    have hn1 : ((([MV.int e, MV.int i, MV.int j, MV.int m] : List MV).length : Nat) : Int) = 4 := rfl
    walk_at "go"
    exact k1 _ _ hx rfl
theorem pl_rs {k : Nat} (r : Rs) : Pl (k + 1) (rsM r) := by
  cases r with
  | none => unfold rsM Pl; trivial
  | some r =>
    obtain ⟨i, j, m⟩ := r
    unfold rsM Pl
    intro x hx
    simp only [List.mem_cons, List.not_mem_nil, or_false] at hx
    rcases hx with rfl | rfl | rfl <;> (unfold Pl; trivial)
theorem pl_rch {k : Nat} (x : Rch) : Pl (k + 2) (rchM x) := by
  unfold rchM Pl
  intro m hm
  simp only [List.mem_cons, List.not_mem_nil, or_false] at hm
  rcases hm with rfl | rfl
  · unfold Pl; trivial
  · exact pl_rs _
theorem pl_row {k : Nat} (r : Row) : Pl (k + 3) (rowR r) := by
  unfold rowR Pl
  intro m hm
  obtain ⟨i, _, rfl⟩ := List.mem_map.mp hm
  exact pl_rch _
theorem pl_rows {k : Nat} (R : List Row) : Pl (k + 4) (.lst (R.map rowR)) := by
  unfold Pl
  intro m hm
  obtain ⟨i, _, rfl⟩ := List.mem_map.mp hm
  exact pl_row _
theorem pl_pns {k : Nat} (xs : List Pn) : Pl (k + 3) (.lst (xs.map pnM)) := by
  unfold Pl
  intro m hm
  obtain ⟨i, _, rfl⟩ := List.mem_map.mp hm
  unfold pnM lnM Pl
  intro m hm
  simp only [List.mem_cons, List.not_mem_nil, or_false] at hm
  rcases hm with rfl | rfl | rfl
  · unfold Pl; trivial
  · unfold Pl; trivial
  · unfold Pl
    intro m hm
    simp only [List.mem_cons, List.not_mem_nil, or_false] at hm
    rcases hm with rfl | rfl | rfl <;> (unfold Pl; trivial)

end C
namespace C
open PySem PySem.Spec PyProof.Rows L2 TL
local macro_rules | `(tactic| walk_at "ev") => `(tactic| (conv => whnf))
local macro_rules | `(tactic| walk_at "side") => `(tactic| (first | assumption | exact trivial | exact line1000 rfl | (show (0 : Int) < _; first | omega | decide) | exact rfl | exact smallof (by omega) (by omega) | exact ⟨smallof (by omega) (by omega), smallof (by omega) (by omega)⟩ | exact Or.inl (by omega) | exact Or.inr (Or.inl (by omega)) | exact cdiv_of (by omega) (by omega) | omega | exact lt_line (by omega) | exact le_line (by omega) | exact ⟨by decide, by decide, by decide⟩ | decide | fail))
local macro_rules | `(tactic| walk_at "go") => `(tactic| ((repeat' ((conv => whnf); first | refine And.intro (by walk_at "side") ?_ | walk_at "call" | walk_at "test" | fail)); try (conv => whnf)))
local macro_rules | `(tactic| walk_at "call") => `(tactic| (first | refine setE_go (by assumption) ?_ | fail))
local macro_rules | `(tactic| walk_at "test") => `(tactic| (first | refine mdec_yes (by omega) ?_ | refine mdec_no (by omega) ?_ | refine mdec_no (fun h => h rfl) ?_ | refine mndec_yes (by omega) ?_ | refine mndec_no (by omega) ?_ | fail))
local macro_rules | `(tactic| walk_at "call") => `(tactic| (first | refine gl0 ?_ | refine gl1 ?_ | refine gl2 ?_ | refine gl3 ?_ | refine at_go (by omega) (by omega) ?_ | refine at_goN (by omega) (by omega) ?_ | fail))
local macro_rules | `(tactic| walk_at "call") => `(tactic| (first | refine ints_go ?_ | refine bools_go ?_ | fail))
local macro_rules | `(tactic| walk_at "call") => `(tactic| (first | refine eqD_go (pl_ints _) (pl_ints _) ?_ | fail))
local macro_rules | `(tactic| walk_at "call") => `(tactic| (first | refine w_cell _ _ (by omega) _ _ (fun _ => ?_) | fail))
local macro_rules | `(tactic| walk_at "call") => `(tactic| (first | refine w_cell _ _ (by omega) _ _ (fun _ => ?_) | fail))
local macro_rules | `(tactic| walk_at "call") => `(tactic| (first | refine at_go (by omega) (by omega) ?_ | refine at_goN (by omega) (by omega) ?_ | refine atPr (by omega) (by omega) ?_ | refine atPrN (by omega) (by omega) ?_ | fail))
local macro_rules | `(tactic| walk_at "call") => `(tactic| (first | refine alls_go ?_ | fail))
local macro_rules | `(tactic| walk_at "call") => `(tactic| (first | refine eqD_go (pl_prs _) (pl_prs _) ?_ | fail))
local macro_rules | `(tactic| walk_at "call") => `(tactic| (first | refine at_go (by omega) (by omega) ?_ | refine at_goN (by omega) (by omega) ?_ | refine atPr (by omega) (by omega) ?_ | refine atPrN (by omega) (by omega) ?_ | refine atRg (by omega) (by omega) ?_ | refine atRgN (by omega) (by omega) ?_ | fail))
def reN (w : List Nat) : Rch := match sp 44 w with
  | [a] => (valS a, none)
  | [a, b, c, d] => (valS a, some (valS b, valS c, valS d))
  | _ => (0, none)
theorem reN_of (x : Rch) : reN (rchL x) = x := by
  obtain ⟨e, r⟩ := x
  unfold reN
  cases r with
  | none => rw [rchL_sp1]; show (valS (numI e), none) = _; rw [valS_num]
  | some r =>
    obtain ⟨i, j, m⟩ := r
    rw [rchL_sp4]
    show (valS (numI e), some (valS (numI i), valS (numI j), valS (numI m))) = _
    rw [valS_num, valS_num, valS_num, valS_num]
noncomputable def reO (w : List Nat) : MV := orN (ReF w) (rchM (reN w))
theorem reO_yes {x : Rch} (h : OkE x) : reO (rchL x) = rchM x := by unfold reO; rw [orN_yes (ref_of h), reN_of]
theorem reO_no {w : List Nat} (h : ¬ ReF w) : reO w = .non := by unfold reO; rw [orN_no h]
theorem pl_reO (w : List Nat) : Pl 2 (reO w) := by
  by_cases h : ReF w
  · obtain ⟨x, hx, rfl⟩ := ref_num h
    rw [reO_yes hx]; exact pl_rch x
  · rw [reO_no h]; unfold Pl; trivial
theorem reO_any (ws : List (List Nat)) : (ws.map reO).any isNonM = dB (¬ ∀ w ∈ ws, ReF w) := by
  by_cases h : ∀ w ∈ ws, ReF w
  · rw [dB_no (fun z => z h), List.any_eq_false]
    intro m hm
    obtain ⟨w, hw, rfl⟩ := List.mem_map.mp hm
    obtain ⟨x, hx, rfl⟩ := ref_num (h w hw)
    rw [reO_yes hx]
    simp [rchM, isNonM]
  · rw [dB_yes h, List.any_eq_true]
    obtain ⟨w, hw⟩ := Classical.not_forall.mp h
    obtain ⟨h1, h2⟩ := Classical.not_imp.mp hw
    exact ⟨reO w, List.mem_map.mpr ⟨w, h1, rfl⟩, by rw [reO_no h2]; rfl⟩
theorem inN_go {ms : List MV} {P : Prop} (h : Pl 3 (.lst ms)) (q : P) : (match toDs ms with
  | some ds => SeqAt.shaped (.list ds) = true ∧ P
  | none => False) := by
  obtain ⟨d, h1, h2, h3, _⟩ := pl_one 3 _ h
  unfold toD at h1
  cases e : toDs ms with
  | none => rw [e] at h1; cases h1
  | some ds =>
    rw [e] at h1; cases h1
    refine ⟨?_, q⟩
    unfold SeqAt.shaped
    rw [h2, decide_eq_true (by omega)]; rfl
theorem w_reaches_in (l : List Nat) (hl : l.length < 400000) (Q : OV → Env → Prop) (E : Int → Prop)
    (k1 : ∀ r en, OkR r → l = rowL r → Q (.fro (rowR r)) en) (k0 : ∀ en, ¬ RRF (sp 32 l) → Q (.fro .non) en) : F_reaches_in [.ow (.fro (sM l))] Q E := by
  refine F_reaches_in.mk ?_
  have h1 := sp_ok (l := l) (by omega)
  walk_at "go"
  rw [split_sp]
  have wl := sp_le (s := 32) l
  have wc := sp_cnt (s := 32) l
  have n0 := sp_ne 32 l
  rw [cut_from _ (by omega), show Int.toNat 1 = 1 from rfl, ← List.map_drop]
  refine lc_ty sM reO ((sp 32 l).drop 1) (le_line (by rw [List.length_drop]; omega)) (fun w hw Y y => ?_) ?_
  · have := wl w (List.mem_of_mem_drop hw)
    walk_at "go"
    refine w_reach_in w (by omega) _ _ (fun x en hx e => ?_) fun en n => ?_
    · subst e
      rw [reO_yes hx] at y
      walk_at "go"
      exact y
    · rw [reO_no n] at y
      walk_at "go"
      exact y
  walk_at "go"
  have w0 : 0 < (sp 32 l).length := List.length_pos_iff.mpr n0
  have lws : ((sp 32 l).map sM).length = (sp 32 l).length := by simp
  refine gS (by omega) (by omega) ?_
  walk_at "go"
  rw [litRch, txt_eq]
  refine mxt (fun e => ?_) fun e => ?_
  · walk_at "go"
    exact k0 _ fun z => e z.1
  have hp : Pl 3 (.lst (((sp 32 l).drop 1).map reO)) := by
    unfold Pl
    intro m hm
    obtain ⟨w, _, rfl⟩ := List.mem_map.mp hm
    exact pl_reO w
  walk_at "go"
  refine inN_go hp ?_
  rw [reO_any, Bool.false_xor]
  refine mxt (fun c => ?_) fun c => ?_
  · walk_at "go"
    exact k0 _ fun z => c z.2
  · walk_at "go"
    obtain ⟨r, hr, e2⟩ := rrf_num ⟨e, c⟩
    subst e2
    have e3 : ((sp 32 (rowL r)).drop 1).map reO = r.map rchM := by
      rw [rowL_sp]
      show (r.map rchL).map reO = _
      rw [List.map_map]
      refine List.map_congr_left fun x hx => ?_
      exact reO_yes (hr x hx)
    rw [e3]
    exact k1 r _ hr rfl
theorem w_prices_in (l : List Nat) (hl : l.length < 400000) (Q : OV → Env → Prop) (E : Int → Prop)
    (k1 : ∀ L en, OkL L → l = priL L → Q (.lst (L.map .int)) en) (k0 : ∀ en, ¬ PRF (sp 32 l) → Q (.fro .non) en) : F_prices_in [.ow (.fro (sM l))] Q E := by
  refine F_prices_in.mk ?_
  have h1 := sp_ok (l := l) (by omega)
  walk_at "go"
  rw [split_sp]
  have wl := sp_le (s := 32) l
  have wc := sp_cnt (s := 32) l
  have n0 := sp_ne 32 l
  have w0 : 0 < (sp 32 l).length := List.length_pos_iff.mpr n0
  have lws : ((sp 32 l).map sM).length = (sp 32 l).length := by simp
  refine gS (by omega) (by omega) ?_
  walk_at "go"
  rw [litPri, txt_eq]
  refine mxt (fun e => ?_) fun e => ?_
  · walk_at "go"
    exact k0 _ fun z => e z.1
  walk_at "go"
  rw [lws]
  refine mdec (fun c => ?_) fun c => ?_
  · walk_at "go"
    exact k0 _ fun z => by have := z.2.1; omega
  walk_at "go"
  rw [cut_from _ (by omega), show Int.toNat 1 = 1 from rfl, ← List.map_drop]
  refine lc_ty sM (fun w => .bl (dB (Pln w))) ((sp 32 l).drop 1) (le_line (by rw [List.length_drop]; omega)) (fun w hw Y y => ?_) ?_
  · have := wl w (List.mem_of_mem_drop hw)
    walk_at "go"
    refine w_is_plain w (by omega) _ _ fun en => ?_
    walk_at "go"
    exact y
  walk_at "go"
  try (refine alls_go ?_; walk_at "go")
  rw [all_dB]
  refine mndec (fun q => ?_) fun q => ?_
  · walk_at "go"
    exact k0 _ fun z => q z.2.2
  obtain ⟨L, hL, e2⟩ := prf_num (l := l) ⟨e, by omega, q⟩
  subst e2
  walk_at "go"
  rw [cut_from _ (by omega), show Int.toNat 1 = 1 from rfl, ← List.map_drop]
  refine lc_ty sM (fun w => .int (valS w)) ((sp 32 (priL L)).drop 1) (le_line (by rw [List.length_drop]; omega)) (fun w hw Y y => ?_) ?_
  · have pw := q w hw
    have lw : (txt w).length ≤ 640 := by rw [txt_len]; have := pw.le; omega
    walk_at "go"
    rw [sgn_val (pln_sgn pw)]
    walk_at "go"
    exact y
  walk_at "go"
  have e3 : ((sp 32 (priL L)).drop 1).map (fun w => MV.int (valS w)) = L.map .int := by
    rw [priL_sp]
    show (L.map numI).map _ = _
    rw [List.map_map]
    refine List.map_congr_left fun x _ => ?_
    show MV.int (valS (numI x)) = _
    rw [valS_num]
  rw [e3]
  exact k1 L _ hL rfl

end C
namespace C
open PySem PySem.Spec PyProof.Rows L2 TL
local macro_rules | `(tactic| walk_at "ev") => `(tactic| (conv => whnf))
local macro_rules | `(tactic| walk_at "side") => `(tactic| (first | assumption | exact trivial | exact line1000 rfl | (show (0 : Int) < _; first | omega | decide) | exact rfl | exact smallof (by omega) (by omega) | exact ⟨smallof (by omega) (by omega), smallof (by omega) (by omega)⟩ | exact Or.inl (by omega) | exact Or.inr (Or.inl (by omega)) | exact cdiv_of (by omega) (by omega) | omega | exact lt_line (by omega) | exact le_line (by omega) | exact ⟨by decide, by decide, by decide⟩ | decide | fail))
local macro_rules | `(tactic| walk_at "go") => `(tactic| ((repeat' ((conv => whnf); first | refine And.intro (by walk_at "side") ?_ | walk_at "call" | walk_at "test" | fail)); try (conv => whnf)))
local macro_rules | `(tactic| walk_at "call") => `(tactic| (first | refine setE_go (by assumption) ?_ | fail))
local macro_rules | `(tactic| walk_at "test") => `(tactic| (first | refine mdec_yes (by omega) ?_ | refine mdec_no (by omega) ?_ | refine mdec_no (fun h => h rfl) ?_ | refine mndec_yes (by omega) ?_ | refine mndec_no (by omega) ?_ | fail))
local macro_rules | `(tactic| walk_at "call") => `(tactic| (first | refine gl0 ?_ | refine gl1 ?_ | refine gl2 ?_ | refine gl3 ?_ | refine at_go (by omega) (by omega) ?_ | refine at_goN (by omega) (by omega) ?_ | fail))
local macro_rules | `(tactic| walk_at "call") => `(tactic| (first | refine ints_go ?_ | refine bools_go ?_ | fail))
local macro_rules | `(tactic| walk_at "call") => `(tactic| (first | refine eqD_go (pl_ints _) (pl_ints _) ?_ | fail))
local macro_rules | `(tactic| walk_at "call") => `(tactic| (first | refine w_cell _ _ (by omega) _ _ (fun _ => ?_) | fail))
local macro_rules | `(tactic| walk_at "call") => `(tactic| (first | refine w_cell _ _ (by omega) _ _ (fun _ => ?_) | fail))
local macro_rules | `(tactic| walk_at "call") => `(tactic| (first | refine at_go (by omega) (by omega) ?_ | refine at_goN (by omega) (by omega) ?_ | refine atPr (by omega) (by omega) ?_ | refine atPrN (by omega) (by omega) ?_ | fail))
local macro_rules | `(tactic| walk_at "call") => `(tactic| (first | refine alls_go ?_ | fail))
local macro_rules | `(tactic| walk_at "call") => `(tactic| (first | refine eqD_go (pl_prs _) (pl_prs _) ?_ | fail))
local macro_rules | `(tactic| walk_at "call") => `(tactic| (first | refine at_go (by omega) (by omega) ?_ | refine at_goN (by omega) (by omega) ?_ | refine atPr (by omega) (by omega) ?_ | refine atPrN (by omega) (by omega) ?_ | refine atRg (by omega) (by omega) ?_ | refine atRgN (by omega) (by omega) ?_ | fail))
/-- the defs that read_rows gets -/
abbrev KFP : Nat := 101
abbrev KFR : Nat := 100

/-! ### rows that are read -/
structure Pre {α : Type} (L : α → List Nat) (Ok : α → Prop) (F : List (List Nat) → Prop) (ls : List (List Nat)) (at_ : Nat) (xs : List α) : Prop where
  le : at_ + xs.length ≤ ls.length
  e : ls.drop at_ = xs.map L ++ ls.drop (at_ + xs.length)
  ok : ∀ x ∈ xs, Ok x
  st : at_ + xs.length = ls.length ∨ ¬ F (sp 32 (ls.getD (at_ + xs.length) []))
theorem getL {ls : List (List Nat)} {i : Nat} (h : i < ls.length) : ls.getD i [] ∈ ls := by
  rw [List.getD_eq_getElem?_getD, List.getElem?_eq_getElem h]; exact List.getElem_mem h
theorem drop_cons {ls : List (List Nat)} {i : Nat} (h : i < ls.length) : ls.drop i = ls.getD i [] :: ls.drop (i + 1) := by
  rw [List.drop_eq_getElem_cons h, List.getD_eq_getElem?_getD, List.getElem?_eq_getElem h]; rfl
theorem Pre.at {α : Type} {L : α → List Nat} {Ok : α → Prop} {F : List (List Nat) → Prop} {ls : List (List Nat)} {a : Nat} {xs : List α} (h : Pre L Ok F ls a xs) {j : Nat} (hj : j < xs.length) : ∃ x ∈ xs, ls.getD (a + j) [] = L x := by
  have e := congrArg (·[j]?) h.e
  simp only [List.getElem?_drop] at e
  rw [List.getElem?_append_left (by simpa using hj), List.getElem?_map, List.getElem?_eq_getElem hj] at e
  exact ⟨xs[j], List.getElem_mem hj, by rw [List.getD_eq_getElem?_getD, e]; rfl⟩
theorem Pre.uniq {α : Type} {L : α → List Nat} {Ok : α → Prop} {F : List (List Nat) → Prop} (hF : ∀ {x}, Ok x → F (sp 32 (L x))) {ls : List (List Nat)} {a : Nat} {xs ys : List α} (h : Pre L Ok F ls a xs) (h' : Pre L Ok F ls a ys) : xs.length = ys.length := by
  have key : ∀ {xs ys : List α}, Pre L Ok F ls a xs → Pre L Ok F ls a ys → ¬ xs.length < ys.length := fun {xs ys} h h' c => by
    obtain ⟨x, hx, e⟩ := h'.at c
    rcases h.st with z | z
    · have := h'.le; omega
    · exact z (by rw [e]; exact hF (h'.ok x hx))
  have := key h h'
  have := key h' h
  omega
/-- what has been read so far -/
structure Pr0 {α : Type} (L : α → List Nat) (Ok : α → Prop) (ls : List (List Nat)) (at_ : Nat) (xs : List α) : Prop where
  le : at_ + xs.length ≤ ls.length
  e : ls.drop at_ = xs.map L ++ ls.drop (at_ + xs.length)
  ok : ∀ x ∈ xs, Ok x
theorem Pr0.snoc {α : Type} {L : α → List Nat} {Ok : α → Prop} {ls : List (List Nat)} {a : Nat} {xs : List α} (h : Pr0 L Ok ls a xs) {x : α} (hl : a + xs.length < ls.length) (hx : Ok x) (e : ls.getD (a + xs.length) [] = L x) : Pr0 L Ok ls a (xs ++ [x]) := by
  refine ⟨by rw [List.length_append, List.length_singleton]; omega, ?_, fun y hy => ?_⟩
  · rw [h.e, drop_cons hl, e, List.map_append, List.length_append, List.length_singleton]
    simp [Nat.add_assoc]
  · rcases List.mem_append.mp hy with z | z
    · exact h.ok y z
    · rw [List.mem_singleton.mp z]; exact hx
theorem w_rows_p (ls : List (List Nat)) (hm : ∀ l ∈ ls, l.length < 300000) (hn : ls.length < 300000) (a : Nat) (ha : a ≤ ls.length) (kf : Nat) (hkf : kf = KFP) (Q : OV → Env → Prop) (E : Int → Prop)
    (k : ∀ P en, Pre pplL OkP PPF ls a P → Q (.fro (.tup [.lst (P.map pnM), .int ((a + P.length : Nat) : Int)])) en) :
    F_read_rows_plan_piece [.ow (.fro (.lst (ls.map sM))), .ow (.fro (.int a)), .ow (.fro (.fn kf))] Q E := by
  subst hkf
  refine F_read_rows_plan_piece.mk ?_
  have lws : (ls.map sM).length = ls.length := by simp
  walk_at "go"
  refine while_inv (fun n en => ∃ P : List Pn, en = [.ow (.fro (.lst (ls.map sM))), .ow (.fro (.int ((a + P.length : Nat) : Int))), .ow (.fro (.fn KFP)), .ow (.lst (P.map pnM))] ∧ Pr0 pplL OkP ls a P ∧ n + a + P.length = ls.length) (ls.length - a) ⟨[], rfl, ⟨by simpa using ha, rfl, fun x hx => by cases hx⟩, by simp; omega⟩ ?_
  rintro n en ⟨P, rfl, hP, hn2⟩ N hN
  have lp : (P.map pnM).length = P.length := by simp
  walk_at "go"
  rw [lws]
  refine mdec (fun c => ?_) fun c => ?_
  · have hl : a + P.length < ls.length := by omega
    have hl1 := hm _ (getL hl)
    walk_at "go"
    refine gS (by omega) (by omega) ?_
    rw [Int.toNat_natCast]
    refine ⟨rfl, ?_⟩
    walk_at "go"
    refine w_plan_piece _ (by omega) _ _ (fun x en hx e => ?_) fun en nf => ?_
    · walk_at "go"
      refine gS (by omega) (by omega) ?_
      rw [Int.toNat_natCast]
      refine ⟨rfl, ?_⟩
      walk_at "go"
      refine w_plan_piece _ (by omega) _ _ (fun y en hy e2 => ?_) fun en nf => absurd (by rw [e]; exact ppf_of hx) nf
      walk_at "go"
      refine hN (n - 1) _ (by omega) ⟨P ++ [y], ?_, hP.snoc hl hy e2, by rw [List.length_append, List.length_singleton]; omega⟩
      rw [List.map_append, List.length_append, List.length_singleton, show ((a + (P.length + 1) : Nat) : Int) = ((a + P.length : Nat) : Int) + 1 by omega]
      rfl
    · walk_at "go"
      exact k P _ ⟨hP.le, hP.e, hP.ok, .inr nf⟩
  · walk_at "go"
    exact k P _ ⟨hP.le, hP.e, hP.ok, .inl (by have := hP.le; omega)⟩
theorem w_rows_r (ls : List (List Nat)) (hm : ∀ l ∈ ls, l.length < 300000) (hn : ls.length < 300000) (a : Nat) (ha : a ≤ ls.length) (kf : Nat) (hkf : kf = KFR) (Q : OV → Env → Prop) (E : Int → Prop)
    (k : ∀ R en, Pre rowL OkR RRF ls a R → Q (.fro (.tup [.lst (R.map rowR), .int ((a + R.length : Nat) : Int)])) en) :
    F_read_rows_reaches_in [.ow (.fro (.lst (ls.map sM))), .ow (.fro (.int a)), .ow (.fro (.fn kf))] Q E := by
  subst hkf
  refine F_read_rows_reaches_in.mk ?_
  have lws : (ls.map sM).length = ls.length := by simp
  walk_at "go"
  refine while_inv (fun n en => ∃ P : List Row, en = [.ow (.fro (.lst (ls.map sM))), .ow (.fro (.int ((a + P.length : Nat) : Int))), .ow (.fro (.fn KFR)), .ow (.lst (P.map rowR))] ∧ Pr0 rowL OkR ls a P ∧ n + a + P.length = ls.length) (ls.length - a) ⟨[], rfl, ⟨by simpa using ha, rfl, fun x hx => by cases hx⟩, by simp; omega⟩ ?_
  rintro n en ⟨P, rfl, hP, hn2⟩ N hN
  have lp : (P.map rowR).length = P.length := by simp
  walk_at "go"
  rw [lws]
  refine mdec (fun c => ?_) fun c => ?_
  · have hl : a + P.length < ls.length := by omega
    have hl1 := hm _ (getL hl)
    walk_at "go"
    refine gS (by omega) (by omega) ?_
    rw [Int.toNat_natCast]
    refine ⟨rfl, ?_⟩
    walk_at "go"
    refine w_reaches_in _ (by omega) _ _ (fun x en hx e => ?_) fun en nf => ?_
    · walk_at "go"
      refine gS (by omega) (by omega) ?_
      rw [Int.toNat_natCast]
      refine ⟨rfl, ?_⟩
      walk_at "go"
      refine w_reaches_in _ (by omega) _ _ (fun y en hy e2 => ?_) fun en nf => absurd (by rw [e]; exact rrf_of hx) nf
      walk_at "go"
      refine hN (n - 1) _ (by omega) ⟨P ++ [y], ?_, hP.snoc hl hy e2, by rw [List.length_append, List.length_singleton]; omega⟩
      rw [List.map_append, List.length_append, List.length_singleton, show ((a + (P.length + 1) : Nat) : Int) = ((a + P.length : Nat) : Int) + 1 by omega]
      rfl
    · walk_at "go"
      exact k P _ ⟨hP.le, hP.e, hP.ok, .inr nf⟩
  · walk_at "go"
    exact k P _ ⟨hP.le, hP.e, hP.ok, .inl (by have := hP.le; omega)⟩

end C
namespace C
open PySem PySem.Spec PyProof.Rows L2 TL
local macro_rules | `(tactic| walk_at "ev") => `(tactic| (conv => whnf))
local macro_rules | `(tactic| walk_at "side") => `(tactic| (first | assumption | exact trivial | exact line1000 rfl | (show (0 : Int) < _; first | omega | decide) | exact rfl | exact smallof (by omega) (by omega) | exact ⟨smallof (by omega) (by omega), smallof (by omega) (by omega)⟩ | exact Or.inl (by omega) | exact Or.inr (Or.inl (by omega)) | exact cdiv_of (by omega) (by omega) | omega | exact lt_line (by omega) | exact le_line (by omega) | exact ⟨by decide, by decide, by decide⟩ | decide | fail))
local macro_rules | `(tactic| walk_at "go") => `(tactic| ((repeat' ((conv => whnf); first | refine And.intro (by walk_at "side") ?_ | walk_at "call" | walk_at "test" | fail)); try (conv => whnf)))
local macro_rules | `(tactic| walk_at "call") => `(tactic| (first | refine setE_go (by assumption) ?_ | fail))
local macro_rules | `(tactic| walk_at "test") => `(tactic| (first | refine mdec_yes (by omega) ?_ | refine mdec_no (by omega) ?_ | refine mdec_no (fun h => h rfl) ?_ | refine mndec_yes (by omega) ?_ | refine mndec_no (by omega) ?_ | fail))
local macro_rules | `(tactic| walk_at "call") => `(tactic| (first | refine gl0 ?_ | refine gl1 ?_ | refine gl2 ?_ | refine gl3 ?_ | refine at_go (by omega) (by omega) ?_ | refine at_goN (by omega) (by omega) ?_ | fail))
local macro_rules | `(tactic| walk_at "call") => `(tactic| (first | refine ints_go ?_ | refine bools_go ?_ | fail))
local macro_rules | `(tactic| walk_at "call") => `(tactic| (first | refine eqD_go (pl_ints _) (pl_ints _) ?_ | fail))
local macro_rules | `(tactic| walk_at "call") => `(tactic| (first | refine w_cell _ _ (by omega) _ _ (fun _ => ?_) | fail))
local macro_rules | `(tactic| walk_at "call") => `(tactic| (first | refine w_cell _ _ (by omega) _ _ (fun _ => ?_) | fail))
local macro_rules | `(tactic| walk_at "call") => `(tactic| (first | refine at_go (by omega) (by omega) ?_ | refine at_goN (by omega) (by omega) ?_ | refine atPr (by omega) (by omega) ?_ | refine atPrN (by omega) (by omega) ?_ | fail))
local macro_rules | `(tactic| walk_at "call") => `(tactic| (first | refine alls_go ?_ | fail))
local macro_rules | `(tactic| walk_at "call") => `(tactic| (first | refine eqD_go (pl_prs _) (pl_prs _) ?_ | fail))
local macro_rules | `(tactic| walk_at "call") => `(tactic| (first | refine at_go (by omega) (by omega) ?_ | refine at_goN (by omega) (by omega) ?_ | refine atPr (by omega) (by omega) ?_ | refine atPrN (by omega) (by omega) ?_ | refine atRg (by omega) (by omega) ?_ | refine atRgN (by omega) (by omega) ?_ | fail))
/-! ### the first wrong line of a plan -/
inductive IsG (ls : List (List Nat)) : Nat → Prop
  | hd (h : ls.getD 0 [] ≠ PLAN) : IsG ls 1
  | md (P : List Pn) (R : List Row) (h : ls.getD 0 [] = PLAN) (p : Pre pplL OkP PPF ls 1 P) (r : Pre rowL OkR RRF ls (1 + P.length) R) (n : 1 + P.length + R.length = ls.length ∨ R = [] ∨ ¬ PRF (sp 32 (ls.getD (1 + P.length + R.length) []))) : IsG ls (1 + P.length + R.length + 1)
  | bk (P : List Pn) (R : List Row) (h : ls.getD 0 [] = PLAN) (p : Pre pplL OkP PPF ls 1 P) (r : Pre rowL OkR RRF ls (1 + P.length) R) (r0 : R ≠ []) (l : PRF (sp 32 (ls.getD (1 + P.length + R.length) []))) (b : 1 + P.length + R.length + 1 < ls.length) : IsG ls (1 + P.length + R.length + 2)
  | no (P : List Pn) (R : List Row) (L : List Int) (h : ls.getD 0 [] = PLAN) (p : Pre pplL OkP PPF ls 1 P) (r : Pre rowL OkR RRF ls (1 + P.length) R) (r0 : R ≠ []) (o : OkL L) (l : ls.getD (1 + P.length + R.length) [] = priL L) (b : 1 + P.length + R.length + 1 = ls.length) : IsG ls 0
theorem pre2 {ls : List (List Nat)} {P P' : List Pn} {R R' : List Row} (p : Pre pplL OkP PPF ls 1 P) (r : Pre rowL OkR RRF ls (1 + P.length) R) (p' : Pre pplL OkP PPF ls 1 P') (r' : Pre rowL OkR RRF ls (1 + P'.length) R') : P.length = P'.length ∧ R.length = R'.length := by
  have e := Pre.uniq ppf_of p p'
  rw [← e] at r'
  exact ⟨e, Pre.uniq rrf_of r r'⟩
theorem IsG.uniq {ls : List (List Nat)} {m n : Nat} (ha : IsG ls m) (hb : IsG ls n) : m = n := by
  have r0 : ∀ {R R' : List Row}, R.length = R'.length → R = [] → R' ≠ [] → False := fun h z w => w (List.eq_nil_of_length_eq_zero (by rw [← h, z]; rfl))
  cases ha with
  | hd h =>
    cases hb with
    | hd h' => rfl
    | md P R h' => exact absurd h' h
    | bk P R h' => exact absurd h' h
    | no P R L h' => exact absurd h' h
  | md P R h p r n =>
    cases hb with
    | hd h' => exact absurd h h'
    | md P' R' h' p' r' n' => obtain ⟨e1, e2⟩ := pre2 p r p' r'; omega
    | bk P' R' h' p' r' z' l' b' =>
      obtain ⟨e1, e2⟩ := pre2 p r p' r'
      rw [e1, e2] at n
      rcases n with n | n | n
      · omega
      · exact (r0 e2 n z').elim
      · exact absurd l' n
    | no P' R' L' h' p' r' z' o' l' b' =>
      obtain ⟨e1, e2⟩ := pre2 p r p' r'
      rw [e1, e2] at n
      rcases n with n | n | n
      · omega
      · exact (r0 e2 n z').elim
      · exact absurd (by rw [l']; exact prf_of o') n
  | bk P R h p r z l b =>
    cases hb with
    | hd h' => exact absurd h h'
    | md P' R' h' p' r' n' =>
      obtain ⟨e1, e2⟩ := pre2 p r p' r'
      rw [← e1, ← e2] at n'
      rcases n' with n | n | n
      · omega
      · exact (r0 e2.symm n z).elim
      · exact absurd l n
    | bk P' R' h' p' r' z' l' b' => obtain ⟨e1, e2⟩ := pre2 p r p' r'; omega
    | no P' R' L' h' p' r' z' o' l' b' => obtain ⟨e1, e2⟩ := pre2 p r p' r'; omega
  | no P R L h p r z o l b =>
    cases hb with
    | hd h' => exact absurd h h'
    | md P' R' h' p' r' n' =>
      obtain ⟨e1, e2⟩ := pre2 p r p' r'
      rw [← e1, ← e2] at n'
      rcases n' with n | n | n
      · omega
      · exact (r0 e2.symm n z).elim
      · exact absurd (by rw [l]; exact prf_of o) n
    | bk P' R' h' p' r' z' l' b' => obtain ⟨e1, e2⟩ := pre2 p r p' r'; omega
    | no P' R' L' h' p' r' z' o' l' b' => rfl
/-- the lines of a plan -/
def plnL (P : List Pn) (R : List Row) (L : List Int) : List (List Nat) := PLAN :: (P.map pplL ++ (R.map rowL ++ [priL L]))
structure OkPl (P : List Pn) (R : List Row) (L : List Int) : Prop where
  p : ∀ x ∈ P, OkP x
  r : ∀ r ∈ R, OkR r
  r0 : R ≠ []
  l : OkL L
theorem hd_row {r : Row} : ¬ PPF (sp 32 (rowL r)) := fun h => by
  have := h.hd
  rw [rowL_sp] at this
  exact absurd (show REACHES = PIECE from this) (by decide)
theorem hd_pri {L : List Int} : ¬ RRF (sp 32 (priL L)) := fun h => by
  have := h.1
  rw [priL_sp] at this
  exact absurd (show PRICES = REACHES from this) (by decide)
theorem plnL_len (P : List Pn) (R : List Row) (L : List Int) : (plnL P R L).length = 1 + P.length + R.length + 1 := by
  unfold plnL
  simp
  omega
theorem plnL_pri (P : List Pn) (R : List Row) (L : List Int) : (plnL P R L).getD (1 + P.length + R.length) [] = priL L := by
  unfold plnL
  rw [List.getD_eq_getElem?_getD, show 1 + P.length + R.length = (P.length + R.length) + 1 by omega, List.getElem?_cons_succ, List.getElem?_append_right (by simp), List.getElem?_append_right (by simp)]
  simp
theorem plnL_row (P : List Pn) (R : List Row) (L : List Int) {r : Row} {R' : List Row} (h : R = r :: R') : (plnL P R L).getD (1 + P.length) [] = rowL r := by
  subst h
  unfold plnL
  rw [List.getD_eq_getElem?_getD, show 1 + P.length = P.length + 1 by omega, List.getElem?_cons_succ, List.getElem?_append_right (by simp)]
  simp
theorem plnL_pre {P : List Pn} {R : List Row} {L : List Int} (h : OkPl P R L) : Pre pplL OkP PPF (plnL P R L) 1 P ∧ Pre rowL OkR RRF (plnL P R L) (1 + P.length) R := by
  have ll := plnL_len P R L
  constructor
  · refine ⟨by omega, ?_, h.p, .inr ?_⟩
    · show P.map pplL ++ (R.map rowL ++ [priL L]) = _
      congr 1
      rw [show 1 + P.length = P.length + 1 by omega]
      unfold plnL
      rw [List.drop_succ_cons, List.drop_append_of_le_length (by simp), List.drop_of_length_le (by simp), List.nil_append]
    · cases hR : R with
      | nil => exact absurd hR h.r0
      | cons r R' =>
        rw [plnL_row P _ L rfl]
        exact hd_row
  · refine ⟨by omega, ?_, h.r, .inr ?_⟩
    · unfold plnL
      rw [show 1 + P.length = P.length + 1 by omega, List.drop_succ_cons, List.drop_append_of_le_length (by simp), List.drop_of_length_le (by simp), List.nil_append,
        show P.length + 1 + R.length = (P.length + R.length) + 1 by omega, List.drop_succ_cons, List.drop_append, List.drop_of_length_le (by simp), List.nil_append]
      congr 1
      rw [List.length_map, show P.length + R.length - P.length = R.length by omega, List.drop_append_of_le_length (by simp), List.drop_of_length_le (by simp)]
      rfl
    · rw [plnL_pri]; exact hd_pri
theorem plnL_G {P : List Pn} {R : List Row} {L : List Int} (h : OkPl P R L) : IsG (plnL P R L) 0 := by
  obtain ⟨p, r⟩ := plnL_pre h
  exact .no P R L rfl p r h.r0 h.l (plnL_pri P R L) (plnL_len P R L).symm
theorem G_plnL {ls : List (List Nat)} (h : IsG ls 0) : ∃ P R L, OkPl P R L ∧ ls = plnL P R L := by
  cases h with
  | no P R L h p r r0 o l b =>
    refine ⟨P, R, L, ⟨p.ok, r.ok, r0, o⟩, ?_⟩
    have h0 : 0 < ls.length := by omega
    have e1 := drop_cons h0
    rw [List.drop_zero, h, p.e, r.e, drop_cons (show 1 + P.length + R.length < ls.length by omega), l, List.drop_of_length_le (by omega)] at e1
    exact e1
theorem numI_inj {a b : Int} (h : numI a = numI b) : a = b := by rw [← valS_num a, h, valS_num]
theorem pplL_inj {x y : Pn} (h : pplL x = pplL y) : x = y := by
  have e : sp 32 (pplL x) = sp 32 (pplL y) := by rw [h]
  rw [pplL_sp, pplL_sp] at e
  simp only [List.cons.injEq, and_true, true_and] at e
  obtain ⟨e1, e2, e3, e4, e5⟩ := e
  obtain ⟨a, b, c, d, f⟩ := x
  obtain ⟨a', b', c', d', f'⟩ := y
  rw [show a = a' from numI_inj e1, show b = b' from numI_inj e2, show c = c' from numI_inj e3, show d = d' from numI_inj e4, show f = f' from numI_inj e5]
theorem rchL_inj {x y : Rch} (h : rchL x = rchL y) : x = y := by rw [← reN_of x, h, reN_of]
theorem map_inj2 {α β : Type} {f : α → β} (hf : ∀ {x y}, f x = f y → x = y) : ∀ {xs ys : List α}, xs.map f = ys.map f → xs = ys
  | [], [], _ => rfl
  | [], _ :: _, h => by cases h
  | _ :: _, [], h => by cases h
  | x :: xs, y :: ys, h => by
    rw [List.map_cons, List.map_cons] at h
    rw [hf (List.cons.inj h).1, map_inj2 hf (List.cons.inj h).2]
theorem rowL_inj {x y : Row} (h : rowL x = rowL y) : x = y := by
  have e : sp 32 (rowL x) = sp 32 (rowL y) := by rw [h]
  rw [rowL_sp, rowL_sp] at e
  exact map_inj2 rchL_inj (List.cons.inj e).2
theorem priL_inj {x y : List Int} (h : priL x = priL y) : x = y := by
  have e : sp 32 (priL x) = sp 32 (priL y) := by rw [h]
  rw [priL_sp, priL_sp] at e
  exact map_inj2 numI_inj (List.cons.inj e).2
theorem plnL_inj {P P' : List Pn} {R R' : List Row} {L L' : List Int} (h : OkPl P R L) (h' : OkPl P' R' L') (e : plnL P R L = plnL P' R' L') : P = P' ∧ R = R' ∧ L = L' := by
  obtain ⟨p, r⟩ := plnL_pre h
  obtain ⟨p', r'⟩ := plnL_pre h'
  rw [← e] at p' r'
  obtain ⟨e1, e2⟩ := pre2 p r p' r'
  unfold plnL at e
  have e := (List.cons.inj e).2
  obtain ⟨a1, a2⟩ := List.append_inj e (by simpa using e1)
  obtain ⟨b1, b2⟩ := List.append_inj a2 (by simpa using e2)
  exact ⟨map_inj2 pplL_inj a1, map_inj2 rowL_inj b1, priL_inj (List.cons.inj b2).1⟩
theorem rowsM_rows (R : List Row) : rowsM (R.map rowR) = some (R.map rowR) := by
  induction R with
  | nil => rfl
  | cons r R ih =>
    show rowsM (.lst (r.map rchM) :: R.map rowR) = _
    unfold rowsM
    rw [ih]; rfl

theorem w_plan_init (P : List Pn) (R : List Row) (L : List Int) (hR : R.length < 300000) (Q : OV → Env → Prop) (E : Int → Prop) (h : ∀ s1 s2 s3 s4, Q (.fro .non) [.rf (.obj 9 [.lst (P.map pnM), .fro (.lst (R.map rowR)), .fro (.lst (L.map .int))]), s1, s2, s3, s4]) :
    F_Plan_init__ [.rf (.obj 9 []), .ow (.fro (.lst (P.map pnM))), .ow (.fro (.lst (R.map rowR))), .ow (.fro (.lst (L.map .int)))] Q E := by
  refine F_Plan_init__.mk ?_
  have lR : (R.map rowR).length = R.length := by simp
  walk_at "go"
  rw [rowsM_rows]
  refine ⟨⟨le_line (by omega), (by show 4 < 5; decide)⟩, ?_⟩
  walk_at "go"
  exact h _ _ _ _
theorem w_read_plan (l : List Nat) (hl : l.length < 200000) (hF : IsG (sp 10 l) 0) (Q : OV → Env → Prop) (E : Int → Prop)
    (k : ∀ P R L en, OkPl P R L → sp 10 l = plnL P R L → Q (.obj 9 [.lst (P.map pnM), .fro (.lst (R.map rowR)), .fro (.lst (L.map .int))]) en) : F_read_plan [.ow (.fro (sM l))] Q E := by
  refine F_read_plan.mk ?_
  have h1 := nl_ok (l := l) (by omega)
  walk_at "go"
  rw [split_nl]
  have wl := sp_le (s := 10) l
  have wc := sp_cnt (s := 10) l
  have n0 := sp_ne 10 l
  obtain ⟨ls, hls⟩ : ∃ ls, ls = sp 10 l := ⟨_, rfl⟩
  rw [← hls] at k hF wl wc n0 ⊢
  clear hls
  have w0 : 0 < ls.length := List.length_pos_iff.mpr n0
  have lws : (ls.map sM).length = ls.length := by simp
  walk_at "go"
  refine gS (by omega) (by omega) ?_
  walk_at "go"
  rw [litPlan, txt_eq]
  refine mxt (fun a => ?_) fun a => ?_
  · walk_at "go"
    exact absurd (hF.uniq (.hd a)) (by omega)
  have a : ls.getD 0 [] = PLAN := a
  have hml : ∀ l ∈ ls, l.length < 300000 := fun w hw => by have := wl w hw; omega
  walk_at "go"
  refine w_rows_p ls hml (by omega) 1 (by omega) _ rfl _ _ fun P en hP => ?_
  walk_at "go"
  refine w_rows_r ls hml (by omega) (1 + P.length) hP.le _ rfl _ _ fun R en hR => ?_
  have lR : (R.map rowR).length = R.length := by simp
  walk_at "go"
  rw [lws]
  refine mdec (fun c => ?_) fun c => ?_
  · walk_at "go"
    exact absurd (hF.uniq (.md P R a hP hR (.inl (by omega)))) (by omega)
  have hlt : 1 + P.length + R.length < ls.length := by have := hR.le; omega
  walk_at "go"
  refine mnnemp (fun d => ?_) fun d => ?_
  · walk_at "go"
    exact absurd (hF.uniq (.md P R a hP hR (.inr (.inl (by simpa using d))))) (by omega)
  have d : R ≠ [] := by simpa using d
  walk_at "go"
  refine gS (by omega) (by omega) ?_
  rw [Int.toNat_natCast]
  have hl1 := hml _ (getL hlt)
  walk_at "go"
  refine w_prices_in _ (by omega) _ _ (fun L en hL e => ?_) fun en nf => ?_
  · walk_at "go"
    rw [lws]
    refine mdec (fun g => ?_) fun g => ?_
    · walk_at "go"
      exact absurd (hF.uniq (.bk P R a hP hR d (by rw [e]; exact prf_of hL) (by omega))) (by omega)
    · walk_at "go"
      refine gS (by omega) (by omega) ?_
      rw [Int.toNat_natCast]
      walk_at "go"
      refine w_prices_in _ (by omega) _ _ (fun L2 en hL2 e2 => ?_) fun en nf => absurd (by rw [e]; exact prf_of hL) nf
      rw [e] at e2
      have := priL_inj e2
      subst this
      have hg : IsG ls 0 := .no P R L a hP hR d hL e (by omega)
      obtain ⟨P', R', L', o', e'⟩ := G_plnL hg
      have lR3 : R.length < 300000 := by omega
      have e3 : ls = plnL P R L := by
        have h0 : 0 < ls.length := by omega
        have e1 := drop_cons h0
        rw [List.drop_zero, a, hP.e, hR.e, drop_cons (show 1 + P.length + R.length < ls.length by omega), e, List.drop_of_length_le (by omega)] at e1
        exact e1
      walk_at "go"
      exact w_plan_init P R L lR3 _ _ fun _ _ _ _ => ⟨rfl, k P R L _ ⟨hP.ok, hR.ok, d, hL⟩ e3⟩
  · walk_at "go"
    exact absurd (hF.uniq (.md P R a hP hR (.inr (.inr nf)))) (by omega)

end C
namespace C
open PySem PySem.Spec PyProof.Rows L2 TL
local macro_rules | `(tactic| walk_at "ev") => `(tactic| (conv => whnf))
local macro_rules | `(tactic| walk_at "side") => `(tactic| (first | assumption | exact trivial | exact line1000 rfl | (show (0 : Int) < _; first | omega | decide) | exact rfl | exact smallof (by omega) (by omega) | exact ⟨smallof (by omega) (by omega), smallof (by omega) (by omega)⟩ | exact Or.inl (by omega) | exact Or.inr (Or.inl (by omega)) | exact cdiv_of (by omega) (by omega) | omega | exact lt_line (by omega) | exact le_line (by omega) | exact ⟨by decide, by decide, by decide⟩ | decide | fail))
local macro_rules | `(tactic| walk_at "go") => `(tactic| ((repeat' ((conv => whnf); first | refine And.intro (by walk_at "side") ?_ | walk_at "call" | walk_at "test" | fail)); try (conv => whnf)))
local macro_rules | `(tactic| walk_at "call") => `(tactic| (first | refine setE_go (by assumption) ?_ | fail))
local macro_rules | `(tactic| walk_at "test") => `(tactic| (first | refine mdec_yes (by omega) ?_ | refine mdec_no (by omega) ?_ | refine mdec_no (fun h => h rfl) ?_ | refine mndec_yes (by omega) ?_ | refine mndec_no (by omega) ?_ | fail))
local macro_rules | `(tactic| walk_at "call") => `(tactic| (first | refine gl0 ?_ | refine gl1 ?_ | refine gl2 ?_ | refine gl3 ?_ | refine at_go (by omega) (by omega) ?_ | refine at_goN (by omega) (by omega) ?_ | fail))
local macro_rules | `(tactic| walk_at "call") => `(tactic| (first | refine ints_go ?_ | refine bools_go ?_ | fail))
local macro_rules | `(tactic| walk_at "call") => `(tactic| (first | refine eqD_go (pl_ints _) (pl_ints _) ?_ | fail))
local macro_rules | `(tactic| walk_at "call") => `(tactic| (first | refine w_cell _ _ (by omega) _ _ (fun _ => ?_) | fail))
local macro_rules | `(tactic| walk_at "call") => `(tactic| (first | refine w_cell _ _ (by omega) _ _ (fun _ => ?_) | fail))
local macro_rules | `(tactic| walk_at "call") => `(tactic| (first | refine at_go (by omega) (by omega) ?_ | refine at_goN (by omega) (by omega) ?_ | refine atPr (by omega) (by omega) ?_ | refine atPrN (by omega) (by omega) ?_ | fail))
local macro_rules | `(tactic| walk_at "call") => `(tactic| (first | refine alls_go ?_ | fail))
local macro_rules | `(tactic| walk_at "call") => `(tactic| (first | refine eqD_go (pl_prs _) (pl_prs _) ?_ | fail))
local macro_rules | `(tactic| walk_at "call") => `(tactic| (first | refine at_go (by omega) (by omega) ?_ | refine at_goN (by omega) (by omega) ?_ | refine atPr (by omega) (by omega) ?_ | refine atPrN (by omega) (by omega) ?_ | refine atRg (by omega) (by omega) ?_ | refine atRgN (by omega) (by omega) ?_ | fail))
/-! ### plans are written in these lines -/
theorem bw_txt {v : Int} : (Str.ofString (toString v) : Str) = txt (numI v) := str_int v
theorem join_co (ws : List (List Nat)) : Txt.join ("," : Str) (ws.map txt) = txt (joinL [44] ws) := by rw [lit_co, join_txt]
theorem join_okc {ws : List (List Nat)} (ne : ws ≠ []) (h : (joinL [44] ws).length < 1000000) : ((ws.map txt).map (·.length)).sum + (ws.map txt).length * ("," : Str).length ≤ 16777216 := by
  have := joinL_sum 44 ws ne
  rw [lit_co, txt_len, List.length_singleton, List.length_map]
  omega
theorem rchL_len {x : Rch} (h : OkE x) : (rchL x).length ≤ 260 := by
  obtain ⟨e, r⟩ := x
  have le := bw_len h.e.bw
  cases r with
  | none => show (numI e).length ≤ 260; dsimp only at le; omega
  | some r =>
    obtain ⟨i, j, m⟩ := r
    obtain ⟨hi, hj, hm⟩ := h.r i j m rfl
    have := bw_len hi.bw
    have := bw_len hj.bw
    have := bw_len hm.bw
    dsimp only at le
    show (numI e ++ ([44] ++ (numI i ++ ([44] ++ (numI j ++ ([44] ++ numI m)))))).length ≤ 260
    simp
    omega
theorem w_reach_word (x : Rch) (h : OkE x) (Q : OV → Env → Prop) (E : Int → Prop) (k : ∀ en, Q (.fro (sM (rchL x))) en) : F_reach_word [.ow (.fro (rchM x))] Q E := by
  refine F_reach_word.mk ?_
  have lr := rchL_len h
  obtain ⟨e, r⟩ := x
  have ge := bw_log h.e.bw
  dsimp only at ge
  cases r with
  | none =>
    show fDef 4 1 S_reach_word [.ow (.fro (.tup [.int e, .non]))] Q E
    walk_at "go"
    rw [bw_txt]
    exact k _
  | some r =>
    obtain ⟨i, j, m⟩ := r
    obtain ⟨hi, hj, hm⟩ := h.r i j m rfl
    have gi := bw_log hi.bw
    have gj := bw_log hj.bw
    have gm := bw_log hm.bw
    show fDef 4 1 S_reach_word [.ow (.fro (.tup [.int e, .tup [.int i, .int j, .int m]]))] Q E
    have ej := join_okc (ws := [numI e, numI i, numI j, numI m]) (by simp) (by show (rchL (e, some (i, j, m))).length < _; omega)
    walk_at "go"
    refine ⟨⟨by simp, by simp, line1000 rfl⟩, ?_⟩
    walk_at "go"
    rw [bw_txt, bw_txt, bw_txt, bw_txt]
    refine ⟨ej, ?_⟩
    walk_at "go"
    rw [show Txt.join ("," : Str) [txt (numI e), txt (numI i), txt (numI j), txt (numI m)] = txt (rchL (e, some (i, j, m))) from join_co [numI e, numI i, numI j, numI m]]
    exact k _
theorem joinL_mem_len {s : Nat} : ∀ {ws : List (List Nat)} {w : List Nat}, w ∈ ws → w.length ≤ (joinL [s] ws).length
  | [v], w, h => by rw [List.mem_singleton.mp h]; exact Nat.le_refl _
  | v :: u :: ws, w, h => by
    show w.length ≤ (v ++ ([s] ++ joinL [s] (u :: ws))).length
    rw [List.length_append, List.length_append]
    rcases List.mem_cons.mp h with rfl | h
    · omega
    · have := joinL_mem_len (s := s) h
      omega
theorem joinL_cnt {s : Nat} : ∀ {ws : List (List Nat)}, ws.length ≤ (joinL [s] ws).length + 1
  | [] => Nat.zero_le _
  | [v] => by simp
  | v :: u :: ws => by
    have := joinL_cnt (s := s) (ws := u :: ws)
    show (u :: ws).length + 1 ≤ (v ++ ([s] ++ joinL [s] (u :: ws))).length + 1
    rw [List.length_append, List.length_append, List.length_singleton]
    omega
theorem w_write_plan (P : List Pn) (R : List Row) (L : List Int) (h : OkPl P R L) (hl : (joinL [10] (plnL P R L)).length < 200000) (Q : OV → Env → Prop) (E : Int → Prop) (k : ∀ en, Q (.fro (sM (joinL [10] (plnL P R L)))) en) : F_write_plan [.ow (.fro (planM P R L))] Q E := by
  refine F_write_plan.mk ?_
  have lnn : (plnL P R L).length ≤ 200001 := by have := joinL_cnt (s := 10) (ws := plnL P R L); omega
  rw [plnL_len] at lnn
  have ml : ∀ w ∈ plnL P R L, w.length < 200000 := fun w hw => by have := joinL_mem_len (s := 10) hw; omega
  have mP : ∀ x ∈ P, (pplL x).length < 200000 := fun x hx => ml _ (List.mem_cons_of_mem _ (List.mem_append_left _ (List.mem_map.mpr ⟨x, hx, rfl⟩)))
  have mR : ∀ x ∈ R, (rowL x).length < 200000 := fun x hx => ml _ (List.mem_cons_of_mem _ (List.mem_append_right _ (List.mem_append_left _ (List.mem_map.mpr ⟨x, hx, rfl⟩))))
  have mL : (priL L).length < 200000 := ml _ (List.mem_cons_of_mem _ (List.mem_append_right _ (List.mem_append_right _ (List.mem_singleton.mpr rfl))))
  walk_at "go"
  have e0 : [MV.str ("plan" : Str)] = (PLAN :: (P.take 0).map pplL).map sM := by rw [litPlan]; rfl
  rw [e0]
  refine for_inv (fun i en => ∃ s2 s3 s4 : Slot, en = [.ow (.fro (planM P R L)), .ow (.lst ((PLAN :: (P.take i).map pplL).map sM)), s2, s3, s4, .un, .un, .un, .un] ∧ isRf s2 = false ∧ isRf s3 = false ∧ isRf s4 = false) ⟨.un, .un, .un, rfl, rfl, rfl, rfl⟩ ?_ ?_
  · rintro en ⟨s2, s3, s4, rfl, q2, q3, q4⟩
    rw [List.length_map, List.take_of_length_le (Nat.le_refl _)]
    walk_at "go"
    have e1 : (PLAN :: P.map pplL).map sM = ((PLAN :: P.map pplL) ++ (R.take 0).map rowL).map sM := by simp
    rw [e1]
    refine for_inv (fun i en => ∃ s5 : Slot, en = [.ow (.fro (planM P R L)), .ow (.lst (((PLAN :: P.map pplL) ++ (R.take i).map rowL).map sM)), s2, s3, s4, s5, .un, .un, .un] ∧ isRf s5 = false) ⟨.un, rfl, rfl⟩ ?_ ?_
    · rintro en ⟨s5, rfl, q5⟩
      rw [List.length_map, List.take_of_length_le (Nat.le_refl _)]
      walk_at "go"
      refine lc_ty MV.int (fun v => sM (numI v)) L (le_line ?_) (fun v hv Y y => ?_) ?_
      · have := joinL_cnt (s := 32) (ws := PRICES :: L.map numI)
        have e : (joinL [32] (PRICES :: L.map numI)).length = (priL L).length := rfl
        rw [List.length_cons, List.length_map] at this
        omega
      · have gv := bw_log (h.l.2 v hv).bw
        walk_at "go"
        rw [bw_txt]
        exact y
      have lL : (L.map fun v => sM (numI v)).length = L.length := by simp
      have c1 := joinL_cnt (s := 32) (ws := PRICES :: L.map numI)
      have e : (joinL [32] (PRICES :: L.map numI)).length = (priL L).length := rfl
      rw [List.length_cons, List.length_map] at c1
      walk_at "go"
      refine ⟨le_line (by rw [lL]; show 1 + L.length < _; omega), ?_⟩
      have e2 : [MV.str ("prices" : Str)] ++ (L.map fun v => sM (numI v)) = (PRICES :: L.map numI).map sM := by rw [litPri]; simp
      rw [e2]
      walk_at "go"
      rw [strsL_sM]
      refine ⟨join_ok (by simp) (by omega), ?_⟩
      rw [join_sp]
      have lx : (((PLAN :: P.map pplL) ++ R.map rowL).map sM).length = 1 + P.length + R.length := by simp; omega
      refine ⟨lt_line (by rw [lx]; omega), ?_⟩
      have e3 : ((PLAN :: P.map pplL) ++ R.map rowL).map sM ++ [MV.str (txt (joinL [32] (PRICES :: L.map numI)))] = (plnL P R L).map sM := by
        unfold plnL
        simp [priL]
      rw [e3]
      walk_at "go"
      rw [strsL_sM]
      refine ⟨join_okn (by unfold plnL; simp) (by omega), ?_⟩
      rw [join_nl]
      walk_at "go"
      exact k _
    · rintro i m en hi ⟨s5, rfl, q5⟩ N hN
      obtain ⟨hi1, rfl⟩ := getT [] hi
      obtain ⟨r, hr⟩ : ∃ r, r = R.getD i [] := ⟨_, rfl⟩
      have hrm : r ∈ R := by rw [hr, List.getD_eq_getElem?_getD, List.getElem?_eq_getElem hi1]; exact List.getElem_mem hi1
      have et : R.take (i + 1) = R.take i ++ [r] := by rw [List.take_succ, List.getElem?_eq_getElem hi1, hr, List.getD_eq_getElem?_getD, List.getElem?_eq_getElem hi1]; rfl
      rw [← hr]
      have mr := mR r hrm
      have okr := h.r r hrm
      walk_at "go"
      have c1 := joinL_cnt (s := 32) (ws := REACHES :: r.map rchL)
      have e : (joinL [32] (REACHES :: r.map rchL)).length = (rowL r).length := rfl
      rw [List.length_cons, List.length_map] at c1
      refine lc_ty rchM (fun x => sM (rchL x)) r (le_line (by omega)) (fun x hx Y y => ?_) ?_
      · walk_at "go"
        refine w_reach_word x (okr x hx) _ _ fun en => ?_
        walk_at "go"
        exact y
      have lL : (r.map fun x => sM (rchL x)).length = r.length := by simp
      walk_at "go"
      refine ⟨le_line (by rw [lL]; show 1 + r.length < _; omega), ?_⟩
      have e2 : [MV.str ("reaches" : Str)] ++ (r.map fun x => sM (rchL x)) = (REACHES :: r.map rchL).map sM := by rw [litRch]; simp
      rw [e2]
      walk_at "go"
      rw [strsL_sM]
      refine ⟨join_ok (by simp) (by omega), ?_⟩
      rw [join_sp]
      have lx : (((PLAN :: P.map pplL) ++ (R.take i).map rowL).map sM).length ≤ 1 + P.length + R.length := by simp; omega
      refine ⟨lt_line (by omega), ?_⟩
      have e3 : ((PLAN :: P.map pplL) ++ (R.take i).map rowL).map sM ++ [MV.str (txt (joinL [32] (REACHES :: r.map rchL)))] = ((PLAN :: P.map pplL) ++ (R.take (i + 1)).map rowL).map sM := by
        rw [et]
        simp [rowL]
      rw [e3]
      walk_at "go"
      exact hN _ ⟨_, rfl, rfl⟩
  · rintro i m en hi ⟨s2, s3, s4, rfl, q2, q3, q4⟩ N hN
    obtain ⟨hi1, rfl⟩ := getT ((0, 0, (0, 0, 0)) : Pn) hi
    obtain ⟨x, hx⟩ : ∃ x, x = P.getD i ((0, 0, (0, 0, 0)) : Pn) := ⟨_, rfl⟩
    have hxm : x ∈ P := by rw [hx, List.getD_eq_getElem?_getD, List.getElem?_eq_getElem hi1]; exact List.getElem_mem hi1
    have et : P.take (i + 1) = P.take i ++ [x] := by rw [List.take_succ, List.getElem?_eq_getElem hi1, hx, List.getD_eq_getElem?_getD, List.getElem?_eq_getElem hi1]; rfl
    rw [← hx]
    have mx := mP x hxm
    have okx := h.p x hxm
    clear hx
    obtain ⟨a, b, c, d, e⟩ := x
    have ga := bw_log okx.s.bw
    have gb := bw_log okx.w.bw
    have gc := bw_log okx.p
    have gd := bw_log okx.q
    have ge := bw_log okx.d.bw
    dsimp only at ga gb gc gd ge
    rw [show pnM (a, b, c, d, e) = .tup [.int a, .int b, .tup [.int c, .int d, .int e]] from rfl]
    have ej := join_ok (ws := [PIECE, numI a, numI b, numI c, numI d, numI e]) (by simp) (by show (pplL (a, b, c, d, e)).length < _; omega)
    walk_at "go"
    rw [bw_txt, bw_txt, bw_txt, bw_txt, bw_txt, litPc]
    refine ⟨ej, ?_⟩
    rw [show Txt.join (" " : Str) [txt PIECE, txt (numI a), txt (numI b), txt (numI c), txt (numI d), txt (numI e)] = txt (pplL (a, b, c, d, e)) from join_sp [PIECE, numI a, numI b, numI c, numI d, numI e]]
    have lx : ((PLAN :: (P.take i).map pplL).map sM).length ≤ 1 + P.length := by simp; omega
    refine ⟨lt_line (by omega), ?_⟩
    have e3 : (PLAN :: (P.take i).map pplL).map sM ++ [MV.str (txt (pplL (a, b, c, d, e)))] = (PLAN :: (P.take (i + 1)).map pplL).map sM := by
      rw [et]; simp
    rw [e3]
    walk_at "go"
    exact hN _ ⟨_, _, _, rfl, rfl, rfl, rfl⟩

end C
namespace C
open PySem PySem.Spec PyProof.Rows L2 TL
local macro_rules | `(tactic| walk_at "ev") => `(tactic| (conv => whnf))
local macro_rules | `(tactic| walk_at "side") => `(tactic| (first | assumption | exact trivial | exact line1000 rfl | (show (0 : Int) < _; first | omega | decide) | exact rfl | exact smallof (by omega) (by omega) | exact ⟨smallof (by omega) (by omega), smallof (by omega) (by omega)⟩ | exact Or.inl (by omega) | exact Or.inr (Or.inl (by omega)) | exact cdiv_of (by omega) (by omega) | omega | exact lt_line (by omega) | exact le_line (by omega) | exact ⟨by decide, by decide, by decide⟩ | decide | fail))
local macro_rules | `(tactic| walk_at "go") => `(tactic| ((repeat' ((conv => whnf); first | refine And.intro (by walk_at "side") ?_ | walk_at "call" | walk_at "test" | fail)); try (conv => whnf)))
local macro_rules | `(tactic| walk_at "call") => `(tactic| (first | refine setE_go (by assumption) ?_ | fail))
local macro_rules | `(tactic| walk_at "test") => `(tactic| (first | refine mdec_yes (by omega) ?_ | refine mdec_no (by omega) ?_ | refine mdec_no (fun h => h rfl) ?_ | refine mndec_yes (by omega) ?_ | refine mndec_no (by omega) ?_ | fail))
local macro_rules | `(tactic| walk_at "call") => `(tactic| (first | refine gl0 ?_ | refine gl1 ?_ | refine gl2 ?_ | refine gl3 ?_ | refine at_go (by omega) (by omega) ?_ | refine at_goN (by omega) (by omega) ?_ | fail))
local macro_rules | `(tactic| walk_at "call") => `(tactic| (first | refine ints_go ?_ | refine bools_go ?_ | fail))
local macro_rules | `(tactic| walk_at "call") => `(tactic| (first | refine eqD_go (pl_ints _) (pl_ints _) ?_ | fail))
local macro_rules | `(tactic| walk_at "call") => `(tactic| (first | refine w_cell _ _ (by omega) _ _ (fun _ => ?_) | fail))
local macro_rules | `(tactic| walk_at "call") => `(tactic| (first | refine w_cell _ _ (by omega) _ _ (fun _ => ?_) | fail))
local macro_rules | `(tactic| walk_at "call") => `(tactic| (first | refine at_go (by omega) (by omega) ?_ | refine at_goN (by omega) (by omega) ?_ | refine atPr (by omega) (by omega) ?_ | refine atPrN (by omega) (by omega) ?_ | fail))
local macro_rules | `(tactic| walk_at "call") => `(tactic| (first | refine alls_go ?_ | fail))
local macro_rules | `(tactic| walk_at "call") => `(tactic| (first | refine eqD_go (pl_prs _) (pl_prs _) ?_ | fail))
local macro_rules | `(tactic| walk_at "call") => `(tactic| (first | refine at_go (by omega) (by omega) ?_ | refine at_goN (by omega) (by omega) ?_ | refine atPr (by omega) (by omega) ?_ | refine atPrN (by omega) (by omega) ?_ | refine atRg (by omega) (by omega) ?_ | refine atRgN (by omega) (by omega) ?_ | fail))
/-! ### the law's lines of a plan -/
theorem w_plan_lines (P : List Pn) (R : List Row) (L : List Int) (h : OkPl P R L) (hl : (joinL [10] (plnL P R L)).length < 200000) (Q : OV → Env → Prop) (E : Int → Prop) (k : ∀ en, Q (.lst ((plnL P R L).map sM)) en) :
    F_law_plan_lines [.ow (.fro (.lst (P.map pnM))), .ow (.fro (.lst (R.map rowR))), .ow (.fro (.lst (L.map .int)))] Q E := by
  refine F_law_plan_lines.mk ?_
  obtain ⟨MP, hMP⟩ : ∃ m, m = MV.lst (P.map pnM) := ⟨_, rfl⟩
  obtain ⟨MR, hMR⟩ : ∃ m, m = MV.lst (R.map rowR) := ⟨_, rfl⟩
  obtain ⟨ML, hML⟩ : ∃ m, m = MV.lst (L.map .int) := ⟨_, rfl⟩
  have lnn : (plnL P R L).length ≤ 200001 := by have := joinL_cnt (s := 10) (ws := plnL P R L); omega
  rw [plnL_len] at lnn
  have ml : ∀ w ∈ plnL P R L, w.length < 200000 := fun w hw => by have := joinL_mem_len (s := 10) hw; omega
  have mP : ∀ x ∈ P, (pplL x).length < 200000 := fun x hx => ml _ (List.mem_cons_of_mem _ (List.mem_append_left _ (List.mem_map.mpr ⟨x, hx, rfl⟩)))
  have mR : ∀ x ∈ R, (rowL x).length < 200000 := fun x hx => ml _ (List.mem_cons_of_mem _ (List.mem_append_right _ (List.mem_append_left _ (List.mem_map.mpr ⟨x, hx, rfl⟩))))
  have mL : (priL L).length < 200000 := ml _ (List.mem_cons_of_mem _ (List.mem_append_right _ (List.mem_append_right _ (List.mem_singleton.mpr rfl))))
  walk_at "go"
  have e0 : [MV.str ("plan" : Str)] = (PLAN :: (P.take 0).map pplL).map sM := by rw [litPlan]; rfl
  rw [e0]
  refine for_inv (fun i en => ∃ s4 s5 s6 : Slot, en = [.ow (.fro (.lst (P.map pnM))), .ow (.fro (.lst (R.map rowR))), .ow (.fro (.lst (L.map .int))), .ow (.lst ((PLAN :: (P.take i).map pplL).map sM)), s4, s5, s6, .un, .un, .un, .un, .un, .un] ∧ isRf s4 = false ∧ isRf s5 = false ∧ isRf s6 = false) ⟨.un, .un, .un, rfl, rfl, rfl, rfl⟩ ?_ ?_
  · rintro en ⟨s4, s5, s6, rfl, q4, q5, q6⟩
    rw [List.length_map, List.take_of_length_le (Nat.le_refl _)]
    walk_at "go"
    have e1 : (PLAN :: P.map pplL).map sM = ((PLAN :: P.map pplL) ++ (R.take 0).map rowL).map sM := by simp
    rw [e1]
    refine for_inv (fun i en => ∃ s7 s8 s9 s10 : Slot, en = [.ow (.fro (.lst (P.map pnM))), .ow (.fro (.lst (R.map rowR))), .ow (.fro (.lst (L.map .int))), .ow (.lst (((PLAN :: P.map pplL) ++ (R.take i).map rowL).map sM)), s4, s5, s6, s7, s8, s9, s10, .un, .un] ∧ isRf s7 = false ∧ isRf s8 = false ∧ isRf s9 = false ∧ isRf s10 = false) ⟨.un, .un, .un, .un, rfl, rfl, rfl, rfl, rfl⟩ ?_ ?_
    · rintro en ⟨s7, s8, s9, s10, rfl, q7, q8, q9, q10⟩
      rw [List.length_map, List.take_of_length_le (Nat.le_refl _)]
      walk_at "go"
      refine lc_ty MV.int (fun v => sM (numI v)) L (le_line ?_) (fun v hv Y y => ?_) ?_
      · have := joinL_cnt (s := 32) (ws := PRICES :: L.map numI)
        have e : (joinL [32] (PRICES :: L.map numI)).length = (priL L).length := rfl
        rw [List.length_cons, List.length_map] at this
        omega
      · have gv := bw_log (h.l.2 v hv).bw
        walk_at "go"
        rw [bw_txt]
        exact y
      have lL : (L.map fun v => sM (numI v)).length = L.length := by simp
      have c1 := joinL_cnt (s := 32) (ws := PRICES :: L.map numI)
      have e : (joinL [32] (PRICES :: L.map numI)).length = (priL L).length := rfl
      rw [List.length_cons, List.length_map] at c1
      walk_at "go"
      refine ⟨le_line (by rw [lL]; show 1 + L.length < _; omega), ?_⟩
      have e2 : [MV.str ("prices" : Str)] ++ (L.map fun v => sM (numI v)) = (PRICES :: L.map numI).map sM := by rw [litPri]; simp
      rw [e2]
      walk_at "go"
      rw [strsL_sM]
      refine ⟨join_ok (by simp) (by omega), ?_⟩
      rw [join_sp]
      have lx : (((PLAN :: P.map pplL) ++ R.map rowL).map sM).length = 1 + P.length + R.length := by simp; omega
      refine ⟨lt_line (by rw [lx]; omega), ?_⟩
      have e3 : ((PLAN :: P.map pplL) ++ R.map rowL).map sM ++ [MV.str (txt (joinL [32] (PRICES :: L.map numI)))] = (plnL P R L).map sM := by
        unfold plnL
        simp [priL]
      rw [e3]
      walk_at "go"
      exact k _
    · rintro i m en hi ⟨s7, s8, s9, s10, rfl, q7, q8, q9, q10⟩ N hN
      obtain ⟨hi1, rfl⟩ := getT [] hi
      obtain ⟨r, hr⟩ : ∃ r, r = R.getD i [] := ⟨_, rfl⟩
      have hrm : r ∈ R := by rw [hr, List.getD_eq_getElem?_getD, List.getElem?_eq_getElem hi1]; exact List.getElem_mem hi1
      have et : R.take (i + 1) = R.take i ++ [r] := by rw [List.take_succ, List.getElem?_eq_getElem hi1, hr, List.getD_eq_getElem?_getD, List.getElem?_eq_getElem hi1]; rfl
      rw [← hr]
      have mr := mR r hrm
      have okr := h.r r hrm
      have c1 := joinL_cnt (s := 32) (ws := REACHES :: r.map rchL)
      have e : (joinL [32] (REACHES :: r.map rchL)).length = (rowL r).length := rfl
      rw [List.length_cons, List.length_map] at c1
      walk_at "go"
      have f0 : [MV.str ("reaches" : Str)] = (REACHES :: (r.take 0).map rchL).map sM := by rw [litRch]; rfl
      rw [f0]
      refine for_inv (fun j en => ∃ s9 s10 : Slot, en = [.ow (.fro (.lst (P.map pnM))), .ow (.fro (.lst (R.map rowR))), .ow (.fro (.lst (L.map .int))), .ow (.lst (((PLAN :: P.map pplL) ++ (R.take i).map rowL).map sM)), s4, s5, s6, .ow (.fro (rowR r)), .ow (.lst ((REACHES :: (r.take j).map rchL).map sM)), s9, s10, .un, .un] ∧ isRf s9 = false ∧ isRf s10 = false) ⟨s9, s10, rfl, q9, q10⟩ ?_ ?_
      · rintro en ⟨s9, s10, rfl, q9, q10⟩
        rw [List.length_map, List.take_of_length_le (Nat.le_refl _)]
        walk_at "go"
        rw [strsL_sM]
        refine ⟨join_ok (by simp) (by omega), ?_⟩
        rw [join_sp]
        have lx : (((PLAN :: P.map pplL) ++ (R.take i).map rowL).map sM).length ≤ 1 + P.length + R.length := by simp; omega
        refine ⟨lt_line (by omega), ?_⟩
        have e3 : ((PLAN :: P.map pplL) ++ (R.take i).map rowL).map sM ++ [MV.str (txt (joinL [32] (REACHES :: r.map rchL)))] = ((PLAN :: P.map pplL) ++ (R.take (i + 1)).map rowL).map sM := by
          rw [et]
          simp [rowL]
        rw [e3]
        walk_at "go"
        exact hN _ ⟨_, _, _, _, rfl, rfl, rfl, q9, q10⟩
      · rintro j m en hj ⟨s9, s10, rfl, q9, q10⟩ N2 hN2
        obtain ⟨hj1, rfl⟩ := getT ((0, none) : Rch) hj
        obtain ⟨x, hx⟩ : ∃ x, x = r.getD j ((0, none) : Rch) := ⟨_, rfl⟩
        have hxm : x ∈ r := by rw [hx, List.getD_eq_getElem?_getD, List.getElem?_eq_getElem hj1]; exact List.getElem_mem hj1
        have ft : r.take (j + 1) = r.take j ++ [x] := by rw [List.take_succ, List.getElem?_eq_getElem hj1, hx, List.getD_eq_getElem?_getD, List.getElem?_eq_getElem hj1]; rfl
        rw [← hx]
        have okx := okr x hxm
        have lr := rchL_len okx
        have lx : ((REACHES :: (r.take j).map rchL).map sM).length ≤ 1 + r.length := by simp; omega
        have e3 : (REACHES :: (r.take j).map rchL).map sM ++ [MV.str (txt (rchL x))] = (REACHES :: (r.take (j + 1)).map rchL).map sM := by
          rw [ft]; simp
        clear hx
        obtain ⟨e, z⟩ := x
        have ge := bw_log okx.e.bw
        dsimp only at ge
        cases z with
        | none =>
          rw [show rchM (e, none) = .tup [.int e, .non] from rfl]
          walk_at "go"
          rw [bw_txt]
          have e3' : (REACHES :: (r.take j).map rchL).map sM ++ [MV.str (txt (numI e))] = (REACHES :: (r.take (j + 1)).map rchL).map sM := e3
          rw [e3']
          walk_at "go"
          exact hN2 _ ⟨_, _, rfl, rfl, rfl⟩
        | some z =>
          obtain ⟨a, b, c⟩ := z
          obtain ⟨hi, hj, hm⟩ := okx.r a b c rfl
          have gi := bw_log hi.bw
          have gj := bw_log hj.bw
          have gm := bw_log hm.bw
          have ej := join_okc (ws := [numI e, numI a, numI b, numI c]) (by simp) (by show (rchL (e, some (a, b, c))).length < _; omega)
          rw [show rchM (e, some (a, b, c)) = .tup [.int e, .tup [.int a, .int b, .int c]] from rfl]
          walk_at "go"
          rw [bw_txt, bw_txt, bw_txt, bw_txt]
          refine ⟨ej, ?_⟩
          rw [show Txt.join ("," : Str) [txt (numI e), txt (numI a), txt (numI b), txt (numI c)] = txt (rchL (e, some (a, b, c))) from join_co [numI e, numI a, numI b, numI c]]
          refine ⟨lt_line (by omega), ?_⟩
          rw [e3]
          walk_at "go"
          exact hN2 _ ⟨_, _, rfl, rfl, rfl⟩
  · rintro i m en hi ⟨s4, s5, s6, rfl, q4, q5, q6⟩ N hN
    obtain ⟨hi1, rfl⟩ := getT ((0, 0, (0, 0, 0)) : Pn) hi
    obtain ⟨x, hx⟩ : ∃ x, x = P.getD i ((0, 0, (0, 0, 0)) : Pn) := ⟨_, rfl⟩
    have hxm : x ∈ P := by rw [hx, List.getD_eq_getElem?_getD, List.getElem?_eq_getElem hi1]; exact List.getElem_mem hi1
    have et : P.take (i + 1) = P.take i ++ [x] := by rw [List.take_succ, List.getElem?_eq_getElem hi1, hx, List.getD_eq_getElem?_getD, List.getElem?_eq_getElem hi1]; rfl
    rw [← hx]
    have mx := mP x hxm
    have okx := h.p x hxm
    clear hx
    obtain ⟨a, b, c, d, e⟩ := x
    have ga := bw_log okx.s.bw
    have gb := bw_log okx.w.bw
    have gc := bw_log okx.p
    have gd := bw_log okx.q
    have ge := bw_log okx.d.bw
    dsimp only at ga gb gc gd ge
    rw [show pnM (a, b, c, d, e) = .tup [.int a, .int b, .tup [.int c, .int d, .int e]] from rfl]
    have ej := join_ok (ws := [PIECE, numI a, numI b, numI c, numI d, numI e]) (by simp) (by show (pplL (a, b, c, d, e)).length < _; omega)
    walk_at "go"
    rw [bw_txt, bw_txt, bw_txt, bw_txt, bw_txt, litPc]
    refine ⟨ej, ?_⟩
    rw [show Txt.join (" " : Str) [txt PIECE, txt (numI a), txt (numI b), txt (numI c), txt (numI d), txt (numI e)] = txt (pplL (a, b, c, d, e)) from join_sp [PIECE, numI a, numI b, numI c, numI d, numI e]]
    have lx : ((PLAN :: (P.take i).map pplL).map sM).length ≤ 1 + P.length := by simp; omega
    refine ⟨lt_line (by omega), ?_⟩
    have e3 : (PLAN :: (P.take i).map pplL).map sM ++ [MV.str (txt (pplL (a, b, c, d, e)))] = (PLAN :: (P.take (i + 1)).map pplL).map sM := by
      rw [et]; simp
    rw [e3]
    walk_at "go"
    exact hN _ ⟨_, _, _, rfl, rfl, rfl, rfl⟩

end C
namespace C
open PySem PySem.Spec PyProof.Rows L2 TL
local macro_rules | `(tactic| walk_at "ev") => `(tactic| (conv => whnf))
local macro_rules | `(tactic| walk_at "side") => `(tactic| (first | assumption | exact trivial | exact line1000 rfl | (show (0 : Int) < _; first | omega | decide) | exact rfl | exact smallof (by omega) (by omega) | exact ⟨smallof (by omega) (by omega), smallof (by omega) (by omega)⟩ | exact Or.inl (by omega) | exact Or.inr (Or.inl (by omega)) | exact cdiv_of (by omega) (by omega) | omega | exact lt_line (by omega) | exact le_line (by omega) | exact ⟨by decide, by decide, by decide⟩ | decide | fail))
local macro_rules | `(tactic| walk_at "go") => `(tactic| ((repeat' ((conv => whnf); first | refine And.intro (by walk_at "side") ?_ | walk_at "call" | walk_at "test" | fail)); try (conv => whnf)))
local macro_rules | `(tactic| walk_at "call") => `(tactic| (first | refine setE_go (by assumption) ?_ | fail))
local macro_rules | `(tactic| walk_at "test") => `(tactic| (first | refine mdec_yes (by omega) ?_ | refine mdec_no (by omega) ?_ | refine mdec_no (fun h => h rfl) ?_ | refine mndec_yes (by omega) ?_ | refine mndec_no (by omega) ?_ | fail))
local macro_rules | `(tactic| walk_at "call") => `(tactic| (first | refine gl0 ?_ | refine gl1 ?_ | refine gl2 ?_ | refine gl3 ?_ | refine at_go (by omega) (by omega) ?_ | refine at_goN (by omega) (by omega) ?_ | fail))
local macro_rules | `(tactic| walk_at "call") => `(tactic| (first | refine ints_go ?_ | refine bools_go ?_ | fail))
local macro_rules | `(tactic| walk_at "call") => `(tactic| (first | refine eqD_go (pl_ints _) (pl_ints _) ?_ | fail))
local macro_rules | `(tactic| walk_at "call") => `(tactic| (first | refine w_cell _ _ (by omega) _ _ (fun _ => ?_) | fail))
local macro_rules | `(tactic| walk_at "call") => `(tactic| (first | refine w_cell _ _ (by omega) _ _ (fun _ => ?_) | fail))
local macro_rules | `(tactic| walk_at "call") => `(tactic| (first | refine at_go (by omega) (by omega) ?_ | refine at_goN (by omega) (by omega) ?_ | refine atPr (by omega) (by omega) ?_ | refine atPrN (by omega) (by omega) ?_ | fail))
local macro_rules | `(tactic| walk_at "call") => `(tactic| (first | refine alls_go ?_ | fail))
local macro_rules | `(tactic| walk_at "call") => `(tactic| (first | refine eqD_go (pl_prs _) (pl_prs _) ?_ | fail))
local macro_rules | `(tactic| walk_at "call") => `(tactic| (first | refine at_go (by omega) (by omega) ?_ | refine at_goN (by omega) (by omega) ?_ | refine atPr (by omega) (by omega) ?_ | refine atPrN (by omega) (by omega) ?_ | refine atRg (by omega) (by omega) ?_ | refine atRgN (by omega) (by omega) ?_ | fail))
def inL (xs : List Int) : MV := .lst (xs.map .int)
theorem w_digits (c many count : Int) (hm : 0 < many) (hm1 : many < 2 ^ 50) (h0 : 0 ≤ count) (h1 : count < 2200) (Q : OV → Env → Prop) (E : Int → Prop)
    (h : ∀ e (ds : List Int), ds.length = count.toNat → (∀ d ∈ ds, 0 ≤ d ∧ d < many) → Q (.lst (ds.map .int)) e) : F_law_digits [.ow (.fro (.int c)), .ow (.fro (.int many)), .ow (.fro (.int count))] Q E := by
  refine F_law_digits.mk ?_
  walk_at "go"
  refine for_inv (fun i e => ∃ ms ds rest s5 s6, e = [.ow (.fro (.int c)), .ow (.fro (.int many)), .ow (.fro (.int count)), .ow (.lst ms), .ow (.fro (.int rest)), s5, s6] ∧ ms = ds.map .int ∧ ds.length = i ∧ (∀ d ∈ ds, 0 ≤ d ∧ d < many) ∧ isRf s5 = false ∧ isRf s6 = false) ⟨[], [], _, _, _, rfl, rfl, rfl, by simp, rfl, rfl⟩ ?_ ?_
  · rintro e ⟨ms, ds, rest, s5, s6, rfl, rfl, hl, hd, h5, h6⟩
    rw [rgM_len] at hl
    walk_at "go"
    exact h _ ds hl hd
  · rintro i m e hi ⟨ms, ds, rest, s5, s6, rfl, rfl, hl, hd, h5, h6⟩ N hN
    obtain ⟨hi, rfl⟩ := rgM_at hi
    have hl2 : (ds.map MV.int).length < 2200 := by rw [List.length_map]; omega
    have fin : ∀ x : Int, ∀ r s5 s6, isRf s5 = false → isRf s6 = false → N [.ow (.fro (.int c)), .ow (.fro (.int many)), .ow (.fro (.int count)), .ow (.lst (ds.map .int ++ [.int (x % many)])), .ow (.fro (.int r)), s5, s6] := fun x r s5 s6 h5 h6 =>
      hN _ ⟨_, ds ++ [x % many], _, _, _, rfl, by simp, by simp [hl], fun d hd' => by
        rcases List.mem_append.mp hd' with z | z
        · exact hd d z
        · have : d = x % many := by simpa using z
          subst this
          exact ⟨Int.emod_nonneg _ (by omega), Int.emod_lt_of_pos _ hm⟩, h5, h6⟩
    walk_at "go"
    refine if_go ?_
    walk_at "go"
    refine mdec (fun hc => ?_) fun hc => ?_
    · walk_at "go"
      exact fin _ _ _ _ rfl h6
    · walk_at "go"
      exact fin _ _ _ _ rfl rfl

/-! ### drawn plans -/
theorem w_number (d : Int) (h0 : 0 ≤ d) (h1 : d < 1600) (Q : OV → Env → Prop) (E : Int → Prop)
    (k : ∀ v en, -(10 ^ 18) < v → v < 10 ^ 18 → Q (.fro (.int v)) en) : F_law_number [.ow (.fro (.int d))] Q E := by
  refine F_law_number.mk ?_
  have q0 : 0 ≤ d / 8 := by omega
  have q1 : d / 8 < 200 := by omega
  have mo : MulOk (d / 8) 1000000000000000 := .inl (by omega)
  walk_at "go"
  refine at_lit [0, 1, 7, 10, 0 - 1, 0 - 30, d / 8 * 1000000000000000 + 5, 0 - d / 8 * 1000000000000000 - 1] (by omega) (by show d % 8 < 8; omega) fun v hv => ?_
  have hb : -(10 ^ 18) < v ∧ v < 10 ^ 18 := by
    simp only [List.mem_cons, List.not_mem_nil, or_false] at hv
    omega
  walk_at "go"
  exact k v _ hb.1 hb.2
theorem all_snoc {α : Type} {P : α → Prop} {xs : List α} {x : α} (h : ∀ p ∈ xs, P p) (hx : P x) : ∀ p ∈ xs ++ [x], P p := fun p hp => by
  rcases List.mem_append.mp hp with z | z
  · exact h p z
  · rw [List.mem_singleton.mp z]; exact hx
/-- a comprehension whose numbers are not told exactly -/
theorem lc_ints {α : Type} {g : GX} {fe : EX} {env0 : Env} (r : α → MV) (B : Int → Prop) {Q : List MV → Prop} : ∀ (xs : List α) (acc : List Int), acc.length + xs.length ≤ sizeLine → (∀ v ∈ acc, B v) →
    (∀ x ∈ xs, ∀ (Y : MV → Prop), (∀ v, B v → Y (.int v)) → g (r x) env0 fun e => fe e Y) → (∀ vs : List Int, (∀ v ∈ vs, B v) → vs.length = acc.length + xs.length → Q (vs.map .int)) → lcN g tYesX fe env0 (xs.map r) (acc.map .int) Q
  | [], acc, _, ha, _, q => by
    unfold lcN
    exact q acc ha (by simp)
  | x :: xs, acc, hl, ha, h, q => by
    simp only [List.map_cons]
    unfold lcN
    simp only [List.length_cons] at hl
    refine h x List.mem_cons_self _ fun v hv => ⟨by rw [List.length_map]; omega, ?_⟩
    have e : acc.map MV.int ++ [MV.int v] = (acc ++ [v]).map .int := by simp
    rw [e]
    refine lc_ints r B xs (acc ++ [v]) (by rw [List.length_append, List.length_singleton]; omega) (all_snoc ha hv) (fun y hy => h y (List.mem_cons_of_mem _ hy)) fun vs h1 h2 => q vs h1 ?_
    rw [h2, List.length_append, List.length_singleton, List.length_cons]
    omega
def bs (v : Int) : Prop := 0 ≤ v ∧ v < 10 ^ 18
theorem bs.bn {v : Int} (h : bs v) : bn v := ⟨h.1, by have := h.2; omega⟩
/-- small numbers -/
structure SmP (x : Pn) : Prop where
  s : bs x.1
  w : bs x.2.1
  p : -(10 ^ 18) < x.2.2.1 ∧ x.2.2.1 < 10 ^ 18
  q : -(10 ^ 18) < x.2.2.2.1 ∧ x.2.2.2.1 < 10 ^ 18
  d : bs x.2.2.2.2
theorem SmP.ok {x : Pn} (h : SmP x) : OkP x := ⟨h.s.bn, h.w.bn, ⟨by have := h.p; omega, by have := h.p; omega⟩, ⟨by have := h.q; omega, by have := h.q; omega⟩, h.d.bn⟩
theorem rgM_map (n : Nat) : rgM 0 n = (List.range n).map fun i : Nat => MV.int i := by
  unfold rgM
  refine List.map_congr_left fun i _ => ?_
  rw [Int.zero_add]
theorem w_plan (c : Int) (Q : OV → Env → Prop) (E : Int → Prop)
    (k : ∀ (P : List Pn) (R : List Row) (L : List Int) en, OkPl P R L → P.length ≤ 4 → R.length ≤ 3 → (∀ r ∈ R, r.length ≤ 4) → L.length ≤ 5 → Q (.fro (.tup [.lst (P.map pnM), .lst (R.map rowR), .lst (L.map .int)])) en) : F_law_plan [.ow (.fro (.int c))] Q E := by
  refine F_law_plan.mk ?_
  walk_at "go"
  refine w_digits c 1600 60 (by omega) (by omega) (by omega) (by omega) _ _ fun _ ds hl hd => ?_
  have hl : ds.length = 60 := hl
  have cd : ∀ i : Int, 0 ≤ i → i < 60 → 0 ≤ cell ds i ∧ cell ds i < 1600 := fun i h0 h1 => hd _ (cell_mem h0 (by omega))
  have c0 := Int.emod_nonneg (cell ds 0) (show (5 : Int) ≠ 0 by omega)
  have c1 := Int.emod_lt_of_pos (cell ds 0) (show 0 < (5 : Int) by omega)
  have d0 := Int.emod_nonneg (cell ds 1) (show (3 : Int) ≠ 0 by omega)
  have d1 := Int.emod_lt_of_pos (cell ds 1) (show 0 < (3 : Int) by omega)
  have e0 := Int.emod_nonneg (cell ds 2) (show (5 : Int) ≠ 0 by omega)
  have e1 := Int.emod_lt_of_pos (cell ds 2) (show 0 < (5 : Int) by omega)
  have f0 := Int.emod_nonneg (cell ds 3) (show (5 : Int) ≠ 0 by omega)
  have f1 := Int.emod_lt_of_pos (cell ds 3) (show 0 < (5 : Int) by omega)
  walk_at "go"
  dsimp only
  obtain ⟨D, hD⟩ : ∃ D : Nat, cell ds 0 % 5 = D := ⟨_, (Int.toNat_of_nonneg c0).symm⟩
  rw [hD, Int.toNat_natCast]
  refine for_inv (fun i en => ∃ (P : List Pn) (s3 s4 s5 : Slot), en = [.ow (.fro (.int c)), .ow (.fro (.lst (ds.map .int))), .ow (.lst (P.map pnM)), s3, s4, s5, .un, .un, .un, .un, .un] ∧ isRf s3 = false ∧ isRf s4 = false ∧ isRf s5 = false ∧ P.length = i ∧ ∀ p ∈ P, SmP p) ⟨[], .un, .un, .un, rfl, rfl, rfl, rfl, rfl, fun p h => by cases h⟩ ?_ ?_
  · rintro en ⟨P, s3, s4, s5, rfl, q3, q4, q5, h1, h2⟩
    rw [rgM_len] at h1
    walk_at "go"
    dsimp only
    obtain ⟨D1, hD1⟩ : ∃ D : Nat, 1 + cell ds 1 % 3 = D := ⟨_, (Int.toNat_of_nonneg (by omega)).symm⟩
    rw [hD1, Int.toNat_natCast]
    refine for_inv (fun i en => ∃ (R : List Row) (s3 s4 s7 s8 : Slot), en = [.ow (.fro (.int c)), .ow (.fro (.lst (ds.map .int))), .ow (.lst (P.map pnM)), s3, s4, s5, .ow (.lst (R.map rowR)), s7, s8, .un, .un] ∧ isRf s3 = false ∧ isRf s4 = false ∧ isRf s7 = false ∧ isRf s8 = false ∧ R.length = i ∧ ∀ r ∈ R, OkR r ∧ r.length ≤ 4) ⟨[], s3, s4, .un, .un, rfl, q3, q4, rfl, rfl, rfl, fun p h => by cases h⟩ ?_ ?_
    · rintro en ⟨R, s3, s4, s7, s8, rfl, q3, q4, q7, q8, g1, g2⟩
      rw [rgM_len] at g1
      walk_at "go"
      dsimp only
      obtain ⟨D3, hD3⟩ : ∃ D : Nat, 1 + cell ds 3 % 5 = D := ⟨_, (Int.toNat_of_nonneg (by omega)).symm⟩
      rw [hD3, Int.toNat_natCast, rgM_map]
      refine lc_ints (fun i : Nat => MV.int i) bs (List.range D3) [] (le_line (by simp; omega)) (fun v hv => by cases hv) (fun i hi Y y => ?_) fun vs b1 b2 => ?_
      · have hi := List.mem_range.mp hi
        have cc := cd (54 + i) (by omega) (by omega)
        walk_at "go"
        refine w_number _ cc.1 cc.2 _ _ fun v _ a0 b0 => ?_
        walk_at "go"
        exact y _ ⟨by omega, by omega⟩
      · have b2 : vs.length = D3 := by simpa using b2
        walk_at "go"
        refine k P R vs _ ⟨fun x hx => (h2 x hx).ok, fun r hr => (g2 r hr).1, fun z => ?_, fun z => ?_, fun v hv => (b1 v hv).bn⟩ (by omega) (by omega) (fun r hr => (g2 r hr).2) (by omega)
        · rw [z] at g1; have : 0 = D1 := g1; omega
        · rw [z] at b2; have : 0 = D3 := b2; omega
    · rintro i m en hi ⟨R, s3, s4, s7, s8, rfl, q3, q4, q7, q8, g1, g2⟩ N hN
      obtain ⟨hi1, rfl⟩ := rgM_at0 hi
      clear hi
      have lR : (R.map rowR).length = R.length := by simp
      walk_at "go"
      dsimp only
      obtain ⟨D2, hD2⟩ : ∃ D : Nat, cell ds 2 % 5 = D := ⟨_, (Int.toNat_of_nonneg e0).symm⟩
      rw [hD2, Int.toNat_natCast]
      refine for_inv (fun j en => ∃ (r : Row) (s3 s8 : Slot), en = [.ow (.fro (.int c)), .ow (.fro (.lst (ds.map .int))), .ow (.lst (P.map pnM)), s3, .ow (.lst (r.map rchM)), s5, .ow (.lst (R.map rowR)), .ow (.fro (.int i)), s8, .un, .un] ∧ isRf s3 = false ∧ isRf s8 = false ∧ r.length = j ∧ OkR r) ⟨[], s3, s8, rfl, q3, q8, rfl, fun p h => by cases h⟩ ?_ ?_
      · rintro en ⟨r, s3, s8, rfl, q3, q8, r1, r2⟩
        rw [rgM_len] at r1
        walk_at "go"
        refine hN _ ⟨R ++ [r], s3, .ow (.fro (rowR r)), .ow (.fro (.int i)), s8, ?_, q3, rfl, rfl, q8, by rw [List.length_append, List.length_singleton]; omega, all_snoc g2 ⟨r2, by omega⟩⟩
        rw [List.map_append]; rfl
      · rintro j m en hj ⟨r, s3, s8, rfl, q3, q8, r1, r2⟩ N2 hN2
        obtain ⟨hj1, rfl⟩ := rgM_at0 hj
        clear hj
        have lr : (r.map rchM).length = r.length := by simp
        walk_at "go"
        rw [show Int.toNat 4 = 4 from rfl, rgM_map]
        refine lc_ints (fun i : Nat => MV.int i) bs (List.range 4) [] (line1000 rfl) (fun v hv => by cases hv) (fun t ht Y y => ?_) fun vs b1 b2 => ?_
        · have ht := List.mem_range.mp ht
          have m0 := Int.emod_nonneg (4 * (j : Int) + 5 * (i : Int) + (t : Int)) (show (30 : Int) ≠ 0 by omega)
          have m1 := Int.emod_lt_of_pos (4 * (j : Int) + 5 * (i : Int) + (t : Int)) (show 0 < (30 : Int) by omega)
          have cc := cd (24 + (4 * (j : Int) + 5 * (i : Int) + (t : Int)) % 30) (by omega) (by omega)
          walk_at "go"
          refine w_number _ cc.1 cc.2 _ _ fun v _ a0 b0 => ?_
          walk_at "go"
          exact y _ ⟨by omega, by omega⟩
        have b2 : vs.length = 4 := by simpa using b2
        have v0 := b1 _ (cell_mem (xs := vs) (i := 0) (by omega) (by omega))
        have v1 := b1 _ (cell_mem (xs := vs) (i := 1) (by omega) (by omega))
        have v2 := b1 _ (cell_mem (xs := vs) (i := 2) (by omega) (by omega))
        have v3 := b1 _ (cell_mem (xs := vs) (i := 3) (by omega) (by omega))
        have fin : ∀ x : Rch, OkE x → N2 [.ow (.fro (.int c)), .ow (.fro (.lst (ds.map .int))), .ow (.lst (P.map pnM)), .ow (.fro (.int j)), .ow (.lst (r.map rchM ++ [rchM x])), s5, .ow (.lst (R.map rowR)), .ow (.fro (.int i)), .ow (.fro (.lst (vs.map .int))), .un, .un] := fun x hx => by
          refine hN2 _ ⟨r ++ [x], .ow (.fro (.int j)), .ow (.fro (.lst (vs.map .int))), ?_, rfl, rfl, by rw [List.length_append, List.length_singleton]; omega, all_snoc r2 hx⟩
          rw [List.map_append]; rfl
        walk_at "go"
        refine mdec (fun g => ?_) fun g => ?_
        · walk_at "go"
          exact fin (cell vs 0, none) ⟨v0.bn, fun i j m z => by cases z⟩
        · walk_at "go"
          exact fin (cell vs 0, some (cell vs 1, cell vs 2, cell vs 3)) ⟨v0.bn, fun i j m z => by cases z; exact ⟨v1.bn, v2.bn, v3.bn⟩⟩
  · rintro i m en hi ⟨P, s3, s4, s5, rfl, q3, q4, q5, h1, h2⟩ N hN
    obtain ⟨hi1, rfl⟩ := rgM_at0 hi
    clear hi
    have lP : (P.map pnM).length = P.length := by simp
    walk_at "go"
    rw [cut_sl _ (by omega) (by omega), sl_map]
    have hrl : (sl ds (4 + 5 * (i : Int)).toNat (9 + 5 * (i : Int)).toNat).length = 5 := by
      unfold sl
      rw [List.length_take, List.length_drop]; omega
    have hrd : ∀ d ∈ sl ds (4 + 5 * (i : Int)).toNat (9 + 5 * (i : Int)).toNat, 0 ≤ d ∧ d < 1600 := fun d h => by
      unfold sl at h
      exact hd d (List.mem_of_mem_drop (List.mem_of_mem_take h))
    obtain ⟨row, hrow⟩ : ∃ row, row = sl ds (4 + 5 * (i : Int)).toNat (9 + 5 * (i : Int)).toNat := ⟨_, rfl⟩
    rw [← hrow] at hrl hrd ⊢
    clear hrow
    have cr : ∀ i : Int, 0 ≤ i → i < 5 → 0 ≤ cell row i ∧ cell row i < 1600 := fun i h0 h1 => hrd _ (cell_mem h0 (by omega))
    have r0 := cr 0 (by omega) (by omega)
    have r1 := cr 1 (by omega) (by omega)
    have r2 := cr 2 (by omega) (by omega)
    have r3 := cr 3 (by omega) (by omega)
    have r4 := cr 4 (by omega) (by omega)
    walk_at "go"
    refine w_number _ r2.1 r2.2 _ _ fun v2 _ a2 b2 => ?_
    walk_at "go"
    refine w_number _ r3.1 r3.2 _ _ fun v3 _ a3 b3 => ?_
    walk_at "go"
    refine w_number _ r4.1 r4.2 _ _ fun v4 _ a4 b4 => ?_
    walk_at "go"
    refine w_number _ r0.1 r0.2 _ _ fun v0 _ a0 b0 => ?_
    walk_at "go"
    refine w_number _ r1.1 r1.2 _ _ fun v1 _ a1 b1 => ?_
    walk_at "go"
    have okP : ∀ p ∈ P ++ [(((v0.natAbs : Int), (v1.natAbs : Int), v2, v3, (v4.natAbs : Int)) : Pn)], SmP p := all_snoc h2 ⟨⟨by dsimp only; omega, by dsimp only; omega⟩, ⟨by dsimp only; omega, by dsimp only; omega⟩, ⟨by dsimp only; omega, by dsimp only; omega⟩, ⟨by dsimp only; omega, by dsimp only; omega⟩, by dsimp only; omega, by dsimp only; omega⟩
    refine hN _ ⟨P ++ [((v0.natAbs : Int), (v1.natAbs : Int), v2, v3, (v4.natAbs : Int))], .ow (.fro (.int i)), .ow (.lst (row.map .int)), .ow (.fro (.tup [.int v2, .int v3, .int (v4.natAbs : Int)])), ?_, rfl, rfl, rfl, by rw [List.length_append, List.length_singleton]; omega, okP⟩
    rw [List.map_append]; rfl

end C
namespace C
open PySem PySem.Spec PyProof.Rows L2 TL
local macro_rules | `(tactic| walk_at "ev") => `(tactic| (conv => whnf))
local macro_rules | `(tactic| walk_at "side") => `(tactic| (first | assumption | exact trivial | exact line1000 rfl | (show (0 : Int) < _; first | omega | decide) | exact rfl | exact smallof (by omega) (by omega) | exact ⟨smallof (by omega) (by omega), smallof (by omega) (by omega)⟩ | exact Or.inl (by omega) | exact Or.inr (Or.inl (by omega)) | exact cdiv_of (by omega) (by omega) | omega | exact lt_line (by omega) | exact le_line (by omega) | exact ⟨by decide, by decide, by decide⟩ | decide | fail))
local macro_rules | `(tactic| walk_at "go") => `(tactic| ((repeat' ((conv => whnf); first | refine And.intro (by walk_at "side") ?_ | walk_at "call" | walk_at "test" | fail)); try (conv => whnf)))
local macro_rules | `(tactic| walk_at "call") => `(tactic| (first | refine setE_go (by assumption) ?_ | fail))
local macro_rules | `(tactic| walk_at "test") => `(tactic| (first | refine mdec_yes (by omega) ?_ | refine mdec_no (by omega) ?_ | refine mdec_no (fun h => h rfl) ?_ | refine mndec_yes (by omega) ?_ | refine mndec_no (by omega) ?_ | fail))
local macro_rules | `(tactic| walk_at "call") => `(tactic| (first | refine gl0 ?_ | refine gl1 ?_ | refine gl2 ?_ | refine gl3 ?_ | refine at_go (by omega) (by omega) ?_ | refine at_goN (by omega) (by omega) ?_ | fail))
local macro_rules | `(tactic| walk_at "call") => `(tactic| (first | refine ints_go ?_ | refine bools_go ?_ | fail))
local macro_rules | `(tactic| walk_at "call") => `(tactic| (first | refine eqD_go (pl_ints _) (pl_ints _) ?_ | fail))
local macro_rules | `(tactic| walk_at "call") => `(tactic| (first | refine w_cell _ _ (by omega) _ _ (fun _ => ?_) | fail))
local macro_rules | `(tactic| walk_at "call") => `(tactic| (first | refine w_cell _ _ (by omega) _ _ (fun _ => ?_) | fail))
local macro_rules | `(tactic| walk_at "call") => `(tactic| (first | refine at_go (by omega) (by omega) ?_ | refine at_goN (by omega) (by omega) ?_ | refine atPr (by omega) (by omega) ?_ | refine atPrN (by omega) (by omega) ?_ | fail))
local macro_rules | `(tactic| walk_at "call") => `(tactic| (first | refine alls_go ?_ | fail))
local macro_rules | `(tactic| walk_at "call") => `(tactic| (first | refine eqD_go (pl_prs _) (pl_prs _) ?_ | fail))
local macro_rules | `(tactic| walk_at "call") => `(tactic| (first | refine at_go (by omega) (by omega) ?_ | refine at_goN (by omega) (by omega) ?_ | refine atPr (by omega) (by omega) ?_ | refine atPrN (by omega) (by omega) ?_ | refine atRg (by omega) (by omega) ?_ | refine atRgN (by omega) (by omega) ?_ | fail))
/-! ### lists of lines that stay small -/
def totL (ls : List (List Nat)) : Nat := (ls.map fun l => l.length + 1).sum
structure LOk (N : Nat) (ls : List (List Nat)) : Prop where
  fr : ∀ w ∈ ls, 10 ∉ w
  tl : totL ls ≤ N
theorem totL_cons (l : List Nat) (ls : List (List Nat)) : totL (l :: ls) = l.length + 1 + totL ls := rfl
theorem totL_app : ∀ a b : List (List Nat), totL (a ++ b) = totL a + totL b
  | [], b => by show totL b = 0 + totL b; omega
  | l :: a, b => by rw [List.cons_append, totL_cons, totL_cons, totL_app a b]; omega
theorem totL_len : ∀ ls : List (List Nat), ls.length ≤ totL ls
  | [] => Nat.zero_le _
  | l :: ls => by have := totL_len ls; rw [totL_cons, List.length_cons]; omega
theorem totL_mem : ∀ {ls : List (List Nat)} {l : List Nat}, l ∈ ls → l.length ≤ totL ls
  | l :: ls, w, h => by
    rw [totL_cons]
    rcases List.mem_cons.mp h with rfl | h
    · omega
    · have := totL_mem h; omega
theorem totL_join (s : Nat) : ∀ ls : List (List Nat), (joinL [s] ls).length ≤ totL ls
  | [] => Nat.zero_le _
  | [l] => by show l.length ≤ l.length + 1 + 0; omega
  | l :: m :: ls => by
    have ih := totL_join s (m :: ls)
    show (l ++ ([s] ++ joinL [s] (m :: ls))).length ≤ _
    rw [totL_cons, List.length_append, List.length_append, List.length_singleton]
    omega
theorem join_totL (s : Nat) : ∀ ls : List (List Nat), ls ≠ [] → totL ls = (joinL [s] ls).length + 1
  | [], h => absurd rfl h
  | [l], _ => rfl
  | l :: m :: ls, _ => by
    have ih := join_totL s (m :: ls) (by simp)
    show _ = (l ++ ([s] ++ joinL [s] (m :: ls))).length + 1
    rw [totL_cons, List.length_append, List.length_append, List.length_singleton, ih]
    omega
theorem LOk.mono {N M : Nat} {ls : List (List Nat)} (h : LOk N ls) (l : N ≤ M) : LOk M ls := ⟨h.fr, Nat.le_trans h.tl l⟩
theorem LOk.app {N M : Nat} {a b : List (List Nat)} (h : LOk N a) (h2 : LOk M b) : LOk (N + M) (a ++ b) := ⟨fun w hw => (List.mem_append.mp hw).elim (h.fr w) (h2.fr w), by rw [totL_app]; exact Nat.add_le_add h.tl h2.tl⟩
theorem totL_take (ls : List (List Nat)) (a : Nat) : totL (ls.take a) + totL (ls.drop a) = totL ls := by rw [← totL_app, List.take_append_drop]
theorem LOk.take {N : Nat} {ls : List (List Nat)} (h : LOk N ls) (a : Nat) : LOk N (ls.take a) := ⟨fun w hw => h.fr w (List.mem_of_mem_take hw), by have := totL_take ls a; have := h.tl; omega⟩
theorem LOk.drop {N : Nat} {ls : List (List Nat)} (h : LOk N ls) (a : Nat) : LOk N (ls.drop a) := ⟨fun w hw => h.fr w (List.mem_of_mem_drop hw), by have := totL_take ls a; have := h.tl; omega⟩
theorem LOk.cut {N : Nat} {ls : List (List Nat)} (h : LOk N ls) {a b : Nat} (l : a ≤ b) : LOk N (ls.take a ++ ls.drop b) := by
  refine ⟨fun w hw => (List.mem_append.mp hw).elim (fun z => h.fr w (List.mem_of_mem_take z)) fun z => h.fr w (List.mem_of_mem_drop z), ?_⟩
  have e : ls.drop b = (ls.drop a).drop (b - a) := by rw [List.drop_drop, show a + (b - a) = b by omega]
  have h1 := totL_take ls a
  have h2 := totL_take (ls.drop a) (b - a)
  have := h.tl
  rw [totL_app, e]
  omega
theorem LOk.cutM {N M : Nat} {ls m : List (List Nat)} (h : LOk N ls) (hm : LOk M m) {a b : Nat} (l : a ≤ b) : LOk (N + M) (ls.take a ++ m ++ ls.drop b) := by
  have := h.cut l
  refine ⟨fun w hw => ?_, ?_⟩
  · rcases List.mem_append.mp hw with z | z
    · rcases List.mem_append.mp z with z | z
      · exact h.fr w (List.mem_of_mem_take z)
      · exact hm.fr w z
    · exact h.fr w (List.mem_of_mem_drop z)
  · have h1 := this.tl
    have h2 := hm.tl
    rw [totL_app] at h1
    rw [totL_app, totL_app]
    omega
theorem LOk.one {w : List Nat} (h : 10 ∉ w) : LOk (w.length + 1) [w] := ⟨fun x hx => by rw [List.mem_singleton.mp hx]; exact h, Nat.le_refl _⟩
theorem LOk.sp (l : List Nat) : LOk (l.length + 1) (sp 10 l) := ⟨fun w hw => sp_free l w hw, by rw [join_totL 10 _ (sp_ne 10 l), sp_join]; exact Nat.le_refl _⟩
theorem LOk.len {N : Nat} {ls : List (List Nat)} (h : LOk N ls) : ls.length ≤ N := Nat.le_trans (totL_len ls) h.tl
theorem LOk.mem {N : Nat} {ls : List (List Nat)} (h : LOk N ls) {l : List Nat} (hl : l ∈ ls) : l.length ≤ N := Nat.le_trans (totL_mem hl) h.tl
theorem LOk.join {N : Nat} {ls : List (List Nat)} (h : LOk N ls) : (joinL [10] ls).length ≤ N := Nat.le_trans (totL_join 10 ls) h.tl
theorem join_sum : ∀ ls : List (List Nat), ((ls.map txt).map (·.length)).sum + (ls.map txt).length * ("\n" : Str).length = totL ls := by
  intro ls
  rw [lit_nl, show (txt [10]).length = 1 from rfl, List.length_map, Nat.mul_one]
  induction ls with
  | nil => rfl
  | cons l ls ih =>
    rw [totL_cons, ← ih]
    show (txt l).length + ((ls.map txt).map (·.length)).sum + (ls.length + 1) = _
    rw [txt_len]
    omega
theorem cut2 {α : Type} (f : α → MV) (xs : List α) {a : Int} (h0 : 0 ≤ a) : cutM (xs.map f) none (some a) = (xs.take a.toNat).map f := by rw [cut_to _ h0, List.map_take]
theorem cut1 {α : Type} (f : α → MV) (xs : List α) {a : Int} (h0 : 0 ≤ a) : cutM (xs.map f) (some a) none = (xs.drop a.toNat).map f := by rw [cut_from _ h0, List.map_drop]
theorem cut3 {α : Type} (f : α → MV) (xs : List α) {a b : Int} (h0 : 0 ≤ a) (h1 : 0 ≤ b) : cutM (xs.map f) (some a) (some b) = (sl xs a.toNat b.toNat).map f := by rw [cut_sl _ h0 h1]; unfold sl; rw [List.map_take, List.map_drop]

/-! ### the lines of small plans are small -/
theorem totL_map {α : Type} {f : α → List Nat} {B : Nat} : ∀ {xs : List α}, (∀ x ∈ xs, (f x).length ≤ B) → totL (xs.map f) ≤ xs.length * (B + 1)
  | [], _ => by simp [totL]
  | x :: xs, h => by
    have := totL_map fun y hy => h y (List.mem_cons_of_mem _ hy)
    have h1 := h x List.mem_cons_self
    rw [List.map_cons, totL_cons, List.length_cons, Nat.succ_mul]
    omega
theorem joinL_bound {s B : Nat} {ws : List (List Nat)} (h : ∀ w ∈ ws, w.length ≤ B) : (joinL [s] ws).length ≤ ws.length * (B + 1) := by
  have a := totL_join s ws
  have b := totL_map (f := fun w => w) h
  rw [List.map_id'] at b
  omega
theorem pplL_ok {x : Pn} (h : OkP x) : 10 ∉ pplL x ∧ (pplL x).length ≤ 372 := by
  have ha := bw_len h.s.bw
  have hb := bw_len h.w.bw
  have hc := bw_len h.p
  have hd := bw_len h.q
  have he := bw_len h.d.bw
  constructor
  · intro z
    rcases joinL_mem z with q | ⟨w, hw, q⟩
    · omega
    · simp only [List.mem_cons, List.not_mem_nil, or_false] at hw
      rcases hw with rfl | rfl | rfl | rfl | rfl | rfl
      · revert q; decide
      all_goals exact num_free (s := 10) (by omega) q
  · exact joinL_bound (s := 32) (B := 61) (ws := [PIECE, numI x.1, numI x.2.1, numI x.2.2.1, numI x.2.2.2.1, numI x.2.2.2.2]) fun w hw => by
      simp only [List.mem_cons, List.not_mem_nil, or_false] at hw
      rcases hw with rfl | rfl | rfl | rfl | rfl | rfl <;> first | assumption | decide
theorem rowL_ok {r : Row} (h : OkR r) : 10 ∉ rowL r ∧ (rowL r).length ≤ (r.length + 1) * 261 := by
  constructor
  · intro z
    rcases joinL_mem z with q | ⟨w, hw, q⟩
    · omega
    · rcases List.mem_cons.mp hw with rfl | hw
      · revert q; decide
      · obtain ⟨x, _, rfl⟩ := List.mem_map.mp hw
        exact rchL_free x (by omega) q
  · have := joinL_bound (s := 32) (B := 260) (ws := REACHES :: r.map rchL) fun w hw => by
      rcases List.mem_cons.mp hw with rfl | hw
      · decide
      · obtain ⟨x, hx, rfl⟩ := List.mem_map.mp hw
        exact rchL_len (h x hx)
    rw [List.length_cons, List.length_map] at this
    exact this
theorem priL_ok {L : List Int} (h : ∀ v ∈ L, bn v) : 10 ∉ priL L ∧ (priL L).length ≤ (L.length + 1) * 62 := by
  constructor
  · intro z
    rcases joinL_mem z with q | ⟨w, hw, q⟩
    · omega
    · rcases List.mem_cons.mp hw with rfl | hw
      · revert q; decide
      · obtain ⟨x, _, rfl⟩ := List.mem_map.mp hw
        exact num_free (s := 10) (by omega) q
  · have := joinL_bound (s := 32) (B := 61) (ws := PRICES :: L.map numI) fun w hw => by
      rcases List.mem_cons.mp hw with rfl | hw
      · decide
      · obtain ⟨x, hx, rfl⟩ := List.mem_map.mp hw
        exact bw_len (h x hx).bw
    rw [List.length_cons, List.length_map] at this
    exact this
theorem plnL_ok {P : List Pn} {R : List Row} {L : List Int} (h : OkPl P R L) {a b c d : Nat} (h1 : P.length ≤ a) (h2 : R.length ≤ b) (h3 : ∀ r ∈ R, r.length ≤ c) (h4 : L.length ≤ d) : LOk (5 + a * 373 + b * ((c + 1) * 261 + 1) + ((d + 1) * 62 + 1)) (plnL P R L) := by
  refine ⟨fun w hw => ?_, ?_⟩
  · rcases List.mem_cons.mp hw with rfl | hw
    · decide
    · rcases List.mem_append.mp hw with hw | hw
      · obtain ⟨x, hx, rfl⟩ := List.mem_map.mp hw
        exact (pplL_ok (h.p x hx)).1
      · rcases List.mem_append.mp hw with hw | hw
        · obtain ⟨x, hx, rfl⟩ := List.mem_map.mp hw
          exact (rowL_ok (h.r x hx)).1
        · rw [List.mem_singleton.mp hw]
          exact (priL_ok h.l.2).1
  · have e1 := totL_map (f := pplL) (B := 372) (xs := P) fun x hx => (pplL_ok (h.p x hx)).2
    have e2 := totL_map (f := rowL) (B := (c + 1) * 261) (xs := R) fun x hx => by
      have := (rowL_ok (h.r x hx)).2
      have l := Nat.mul_le_mul_right 261 (Nat.add_le_add_right (h3 x hx) 1)
      omega
    have e3 := (priL_ok h.l.2).2
    have l1 := Nat.mul_le_mul_right (372 + 1) h1
    have l2 := Nat.mul_le_mul_right ((c + 1) * 261 + 1) h2
    have l3 := Nat.mul_le_mul_right 62 (Nat.add_le_add_right h4 1)
    unfold plnL
    rw [totL_cons, totL_app, totL_app, totL_cons, show PLAN.length = 4 from rfl, show totL [] = 0 from rfl]
    omega

end C
namespace C
open PySem PySem.Spec PyProof.Rows L2 TL
local macro_rules | `(tactic| walk_at "ev") => `(tactic| (conv => whnf))
local macro_rules | `(tactic| walk_at "side") => `(tactic| (first | assumption | exact trivial | exact line1000 rfl | (show (0 : Int) < _; first | omega | decide) | exact rfl | exact smallof (by omega) (by omega) | exact ⟨smallof (by omega) (by omega), smallof (by omega) (by omega)⟩ | exact Or.inl (by omega) | exact Or.inr (Or.inl (by omega)) | exact cdiv_of (by omega) (by omega) | omega | exact lt_line (by omega) | exact le_line (by omega) | exact ⟨by decide, by decide, by decide⟩ | decide | fail))
local macro_rules | `(tactic| walk_at "go") => `(tactic| ((repeat' ((conv => whnf); first | refine And.intro (by walk_at "side") ?_ | walk_at "call" | walk_at "test" | fail)); try (conv => whnf)))
local macro_rules | `(tactic| walk_at "call") => `(tactic| (first | refine setE_go (by assumption) ?_ | fail))
local macro_rules | `(tactic| walk_at "test") => `(tactic| (first | refine mdec_yes (by omega) ?_ | refine mdec_no (by omega) ?_ | refine mdec_no (fun h => h rfl) ?_ | refine mndec_yes (by omega) ?_ | refine mndec_no (by omega) ?_ | fail))
local macro_rules | `(tactic| walk_at "call") => `(tactic| (first | refine gl0 ?_ | refine gl1 ?_ | refine gl2 ?_ | refine gl3 ?_ | refine at_go (by omega) (by omega) ?_ | refine at_goN (by omega) (by omega) ?_ | fail))
local macro_rules | `(tactic| walk_at "call") => `(tactic| (first | refine ints_go ?_ | refine bools_go ?_ | fail))
local macro_rules | `(tactic| walk_at "call") => `(tactic| (first | refine eqD_go (pl_ints _) (pl_ints _) ?_ | fail))
local macro_rules | `(tactic| walk_at "call") => `(tactic| (first | refine w_cell _ _ (by omega) _ _ (fun _ => ?_) | fail))
local macro_rules | `(tactic| walk_at "call") => `(tactic| (first | refine w_cell _ _ (by omega) _ _ (fun _ => ?_) | fail))
local macro_rules | `(tactic| walk_at "call") => `(tactic| (first | refine at_go (by omega) (by omega) ?_ | refine at_goN (by omega) (by omega) ?_ | refine atPr (by omega) (by omega) ?_ | refine atPrN (by omega) (by omega) ?_ | fail))
local macro_rules | `(tactic| walk_at "call") => `(tactic| (first | refine alls_go ?_ | fail))
local macro_rules | `(tactic| walk_at "call") => `(tactic| (first | refine eqD_go (pl_prs _) (pl_prs _) ?_ | fail))
local macro_rules | `(tactic| walk_at "call") => `(tactic| (first | refine at_go (by omega) (by omega) ?_ | refine at_goN (by omega) (by omega) ?_ | refine atPr (by omega) (by omega) ?_ | refine atPrN (by omega) (by omega) ?_ | refine atRg (by omega) (by omega) ?_ | refine atRgN (by omega) (by omega) ?_ | fail))
theorem rowsO_rows (R : List Row) : rowsO (R.map fun r => OV.lst (r.map rchM)) = some (R.map rowR) := by
  induction R with
  | nil => rfl
  | cons r R ih =>
    show rowsO (.lst (r.map rchM) :: R.map fun r => OV.lst (r.map rchM)) = _
    unfold rowsO
    rw [ih]; rfl
theorem w_plan_initB (P : List Pn) (R : List Row) (L : List Int) (hR : R.length < 300000) (Q : OV → Env → Prop) (E : Int → Prop) (h : ∀ s1 s2 s3 s4, Q (.fro .non) [.rf (.obj 9 [.lst (P.map pnM), .fro (.lst (R.map rowR)), .fro (.lst (L.map .int))]), s1, s2, s3, s4]) :
    F_Plan_init__ [.rf (.obj 9 []), .bo (.lst (P.map pnM)), .bo (.nst (R.map fun r => OV.lst (r.map rchM))), .bo (.lst (L.map .int))] Q E := by
  refine F_Plan_init__.mk ?_
  have lR : (R.map rowR).length = R.length := by simp
  walk_at "go"
  rw [rowsO_rows]
  refine ⟨⟨le_line (by omega), (by show 4 < 5; decide)⟩, ?_⟩
  walk_at "go"
  exact h _ _ _ _
theorem lco_rows {g : GX} {na : NX} {env0 : Env} {Q : List OV → Prop} : ∀ (R : List Row) (acc : List OV), acc.length + R.length ≤ 1000 →
    (∀ r ∈ R, ∀ (Y : OV → Prop), Y (.lst (r.map rchM)) → g (rowR r) env0 fun e => na e Y) → Q (acc ++ R.map fun r => OV.lst (r.map rchM)) → lcoN g na env0 (R.map rowR) acc Q
  | [], acc, _, _, q => by
    unfold lcoN
    simpa using q
  | r :: R, acc, hl, h, q => by
    simp only [List.map_cons]
    unfold lcoN
    simp only [List.length_cons] at hl
    refine h r List.mem_cons_self _ ⟨lt_line (by omega), ?_⟩
    refine lco_rows R _ (by simp; omega) (fun m hm => h m (List.mem_cons_of_mem _ hm)) ?_
    simpa using q
theorem appR_const {fa : EX} {en : Env} (m : MV) (hf : ∀ Q : MV → Prop, Q m → fa en Q) {Q : List (List MV) → Prop} : ∀ (rs acc : List (List MV)), (∀ r ∈ rs, r.length < 1000) → Q (acc ++ rs.map fun r => r ++ [m]) → appR fa en rs acc Q
  | [], acc, _, q => by unfold appR; simpa using q
  | r :: rs, acc, hl, q => by
    unfold appR
    refine hf _ ⟨lt_line (by have := hl r List.mem_cons_self; omega), ?_⟩
    refine appR_const m hf rs _ (fun x hx => hl x (List.mem_cons_of_mem _ hx)) ?_
    simpa using q
theorem plain_law (ns : List Int) (hn : ns.length ≤ 63) : F_law [.bo (.scr (scrOf ns))] (fun o _ => o = .fro (.bl true)) (fun _ => False) := by
  refine F_law.mk ?_
  walk_at "go"
  refine w_plan _ _ _ fun P R L en ok p4 r3 rr l5 => ?_
  have lp : (P.map pnM).length = P.length := by simp
  have ll : (L.map MV.int).length = L.length := by simp
  have lR : (R.map rowR).length = R.length := by simp
  walk_at "go"
  refine lco_rows R [] (by simp; omega) (fun r hr Y y => ?_) ?_
  · walk_at "go"
    exact y
  have sm := plnL_ok ok p4 r3 rr l5
  have jl := sm.join
  have n0 : plnL P R L ≠ [] := by unfold plnL; simp
  have hsp : sp 10 (joinL [10] (plnL P R L)) = plnL P R L := sp_joinL _ n0 sm.fr
  have js := join_sum (plnL P R L)
  have jt := sm.tl
  walk_at "go"
  refine w_plan_initB P R L (by omega) _ _ fun _ _ _ _ => ⟨rfl, ?_⟩
  walk_at "go"
  rw [List.nil_append, show (R.map fun r => OV.lst (r.map rchM)) = (R.map fun r => r.map rchM).map OV.lst by rw [List.map_map]; rfl, lsOf_map]
  refine ⟨⟨by decide, (by show 6 < 9; decide)⟩, ?_⟩
  refine appR_const (.tup [.int 0, .non]) (fun Q q => ?_) _ _ (fun r hr => ?_) ?_
  · walk_at "go"
    exact q
  · obtain ⟨r', hr', rfl⟩ := List.mem_map.mp hr
    have := rr r' hr'
    rw [List.length_map]; omega
  walk_at "go"
  refine ⟨lt_line (by simp; omega), ?_⟩
  walk_at "go"
  refine eqD_go (pl_pns P) (pl_pns P) ?_
  walk_at "go"
  refine eqD_go (pl_rows R) (pl_rows R) ?_
  walk_at "go"
  refine w_plan_lines P R L ok (by omega) _ _ fun _ => ?_
  walk_at "go"
  rw [strsL_sM]
  walk_at "go"
  rw [join_nl]
  refine w_write_plan P R L ok (by omega) _ _ fun _ => ?_
  walk_at "go"
  refine w_read_plan (joinL [10] (plnL P R L)) (by omega) (by rw [hsp]; exact plnL_G ok) _ _ fun P' R' L' en ok' e => ?_
  rw [hsp] at e
  obtain ⟨rfl, rfl, rfl⟩ := plnL_inj ok ok' e
  walk_at "go"
  refine eqD_go (pl_pns P) (pl_pns P) ?_
  walk_at "go"
  refine mdec_yes rfl ?_
  walk_at "go"
  refine eqD_go (pl_rows R) (pl_rows R) ?_
  walk_at "go"
  refine mdec_yes rfl ?_
  walk_at "go"
  rw [dB_yes rfl]
end C
namespace C
open PySem PySem.Spec PyProof.Rows L2
def top (i : Nat) : Stmt := PySem.Challenge.pw_fewestlines_k34_plans_written_and_read.main.body.getD i (.Pass ⟨0, 0, 0, 0⟩)
abbrev s_Plan_init__ : Stmt := (inClass (top 4) 0)
abbrev s_is_plain : Stmt := (top 8)
abbrev s_is_signed : Stmt := (top 9)
abbrev s_reach_word : Stmt := (top 11)
abbrev s_write_plan : Stmt := (top 12)
abbrev s_plan_piece : Stmt := (top 13)
abbrev s_reach_in : Stmt := (top 14)
abbrev s_reaches_in : Stmt := (top 15)
abbrev s_prices_in : Stmt := (top 16)
abbrev s_read_rows : Stmt := (top 17)
abbrev s_read_rows_reaches_in : Stmt := (top 17)
abbrev s_read_rows_plan_piece : Stmt := (top 17)
abbrev s_read_plan : Stmt := (top 18)
abbrev s_law_cell : Stmt := (top 20)
abbrev s_law_digits : Stmt := (top 21)
abbrev s_law_number : Stmt := (top 22)
abbrev s_law_plan : Stmt := (top 23)
abbrev s_law_plan_lines : Stmt := (top 24)
abbrev s_law : Stmt := (top 25)
structure Txt (K : PySem.W.Frag) (mg : Str → Option Value) (cl : Nat → Addr) (fa : Nat → Addr) (fd : Nat → FuncData) : Prop where
  k_Plan_init__ : PySem.W.keepIn K (.ref (fa 0)) = true
  F_Plan_init__ : Fun K "__init__" "Plan.__init__" s_Plan_init__ (fa 0) (fd 0)
  g_is_plain : mg "is_plain" = some (.ref (fa 1))
  k_is_plain : PySem.W.keepIn K (.ref (fa 1)) = true
  F_is_plain : Fun K "is_plain" "is_plain" s_is_plain (fa 1) (fd 1)
  g_is_signed : mg "is_signed" = some (.ref (fa 2))
  k_is_signed : PySem.W.keepIn K (.ref (fa 2)) = true
  F_is_signed : Fun K "is_signed" "is_signed" s_is_signed (fa 2) (fd 2)
  g_reach_word : mg "reach_word" = some (.ref (fa 3))
  k_reach_word : PySem.W.keepIn K (.ref (fa 3)) = true
  F_reach_word : Fun K "reach_word" "reach_word" s_reach_word (fa 3) (fd 3)
  g_write_plan : mg "write_plan" = some (.ref (fa 4))
  k_write_plan : PySem.W.keepIn K (.ref (fa 4)) = true
  F_write_plan : Fun K "write_plan" "write_plan" s_write_plan (fa 4) (fd 4)
  g_plan_piece : mg "plan_piece" = some (.ref (fa 5))
  k_plan_piece : PySem.W.keepIn K (.ref (fa 5)) = true
  F_plan_piece : Fun K "plan_piece" "plan_piece" s_plan_piece (fa 5) (fd 5)
  g_reach_in : mg "reach_in" = some (.ref (fa 6))
  k_reach_in : PySem.W.keepIn K (.ref (fa 6)) = true
  F_reach_in : Fun K "reach_in" "reach_in" s_reach_in (fa 6) (fd 6)
  g_reaches_in : mg "reaches_in" = some (.ref (fa 7))
  k_reaches_in : PySem.W.keepIn K (.ref (fa 7)) = true
  F_reaches_in : Fun K "reaches_in" "reaches_in" s_reaches_in (fa 7) (fd 7)
  g_prices_in : mg "prices_in" = some (.ref (fa 8))
  k_prices_in : PySem.W.keepIn K (.ref (fa 8)) = true
  F_prices_in : Fun K "prices_in" "prices_in" s_prices_in (fa 8) (fd 8)
  g_read_rows : mg "read_rows" = some (.ref (fa 9))
  k_read_rows : PySem.W.keepIn K (.ref (fa 9)) = true
  F_read_rows : Fun K "read_rows" "read_rows" s_read_rows (fa 9) (fd 9)
  g_read_plan : mg "read_plan" = some (.ref (fa 12))
  k_read_plan : PySem.W.keepIn K (.ref (fa 12)) = true
  F_read_plan : Fun K "read_plan" "read_plan" s_read_plan (fa 12) (fd 12)
  g_law_cell : mg "_law_cell" = some (.ref (fa 13))
  k_law_cell : PySem.W.keepIn K (.ref (fa 13)) = true
  F_law_cell : Fun K "_law_cell" "_law_cell" s_law_cell (fa 13) (fd 13)
  g_law_digits : mg "_law_digits" = some (.ref (fa 14))
  k_law_digits : PySem.W.keepIn K (.ref (fa 14)) = true
  F_law_digits : Fun K "_law_digits" "_law_digits" s_law_digits (fa 14) (fd 14)
  g_law_number : mg "_law_number" = some (.ref (fa 15))
  k_law_number : PySem.W.keepIn K (.ref (fa 15)) = true
  F_law_number : Fun K "_law_number" "_law_number" s_law_number (fa 15) (fd 15)
  g_law_plan : mg "_law_plan" = some (.ref (fa 16))
  k_law_plan : PySem.W.keepIn K (.ref (fa 16)) = true
  F_law_plan : Fun K "_law_plan" "_law_plan" s_law_plan (fa 16) (fd 16)
  g_law_plan_lines : mg "_law_plan_lines" = some (.ref (fa 17))
  k_law_plan_lines : PySem.W.keepIn K (.ref (fa 17)) = true
  F_law_plan_lines : Fun K "_law_plan_lines" "_law_plan_lines" s_law_plan_lines (fa 17) (fd 17)
  g_law : mg "law" = some (.ref (fa 18))
  k_law : PySem.W.keepIn K (.ref (fa 18)) = true
  F_law : Fun K "law" "law" s_law (fa 18) (fd 18)
  v_reaches_in : cl 100 = fa 7
  v_plan_piece : cl 101 = fa 5
  z_abs : mg "abs" = none
  z_all : mg "all" = none
  z_int : mg "int" = none
  z_isinstance : mg "isinstance" = none
  z_len : mg "len" = none
  z_list : mg "list" = none
  z_range : mg "range" = none
  z_str : mg "str" = none
  q_DIGITS : ∃ t, mg "DIGITS" = some (.str "0123456789" t)
  q_MOST_DIGITS : ∃ t, mg "MOST_DIGITS" = some (.int 60 t)
  isp : PySem.W.specialIn K (.builtin "object.__class__") "__get__" = some (some (.builtin "getset_descriptor.__get__"))
  itk : PySem.W.takesIn K (.builtin "object.__class__") = some true
  ia_Plan : PySem.W.findIn K (.ref (cl 9)) "__class__" = some (some (.builtin "object.__class__"))
  ib_Plan : PySem.W.mroIn K (cl 9) (.type "object") = some true
  ic_Plan : PySem.W.kitOne K (.ref (cl 9)) (.ref (cl 9)) = some true
  g_Plan : mg "Plan" = some (.ref (cl 9))
  c_Plan : COk K cl 9 0
  m_Plan : Mk K (cl 9) (fa 0)
section
variable {P : Program} {w : World} {K : PySem.W.Frag} {mg : Str → Option Value} {base : Heap} {cl fa : Nat → Addr} {fd : Nat → FuncData}
theorem sc_Plan_init__ : FnScope (["self", "pieces", "reaches", "prices", "row"] : List Str) (["self", "pieces", "reaches", "prices"] : List Str) (defScope s_Plan_init__) := ⟨rfl, rfl, rfl, by decide +kernel, rfl, by decide +kernel, by decide +kernel⟩
theorem b_Plan_init__ (T : Txt K mg cl fa fd) : Binds K (fd 0) (["self", "pieces", "reaches", "prices"] : List Str) [] := T.F_Plan_init__.binds fun _ _ _ _ _ _ us hl => match us, hl with | [_, _, _, _], _ => rfl
theorem ok_Plan_init__ (T : Txt K mg cl fa fd) : FB P w K mg base cl 1 4 (fa 0) F_Plan_init__ := by
  have sc := sc_Plan_init__
  have body : ∀ (cdv : Value) (A : Around) (outer : List PySem.Env) (sh : Shared) (H : Hp) (E : XK), Room 0 (A.deeper (envOfC "Plan.__init__" (defScope s_Plan_init__) sh.heap.objs.size (fa 0) cdv)) → MSs (cxOf CX0 P w K mg base (["self", "pieces", "reaches", "prices", "row"] : List Str) "Plan.__init__" (defScope s_Plan_init__) (fa 0) cdv A outer sh H E).nox cl (fun _ _ => False) (defBody s_Plan_init__) S_Plan_init__ := fun cdv A outer sh H E hr =>
  (mss_consF (ms_setF 7 (mp_var 0) (mx_n (mn_list rfl T.z_list (by decide +kernel) (mq_pl (mp_var 1)))))
  (mss_consF (ms_setF 23 (mp_var 0) (mx_e (me_n (mn_rows (own := ([("row", 4)] : List (Str × Nat))) 4 rfl sc.nd (mq_pl (mp_var 2)) (blkOk_by (N := ["self", "pieces", "reaches", "prices", "row"]) (sc := defScope s_Plan_init__) (by first | decide +kernel | rfl)) rfl (fun _ _ _ _ _ => pg_name sc.nd rfl (by first | exact Or.inl rfl | exact Or.inr rfl)) (fun _ _ _ _ _ => pe_row 4 rfl T.z_list)))))
  (mss_one (ms_setF 24 (mp_var 0) (mx_e (m_callT gb_list rfl T.z_list (by decide +kernel) (mq_pl (mp_var 3))))))))
  rw [e_Plan_init__]
  exact fb_mk T.F_Plan_init__ sc (b_Plan_init__ T) body
theorem sc_is_plain : FnScope (["word", "char"] : List Str) (["word"] : List Str) (defScope s_is_plain) := ⟨rfl, rfl, rfl, by decide +kernel, rfl, by decide +kernel, by decide +kernel⟩
theorem b_is_plain (T : Txt K mg cl fa fd) : Binds K (fd 1) (["word"] : List Str) [] := T.F_is_plain.binds fun _ _ _ _ _ _ us hl => match us, hl with | [_], _ => rfl
theorem ok_is_plain (T : Txt K mg cl fa fd) : FB P w K mg base cl 1 1 (fa 1) F_is_plain := by
  have sc := sc_is_plain
  have body : ∀ (cdv : Value) (A : Around) (outer : List PySem.Env) (sh : Shared) (H : Hp) (E : XK), Room 0 (A.deeper (envOfC "is_plain" (defScope s_is_plain) sh.heap.objs.size (fa 1) cdv)) → MSs (cxOf CX0 P w K mg base (["word", "char"] : List Str) "is_plain" (defScope s_is_plain) (fa 1) cdv A outer sh H E).nox cl (fun _ _ => False) (defBody s_is_plain) S_is_plain := fun cdv A outer sh H E hr =>
  (mss_consF (ms_if (mu_t (t_w (w_or (t_cmp (gc_eq hr.units) (mq_pl (mp_var 0)) (mq_e m_str)) (w_or (t_cmp gc_gt (mq_e (m_callB gb_len rfl T.z_len (by decide +kernel) (mq_pl (mp_var 0)))) (mq_e (m_globI rfl T.q_MOST_DIGITS))) (w_or1 (t_not (t_tru (mq_e (m_callB (gb_all rfl) rfl T.z_all (by decide +kernel) (mq_e (me_n (mn_lc (own := ([("char", 1)] : List (Str × Nat))) rfl sc.nd ⟨(mj_any (mq_pl (mp_var 0))), blkOk_by (N := ["word", "char"]) (sc := defScope s_is_plain) (by first | decide +kernel | rfl), ⟨[1], by decide, fun _ _ _ _ _ => (mg_name 1 sc.nd)⟩, fun _ _ _ _ _ => mts_nil, fun _ _ _ _ _ => (m_cmp gc_inC (mq_pl (mp_var 1)) (mq_e (m_globS rfl T.q_DIGITS))), ⟨sh, H⟩⟩))))))))))))
  (mss_one (ms_ret (mx_e m_bl)))
  mss_nil)
  (mss_one (ms_ret (mx_e (m_or (mq_e (m_cmp (gc_eq hr.units) (mq_pl (mp_var 0)) (mq_e m_str))) (m_one (m_cmp (gc_ne hr.units) (mq_e (m_ix (mq_pl (mp_var 0)) (mq_e m_int))) (mq_e m_str))))))))
  rw [e_is_plain]
  exact fb_mk T.F_is_plain sc (b_is_plain T) body
theorem sc_is_signed : FnScope (["word"] : List Str) (["word"] : List Str) (defScope s_is_signed) := ⟨rfl, rfl, rfl, by decide +kernel, rfl, by decide +kernel, by decide +kernel⟩
theorem b_is_signed (T : Txt K mg cl fa fd) : Binds K (fd 2) (["word"] : List Str) [] := T.F_is_signed.binds fun _ _ _ _ _ _ us hl => match us, hl with | [_], _ => rfl
theorem ok_is_signed (T : Txt K mg cl fa fd) (h_is_plain : FB P w K mg base cl 1 1 (fa 1) F_is_plain) : FB P w K mg base cl 2 1 (fa 2) F_is_signed := by
  have sc := sc_is_signed
  have body : ∀ (cdv : Value) (A : Around) (outer : List PySem.Env) (sh : Shared) (H : Hp) (E : XK), Room 1 (A.deeper (envOfC "is_signed" (defScope s_is_signed) sh.heap.objs.size (fa 2) cdv)) → MSs (cxOf CX0 P w K mg base (["word"] : List Str) "is_signed" (defScope s_is_signed) (fa 2) cdv A outer sh H E).nox cl (fun _ _ => False) (defBody s_is_signed) S_is_signed := fun cdv A outer sh H E hr =>
  (mss_consF (ms_if (mu_t (t_tru (mq_e (m_stw (mq_pl (mp_var 0)) m_str))))
  (mss_one (ms_ret (mx_e (m_and (mq_e (m_cmp (gc_ne hr.units) (mq_pl (mp_var 0)) (mq_e m_str))) (m_one (me_n (mn_call h_is_plain (hr.mono (by decide)) rfl T.g_is_plain T.k_is_plain (ma_v (m_slS (mq_pl (mp_var 0)) (mo_some (mq_e m_int)) mo_none) ma_nil))))))))
  mss_nil)
  (mss_one (ms_ret (mx_n (mn_call h_is_plain (hr.mono (by decide)) rfl T.g_is_plain T.k_is_plain (ma_v (me_q (mq_pl (mp_var 0))) ma_nil))))))
  rw [e_is_signed]
  exact fb_mk T.F_is_signed sc (b_is_signed T) body
theorem sc_reach_word : FnScope (["reach", "end", "indexes", "number"] : List Str) (["reach"] : List Str) (defScope s_reach_word) := ⟨rfl, rfl, rfl, by decide +kernel, rfl, by decide +kernel, by decide +kernel⟩
theorem b_reach_word (T : Txt K mg cl fa fd) : Binds K (fd 3) (["reach"] : List Str) [] := T.F_reach_word.binds fun _ _ _ _ _ _ us hl => match us, hl with | [_], _ => rfl
theorem ok_reach_word (T : Txt K mg cl fa fd) : FB P w K mg base cl 1 1 (fa 3) F_reach_word := by
  have sc := sc_reach_word
  have body : ∀ (cdv : Value) (A : Around) (outer : List PySem.Env) (sh : Shared) (H : Hp) (E : XK), Room 0 (A.deeper (envOfC "reach_word" (defScope s_reach_word) sh.heap.objs.size (fa 3) cdv)) → MSs (cxOf CX0 P w K mg base (["reach", "end", "indexes", "number"] : List Str) "reach_word" (defScope s_reach_word) (fa 3) cdv A outer sh H E).nox cl (fun _ _ => False) (defBody s_reach_word) S_reach_word := fun cdv A outer sh H E hr =>
  (mss_consF (ms_asg (mx_e (me_q (mq_pl (mp_var 0)))) (mg_tup rfl (mgs_cons (mg_name 1 sc.nd) (mgs_cons (mg_name 2 sc.nd) mgs_nil))))
  (mss_consF (ms_if (mu_t (t_cmp gc_is (mq_pl (mp_var 2)) (mq_e m_non)))
  (mss_one (ms_ret (mx_n (mn_e (m_callT gb_str rfl T.z_str (by decide +kernel) (mq_pl (mp_var 1)))))))
  mss_nil)
  (mss_one (ms_ret (mx_n (mn_e (m_join (mq_e m_str) (mq_e (me_n (mn_lc (own := ([("number", 3)] : List (Str × Nat))) rfl sc.nd ⟨(mj_any (mq_e (m_add (mq_e (m_tup (ma_v (me_q (mq_pl (mp_var 1))) ma_nil))) (mq_pl (mp_var 2))))), blkOk_by (N := ["reach", "end", "indexes", "number"]) (sc := defScope s_reach_word) (by first | decide +kernel | rfl), ⟨[3], by decide, fun _ _ _ _ _ => (mg_name 3 sc.nd)⟩, fun _ _ _ _ _ => mts_nil, fun _ _ _ _ _ => (m_callT gb_str rfl T.z_str (by decide +kernel) (mq_pl (mp_var 3))), ⟨sh, H⟩⟩))))))))))
  rw [e_reach_word]
  exact fb_mk T.F_reach_word sc (b_reach_word T) body
theorem sc_write_plan : FnScope (["plan", "lines", "start", "width", "line", "row", "number", "reach", "price"] : List Str) (["plan"] : List Str) (defScope s_write_plan) := ⟨rfl, rfl, rfl, by decide +kernel, rfl, by decide +kernel, by decide +kernel⟩
theorem b_write_plan (T : Txt K mg cl fa fd) : Binds K (fd 4) (["plan"] : List Str) [] := T.F_write_plan.binds fun _ _ _ _ _ _ us hl => match us, hl with | [_], _ => rfl
theorem ok_write_plan (T : Txt K mg cl fa fd) (h_reach_word : FB P w K mg base cl 1 1 (fa 3) F_reach_word) : FB P w K mg base cl 2 1 (fa 4) F_write_plan := by
  have sc := sc_write_plan
  have body : ∀ (cdv : Value) (A : Around) (outer : List PySem.Env) (sh : Shared) (H : Hp) (E : XK), Room 1 (A.deeper (envOfC "write_plan" (defScope s_write_plan) sh.heap.objs.size (fa 4) cdv)) → MSs (cxOf CX0 P w K mg base (["plan", "lines", "start", "width", "line", "row", "number", "reach", "price"] : List Str) "write_plan" (defScope s_write_plan) (fa 4) cdv A outer sh H E).nox cl (fun _ _ => False) (defBody s_write_plan) S_write_plan := fun cdv A outer sh H E hr =>
  (mss_consF (ms_set 1 sc.nd (mx_n (mn_lst (ma_v m_str ma_nil))))
  (mss_consF (ms_for PassesOwn.never rfl (mi_any (me_q (mq_pl (mp_fld 7 (mp_var 0))))) (mg_tup rfl (mgs_cons (mg_name 2 sc.nd) (mgs_cons (mg_name 3 sc.nd) (mgs_cons (mg_name 4 sc.nd) mgs_nil))))
  (mss_one (ms_expr (mx_app (mp_var 1) (m_join (mq_e m_str) (mq_e (m_add (mq_e (m_lst (ma_v m_str (ma_v (m_callT gb_str rfl T.z_str (by decide +kernel) (mq_pl (mp_var 2))) (ma_v (m_callT gb_str rfl T.z_str (by decide +kernel) (mq_pl (mp_var 3))) ma_nil))))) (mq_e (me_n (mn_lc (own := ([("number", 6)] : List (Str × Nat))) rfl sc.nd ⟨(mj_any (mq_pl (mp_var 4))), blkOk_by (N := ["plan", "lines", "start", "width", "line", "row", "number", "reach", "price"]) (sc := defScope s_write_plan) (by first | decide +kernel | rfl), ⟨[6], by decide, fun _ _ _ _ _ => (mg_name 6 sc.nd)⟩, fun _ _ _ _ _ => mts_nil, fun _ _ _ _ _ => (m_callT gb_str rfl T.z_str (by decide +kernel) (mq_pl (mp_var 6))), ⟨sh, H⟩⟩))))))))))
  (mss_consF (ms_for PassesOwn.never rfl (mi_any (me_q (mq_pl (mp_fld 23 (mp_var 0))))) (mg_name 5 sc.nd)
  (mss_one (ms_expr (mx_app (mp_var 1) (m_join (mq_e m_str) (mq_e (m_add (mq_e (m_lst (ma_v m_str ma_nil))) (mq_e (me_n (mn_lc (own := ([("reach", 7)] : List (Str × Nat))) rfl sc.nd ⟨(mj_any (mq_pl (mp_var 5))), blkOk_by (N := ["plan", "lines", "start", "width", "line", "row", "number", "reach", "price"]) (sc := defScope s_write_plan) (by first | decide +kernel | rfl), ⟨[7], by decide, fun _ _ _ _ _ => (mg_name 7 sc.nd)⟩, fun _ _ _ _ _ => mts_nil, fun _ _ _ _ _ => (me_n (mn_call h_reach_word (hr.mono (by decide)) rfl T.g_reach_word T.k_reach_word (ma_v (me_q (mq_pl (mp_var 7))) ma_nil))), ⟨sh, H⟩⟩))))))))))
  (mss_consF (ms_expr (mx_app (mp_var 1) (m_join (mq_e m_str) (mq_e (m_add (mq_e (m_lst (ma_v m_str ma_nil))) (mq_e (me_n (mn_lc (own := ([("price", 8)] : List (Str × Nat))) rfl sc.nd ⟨(mj_any (mq_pl (mp_fld 24 (mp_var 0)))), blkOk_by (N := ["plan", "lines", "start", "width", "line", "row", "number", "reach", "price"]) (sc := defScope s_write_plan) (by first | decide +kernel | rfl), ⟨[8], by decide, fun _ _ _ _ _ => (mg_name 8 sc.nd)⟩, fun _ _ _ _ _ => mts_nil, fun _ _ _ _ _ => (m_callT gb_str rfl T.z_str (by decide +kernel) (mq_pl (mp_var 8))), ⟨sh, H⟩⟩))))))))
  (mss_one (ms_ret (mx_n (mn_e (m_join (mq_e m_str) (mq_pl (mp_var 1)))))))))))
  rw [e_write_plan]
  exact fb_mk T.F_write_plan sc (b_write_plan T) body
theorem sc_plan_piece : FnScope (["line", "words", "k"] : List Str) (["line"] : List Str) (defScope s_plan_piece) := ⟨rfl, rfl, rfl, by decide +kernel, rfl, by decide +kernel, by decide +kernel⟩
theorem b_plan_piece (T : Txt K mg cl fa fd) : Binds K (fd 5) (["line"] : List Str) [] := T.F_plan_piece.binds fun _ _ _ _ _ _ us hl => match us, hl with | [_], _ => rfl
theorem ok_plan_piece (T : Txt K mg cl fa fd) (h_is_plain : FB P w K mg base cl 1 1 (fa 1) F_is_plain) (h_is_signed : FB P w K mg base cl 2 1 (fa 2) F_is_signed) : FB P w K mg base cl 3 1 (fa 5) F_plan_piece := by
  have sc := sc_plan_piece
  have body : ∀ (cdv : Value) (A : Around) (outer : List PySem.Env) (sh : Shared) (H : Hp) (E : XK), Room 2 (A.deeper (envOfC "plan_piece" (defScope s_plan_piece) sh.heap.objs.size (fa 5) cdv)) → MSs (cxOf CX0 P w K mg base (["line", "words", "k"] : List Str) "plan_piece" (defScope s_plan_piece) (fa 5) cdv A outer sh H E).nox cl (fun _ _ => False) (defBody s_plan_piece) S_plan_piece := fun cdv A outer sh H E hr =>
  (mss_consF (ms_set 1 sc.nd (mx_e (me_n (mn_split (mq_pl (mp_var 0)) m_str))))
  (mss_consF (ms_if (mu_t (t_w (w_or (t_cmp (gc_ne hr.units) (mq_e (m_callB gb_len rfl T.z_len (by decide +kernel) (mq_pl (mp_var 1)))) (mq_e m_int)) (w_or1 (t_cmp (gc_ne hr.units) (mq_e (m_ix (mq_pl (mp_var 1)) (mq_e m_int))) (mq_e m_str))))))
  (mss_one (ms_ret (mx_e m_non)))
  mss_nil)
  (mss_consF (ms_if (mu_t (t_w (w_or (t_not (t_tru (mq_e (m_callB (gb_all rfl) rfl T.z_all (by decide +kernel) (mq_e (me_n (mn_lc (own := ([("k", 2)] : List (Str × Nat))) rfl sc.nd ⟨(mj_i (mi_tup (m_tup (ma_v m_int (ma_v m_int (ma_v m_int ma_nil)))))), blkOk_by (N := ["line", "words", "k"]) (sc := defScope s_plan_piece) (by first | decide +kernel | rfl), ⟨[2], by decide, fun _ _ _ _ _ => (mg_name 2 sc.nd)⟩, fun _ _ _ _ _ => mts_nil, fun _ _ _ _ _ => (me_n (mn_call h_is_plain (hr.mono (by decide)) rfl T.g_is_plain T.k_is_plain (ma_v (m_ix (mq_pl (mp_var 1)) (mq_pl (mp_var 2))) ma_nil))), ⟨sh, H⟩⟩))))))) (w_or (t_not (t_tru (mq_e (me_n (mn_call h_is_signed (hr.mono (by decide)) rfl T.g_is_signed T.k_is_signed (ma_v (m_ix (mq_pl (mp_var 1)) (mq_e m_int)) ma_nil)))))) (w_or1 (t_not (t_tru (mq_e (me_n (mn_call h_is_signed (hr.mono (by decide)) rfl T.g_is_signed T.k_is_signed (ma_v (m_ix (mq_pl (mp_var 1)) (mq_e m_int)) ma_nil)))))))))))
  (mss_one (ms_ret (mx_e m_non)))
  mss_nil)
  (mss_one (ms_ret (mx_e (m_tup (ma_v (m_callT gb_int rfl T.z_int (by decide +kernel) (mq_e (m_ix (mq_pl (mp_var 1)) (mq_e m_int)))) (ma_v (m_callT gb_int rfl T.z_int (by decide +kernel) (mq_e (m_ix (mq_pl (mp_var 1)) (mq_e m_int)))) (ma_v (m_tup (ma_v (m_callT gb_int rfl T.z_int (by decide +kernel) (mq_e (m_ix (mq_pl (mp_var 1)) (mq_e m_int)))) (ma_v (m_callT gb_int rfl T.z_int (by decide +kernel) (mq_e (m_ix (mq_pl (mp_var 1)) (mq_e m_int)))) (ma_v (m_callT gb_int rfl T.z_int (by decide +kernel) (mq_e (m_ix (mq_pl (mp_var 1)) (mq_e m_int)))) ma_nil)))) ma_nil))))))))))
  rw [e_plan_piece]
  exact fb_mk T.F_plan_piece sc (b_plan_piece T) body
theorem sc_reach_in : FnScope (["word", "parts", "numbers", "part"] : List Str) (["word"] : List Str) (defScope s_reach_in) := ⟨rfl, rfl, rfl, by decide +kernel, rfl, by decide +kernel, by decide +kernel⟩
theorem b_reach_in (T : Txt K mg cl fa fd) : Binds K (fd 6) (["word"] : List Str) [] := T.F_reach_in.binds fun _ _ _ _ _ _ us hl => match us, hl with | [_], _ => rfl
theorem ok_reach_in (T : Txt K mg cl fa fd) (h_is_plain : FB P w K mg base cl 1 1 (fa 1) F_is_plain) : FB P w K mg base cl 2 1 (fa 6) F_reach_in := by
  have sc := sc_reach_in
  have body : ∀ (cdv : Value) (A : Around) (outer : List PySem.Env) (sh : Shared) (H : Hp) (E : XK), Room 1 (A.deeper (envOfC "reach_in" (defScope s_reach_in) sh.heap.objs.size (fa 6) cdv)) → MSs (cxOf CX0 P w K mg base (["word", "parts", "numbers", "part"] : List Str) "reach_in" (defScope s_reach_in) (fa 6) cdv A outer sh H E).nox cl (fun _ _ => False) (defBody s_reach_in) S_reach_in := fun cdv A outer sh H E hr =>
  (mss_consF (ms_set 1 sc.nd (mx_e (me_n (mn_split (mq_pl (mp_var 0)) m_str))))
  (mss_consF (ms_if (mu_t (t_w (w_or (t_cmp gc_notinT (mq_e (m_callB gb_len rfl T.z_len (by decide +kernel) (mq_pl (mp_var 1)))) (mq_e (m_tup (ma_v m_int (ma_v m_int ma_nil))))) (w_or1 (t_not (t_tru (mq_e (m_callB (gb_all rfl) rfl T.z_all (by decide +kernel) (mq_e (me_n (mn_lc (own := ([("part", 3)] : List (Str × Nat))) rfl sc.nd ⟨(mj_any (mq_pl (mp_var 1))), blkOk_by (N := ["word", "parts", "numbers", "part"]) (sc := defScope s_reach_in) (by first | decide +kernel | rfl), ⟨[3], by decide, fun _ _ _ _ _ => (mg_name 3 sc.nd)⟩, fun _ _ _ _ _ => mts_nil, fun _ _ _ _ _ => (me_n (mn_call h_is_plain (hr.mono (by decide)) rfl T.g_is_plain T.k_is_plain (ma_v (me_q (mq_pl (mp_var 3))) ma_nil))), ⟨sh, H⟩⟩)))))))))))
  (mss_one (ms_ret (mx_e m_non)))
  mss_nil)
  (mss_consF (ms_setLcF 2 (own := ([("part", 3)] : List (Str × Nat))) rfl sc.nd ⟨(mj_any (mq_pl (mp_var 1))), blkOk_by (N := ["word", "parts", "numbers", "part"]) (sc := defScope s_reach_in) (by first | decide +kernel | rfl), ⟨[3], by decide, fun _ _ _ _ _ => (mg_name 3 sc.nd)⟩, fun _ _ _ _ _ => mts_nil, fun _ _ _ _ _ => (m_callT gb_int rfl T.z_int (by decide +kernel) (mq_pl (mp_var 3))), ⟨sh, H⟩⟩ (sw_true rfl rfl rfl (by decide +kernel)))
  (mss_consF (ms_if (mu_t (t_cmp (gc_eq hr.units) (mq_e (m_callB gb_len rfl T.z_len (by decide +kernel) (mq_pl (mp_var 2)))) (mq_e m_int)))
  (mss_one (ms_ret (mx_e (m_tup (ma_v (m_ix (mq_pl (mp_var 2)) (mq_e m_int)) (ma_v m_non ma_nil))))))
  mss_nil)
  (mss_one (ms_ret (mx_e (m_tup (ma_v (m_ix (mq_pl (mp_var 2)) (mq_e m_int)) (ma_v (m_tup (ma_v (m_ix (mq_pl (mp_var 2)) (mq_e m_int)) (ma_v (m_ix (mq_pl (mp_var 2)) (mq_e m_int)) (ma_v (m_ix (mq_pl (mp_var 2)) (mq_e m_int)) ma_nil)))) ma_nil))))))))))
  rw [e_reach_in]
  exact fb_mk T.F_reach_in sc (b_reach_in T) body
theorem sc_reaches_in : FnScope (["line", "words", "reaches", "word"] : List Str) (["line"] : List Str) (defScope s_reaches_in) := ⟨rfl, rfl, rfl, by decide +kernel, rfl, by decide +kernel, by decide +kernel⟩
theorem b_reaches_in (T : Txt K mg cl fa fd) : Binds K (fd 7) (["line"] : List Str) [] := T.F_reaches_in.binds fun _ _ _ _ _ _ us hl => match us, hl with | [_], _ => rfl
theorem ok_reaches_in (T : Txt K mg cl fa fd) (h_reach_in : FB P w K mg base cl 2 1 (fa 6) F_reach_in) : FB P w K mg base cl 3 1 (fa 7) F_reaches_in := by
  have sc := sc_reaches_in
  have body : ∀ (cdv : Value) (A : Around) (outer : List PySem.Env) (sh : Shared) (H : Hp) (E : XK), Room 2 (A.deeper (envOfC "reaches_in" (defScope s_reaches_in) sh.heap.objs.size (fa 7) cdv)) → MSs (cxOf CX0 P w K mg base (["line", "words", "reaches", "word"] : List Str) "reaches_in" (defScope s_reaches_in) (fa 7) cdv A outer sh H E).nox cl (fun _ _ => False) (defBody s_reaches_in) S_reaches_in := fun cdv A outer sh H E hr =>
  (mss_consF (ms_set 1 sc.nd (mx_e (me_n (mn_split (mq_pl (mp_var 0)) m_str))))
  (mss_consF (ms_setLcF 2 (own := ([("word", 3)] : List (Str × Nat))) rfl sc.nd ⟨(mj_any (mq_e (m_sl (mq_pl (mp_var 1)) (mo_some (mq_e m_int)) mo_none))), blkOk_by (N := ["line", "words", "reaches", "word"]) (sc := defScope s_reaches_in) (by first | decide +kernel | rfl), ⟨[3], by decide, fun _ _ _ _ _ => (mg_name 3 sc.nd)⟩, fun _ _ _ _ _ => mts_nil, fun _ _ _ _ _ => (me_n (mn_call h_reach_in (hr.mono (by decide)) rfl T.g_reach_in T.k_reach_in (ma_v (me_q (mq_pl (mp_var 3))) ma_nil))), ⟨sh, H⟩⟩ (sw_true rfl rfl rfl (by decide +kernel)))
  (mss_consF (ms_if (mu_t (t_w (w_or (t_cmp (gc_ne hr.units) (mq_e (m_ix (mq_pl (mp_var 1)) (mq_e m_int))) (mq_e m_str)) (w_or1 (t_cmp (gc_inN (units65 hr)) (mq_e m_non) (mq_pl (mp_var 2)))))))
  (mss_one (ms_ret (mx_e m_non)))
  mss_nil)
  (mss_one (ms_ret (mx_e (me_q (mq_pl (mp_var 2)))))))))
  rw [e_reaches_in]
  exact fb_mk T.F_reaches_in sc (b_reaches_in T) body
theorem sc_prices_in : FnScope (["line", "words", "word"] : List Str) (["line"] : List Str) (defScope s_prices_in) := ⟨rfl, rfl, rfl, by decide +kernel, rfl, by decide +kernel, by decide +kernel⟩
theorem b_prices_in (T : Txt K mg cl fa fd) : Binds K (fd 8) (["line"] : List Str) [] := T.F_prices_in.binds fun _ _ _ _ _ _ us hl => match us, hl with | [_], _ => rfl
theorem ok_prices_in (T : Txt K mg cl fa fd) (h_is_plain : FB P w K mg base cl 1 1 (fa 1) F_is_plain) : FB P w K mg base cl 2 1 (fa 8) F_prices_in := by
  have sc := sc_prices_in
  have body : ∀ (cdv : Value) (A : Around) (outer : List PySem.Env) (sh : Shared) (H : Hp) (E : XK), Room 1 (A.deeper (envOfC "prices_in" (defScope s_prices_in) sh.heap.objs.size (fa 8) cdv)) → MSs (cxOf CX0 P w K mg base (["line", "words", "word"] : List Str) "prices_in" (defScope s_prices_in) (fa 8) cdv A outer sh H E).nox cl (fun _ _ => False) (defBody s_prices_in) S_prices_in := fun cdv A outer sh H E hr =>
  (mss_consF (ms_set 1 sc.nd (mx_e (me_n (mn_split (mq_pl (mp_var 0)) m_str))))
  (mss_consF (ms_if (mu_t (t_w (w_or (t_cmp (gc_ne hr.units) (mq_e (m_ix (mq_pl (mp_var 1)) (mq_e m_int))) (mq_e m_str)) (w_or (t_cmp gc_lt (mq_e (m_callB gb_len rfl T.z_len (by decide +kernel) (mq_pl (mp_var 1)))) (mq_e m_int)) (w_or1 (t_not (t_tru (mq_e (m_callB (gb_all rfl) rfl T.z_all (by decide +kernel) (mq_e (me_n (mn_lc (own := ([("word", 2)] : List (Str × Nat))) rfl sc.nd ⟨(mj_any (mq_e (m_sl (mq_pl (mp_var 1)) (mo_some (mq_e m_int)) mo_none))), blkOk_by (N := ["line", "words", "word"]) (sc := defScope s_prices_in) (by first | decide +kernel | rfl), ⟨[2], by decide, fun _ _ _ _ _ => (mg_name 2 sc.nd)⟩, fun _ _ _ _ _ => mts_nil, fun _ _ _ _ _ => (me_n (mn_call h_is_plain (hr.mono (by decide)) rfl T.g_is_plain T.k_is_plain (ma_v (me_q (mq_pl (mp_var 2))) ma_nil))), ⟨sh, H⟩⟩))))))))))))
  (mss_one (ms_ret (mx_e m_non)))
  mss_nil)
  (mss_one (ms_ret (mx_n (mn_lc (own := ([("word", 2)] : List (Str × Nat))) rfl sc.nd ⟨(mj_any (mq_e (m_sl (mq_pl (mp_var 1)) (mo_some (mq_e m_int)) mo_none))), blkOk_by (N := ["line", "words", "word"]) (sc := defScope s_prices_in) (by first | decide +kernel | rfl), ⟨[2], by decide, fun _ _ _ _ _ => (mg_name 2 sc.nd)⟩, fun _ _ _ _ _ => mts_nil, fun _ _ _ _ _ => (m_callT gb_int rfl T.z_int (by decide +kernel) (mq_pl (mp_var 2))), ⟨sh, H⟩⟩))))))
  rw [e_prices_in]
  exact fb_mk T.F_prices_in sc (b_prices_in T) body
theorem sc_read_rows : FnScope (["lines", "at", "read", "rows"] : List Str) (["lines", "at", "read"] : List Str) (defScope s_read_rows) := ⟨rfl, rfl, rfl, by decide +kernel, rfl, by decide +kernel, by decide +kernel⟩
theorem b_read_rows (T : Txt K mg cl fa fd) : Binds K (fd 9) (["lines", "at", "read"] : List Str) [] := T.F_read_rows.binds fun _ _ _ _ _ _ us hl => match us, hl with | [_, _, _], _ => rfl
theorem ok_read_rows (T : Txt K mg cl fa fd) : FB P w K mg base cl 1 3 (fa 9) F_read_rows := by
  have sc := sc_read_rows
  have body : ∀ (cdv : Value) (A : Around) (outer : List PySem.Env) (sh : Shared) (H : Hp) (E : XK), Room 0 (A.deeper (envOfC "read_rows" (defScope s_read_rows) sh.heap.objs.size (fa 9) cdv)) → MSs (cxOf CX0 P w K mg base (["lines", "at", "read", "rows"] : List Str) "read_rows" (defScope s_read_rows) (fa 9) cdv A outer sh H E).nox cl (fun _ _ => False) (defBody s_read_rows) S_read_rows := fun cdv A outer sh H E hr =>
  (mss_never _)
  rw [e_read_rows]
  exact fb_mk T.F_read_rows sc (b_read_rows T) body
theorem sc_read_rows_reaches_in : FnScope (["lines", "at", "read", "rows"] : List Str) (["lines", "at", "read"] : List Str) (defScope s_read_rows_reaches_in) := ⟨rfl, rfl, rfl, by decide +kernel, rfl, by decide +kernel, by decide +kernel⟩
theorem b_read_rows_reaches_in (T : Txt K mg cl fa fd) : Binds K (fd 9) (["lines", "at", "read"] : List Str) [] := T.F_read_rows.binds fun _ _ _ _ _ _ us hl => match us, hl with | [_, _, _], _ => rfl
theorem ok_read_rows_reaches_in (T : Txt K mg cl fa fd) (h_reaches_in : FB P w K mg base cl 3 1 (fa 7) F_reaches_in) : FB P w K mg base cl 4 3 (fa 9) F_read_rows_reaches_in := by
  have sc := sc_read_rows_reaches_in
  have body : ∀ (cdv : Value) (A : Around) (outer : List PySem.Env) (sh : Shared) (H : Hp) (E : XK), Room 3 (A.deeper (envOfC "read_rows" (defScope s_read_rows_reaches_in) sh.heap.objs.size (fa 9) cdv)) → MSs (cxOf CX0 P w K mg base (["lines", "at", "read", "rows"] : List Str) "read_rows" (defScope s_read_rows_reaches_in) (fa 9) cdv A outer sh H E).nox cl (fun _ _ => False) (defBody s_read_rows_reaches_in) S_read_rows_reaches_in := fun cdv A outer sh H E hr =>
  (mss_consF (ms_set 3 sc.nd (mx_n (mn_lst ma_nil)))
  (mss_consF (ms_while (t_w (w_and (t_cmp gc_lt (mq_pl (mp_var 1)) (mq_e (m_callB gb_len rfl T.z_len (by decide +kernel) (mq_pl (mp_var 0))))) (w_and1 (t_cmp gc_isnot (mq_e (me_n (mn_callL 2 100 h_reaches_in (hr.mono (by decide)) T.v_reaches_in T.k_reaches_in (ma_v (m_ix (mq_pl (mp_var 0)) (mq_pl (mp_var 1))) ma_nil)))) (mq_e m_non)))))
  (mss_consF (ms_expr (mx_app (mp_var 3) (me_n (mn_callL 2 100 h_reaches_in (hr.mono (by decide)) T.v_reaches_in T.k_reaches_in (ma_v (m_ix (mq_pl (mp_var 0)) (mq_pl (mp_var 1))) ma_nil)))))
  (mss_one (ms_aug 1 gi_iadd sc.nd (mq_e m_int)))) PassesOwn.never)
  (mss_one (ms_fz 3 (ms_ret (mx_e (m_tup (ma_v (me_q (mq_pl (mp_var 3))) (ma_v (me_q (mq_pl (mp_var 1))) ma_nil)))))))))
  rw [e_read_rows_reaches_in]
  exact fb_mk T.F_read_rows sc (b_read_rows_reaches_in T) body
theorem sc_read_rows_plan_piece : FnScope (["lines", "at", "read", "rows"] : List Str) (["lines", "at", "read"] : List Str) (defScope s_read_rows_plan_piece) := ⟨rfl, rfl, rfl, by decide +kernel, rfl, by decide +kernel, by decide +kernel⟩
theorem b_read_rows_plan_piece (T : Txt K mg cl fa fd) : Binds K (fd 9) (["lines", "at", "read"] : List Str) [] := T.F_read_rows.binds fun _ _ _ _ _ _ us hl => match us, hl with | [_, _, _], _ => rfl
theorem ok_read_rows_plan_piece (T : Txt K mg cl fa fd) (h_plan_piece : FB P w K mg base cl 3 1 (fa 5) F_plan_piece) : FB P w K mg base cl 4 3 (fa 9) F_read_rows_plan_piece := by
  have sc := sc_read_rows_plan_piece
  have body : ∀ (cdv : Value) (A : Around) (outer : List PySem.Env) (sh : Shared) (H : Hp) (E : XK), Room 3 (A.deeper (envOfC "read_rows" (defScope s_read_rows_plan_piece) sh.heap.objs.size (fa 9) cdv)) → MSs (cxOf CX0 P w K mg base (["lines", "at", "read", "rows"] : List Str) "read_rows" (defScope s_read_rows_plan_piece) (fa 9) cdv A outer sh H E).nox cl (fun _ _ => False) (defBody s_read_rows_plan_piece) S_read_rows_plan_piece := fun cdv A outer sh H E hr =>
  (mss_consF (ms_set 3 sc.nd (mx_n (mn_lst ma_nil)))
  (mss_consF (ms_while (t_w (w_and (t_cmp gc_lt (mq_pl (mp_var 1)) (mq_e (m_callB gb_len rfl T.z_len (by decide +kernel) (mq_pl (mp_var 0))))) (w_and1 (t_cmp gc_isnot (mq_e (me_n (mn_callL 2 101 h_plan_piece (hr.mono (by decide)) T.v_plan_piece T.k_plan_piece (ma_v (m_ix (mq_pl (mp_var 0)) (mq_pl (mp_var 1))) ma_nil)))) (mq_e m_non)))))
  (mss_consF (ms_expr (mx_app (mp_var 3) (me_n (mn_callL 2 101 h_plan_piece (hr.mono (by decide)) T.v_plan_piece T.k_plan_piece (ma_v (m_ix (mq_pl (mp_var 0)) (mq_pl (mp_var 1))) ma_nil)))))
  (mss_one (ms_aug 1 gi_iadd sc.nd (mq_e m_int)))) PassesOwn.never)
  (mss_one (ms_fz 3 (ms_ret (mx_e (m_tup (ma_v (me_q (mq_pl (mp_var 3))) (ma_v (me_q (mq_pl (mp_var 1))) ma_nil)))))))))
  rw [e_read_rows_plan_piece]
  exact fb_mk T.F_read_rows sc (b_read_rows_plan_piece T) body
theorem sc_read_plan : FnScope (["text", "lines", "pieces", "at", "reaches"] : List Str) (["text"] : List Str) (defScope s_read_plan) := ⟨rfl, rfl, rfl, by decide +kernel, rfl, by decide +kernel, by decide +kernel⟩
theorem b_read_plan (T : Txt K mg cl fa fd) : Binds K (fd 12) (["text"] : List Str) [] := T.F_read_plan.binds fun _ _ _ _ _ _ us hl => match us, hl with | [_], _ => rfl
theorem ok_read_plan (T : Txt K mg cl fa fd) (h_Plan_init__ : FB P w K mg base cl 1 4 (fa 0) F_Plan_init__) (h_prices_in : FB P w K mg base cl 2 1 (fa 8) F_prices_in) (h_read_rows_plan_piece : FB P w K mg base cl 4 3 (fa 9) F_read_rows_plan_piece) (h_read_rows_reaches_in : FB P w K mg base cl 4 3 (fa 9) F_read_rows_reaches_in) : FB P w K mg base cl 5 1 (fa 12) F_read_plan := by
  have sc := sc_read_plan
  have body : ∀ (cdv : Value) (A : Around) (outer : List PySem.Env) (sh : Shared) (H : Hp) (E : XK), Room 4 (A.deeper (envOfC "read_plan" (defScope s_read_plan) sh.heap.objs.size (fa 12) cdv)) → MSs (cxOf CX0 P w K mg base (["text", "lines", "pieces", "at", "reaches"] : List Str) "read_plan" (defScope s_read_plan) (fa 12) cdv A outer sh H E).nox cl (fun _ _ => False) (defBody s_read_plan) S_read_plan := fun cdv A outer sh H E hr =>
  (mss_consF (ms_set 1 sc.nd (mx_e (me_n (mn_split (mq_pl (mp_var 0)) m_str))))
  (mss_consF (ms_if (mu_t (t_cmp (gc_ne hr.units) (mq_e (m_ix (mq_pl (mp_var 1)) (mq_e m_int))) (mq_e m_str)))
  (mss_one (ms_never _))
  mss_nil)
  (mss_consF (ms_asg (mx_e (me_n (mn_call h_read_rows_plan_piece (hr.mono (by decide)) rfl T.g_read_rows T.k_read_rows (ma_v (me_q (mq_pl (mp_var 1))) (ma_v m_int (ma_v (m_globF 101 rfl T.g_plan_piece T.v_plan_piece) ma_nil)))))) (mg_tup rfl (mgs_cons (mg_name 2 sc.nd) (mgs_cons (mg_name 3 sc.nd) mgs_nil))))
  (mss_consF (ms_asg (mx_e (me_n (mn_call h_read_rows_reaches_in (hr.mono (by decide)) rfl T.g_read_rows T.k_read_rows (ma_v (me_q (mq_pl (mp_var 1))) (ma_v (me_q (mq_pl (mp_var 3))) (ma_v (m_globF 100 rfl T.g_reaches_in T.v_reaches_in) ma_nil)))))) (mg_tup rfl (mgs_cons (mg_name 4 sc.nd) (mgs_cons (mg_name 3 sc.nd) mgs_nil))))
  (mss_consF (ms_if (mu_t (t_w (w_or (t_cmp (gc_eq hr.units) (mq_pl (mp_var 3)) (mq_e (m_callB gb_len rfl T.z_len (by decide +kernel) (mq_pl (mp_var 1))))) (w_or (t_not (t_tru (mq_pl (mp_var 4)))) (w_or1 (t_cmp gc_is (mq_e (me_n (mn_call h_prices_in (hr.mono (by decide)) rfl T.g_prices_in T.k_prices_in (ma_v (m_ix (mq_pl (mp_var 1)) (mq_pl (mp_var 3))) ma_nil)))) (mq_e m_non)))))))
  (mss_one (ms_never _))
  mss_nil)
  (mss_consF (ms_if (mu_t (t_cmp gc_lt (mq_e (m_add (mq_pl (mp_var 3)) (mq_e m_int))) (mq_e (m_callB gb_len rfl T.z_len (by decide +kernel) (mq_pl (mp_var 1))))))
  (mss_one (ms_never _))
  mss_nil)
  (mss_one (ms_ret (mx_n (mn_make 9 h_Plan_init__ (hr.mono (by decide)) T.m_Plan T.c_Plan rfl T.g_Plan (ma_v (me_q (mq_pl (mp_var 2))) (ma_v (me_q (mq_pl (mp_var 4))) (ma_v (me_n (mn_call h_prices_in (hr.mono (by decide)) rfl T.g_prices_in T.k_prices_in (ma_v (m_ix (mq_pl (mp_var 1)) (mq_pl (mp_var 3))) ma_nil))) ma_nil)))))))))))))
  rw [e_read_plan]
  exact fb_mk T.F_read_plan sc (b_read_plan T) body
theorem sc_law_cell : FnScope (["_law_script", "_law_k"] : List Str) (["_law_script", "_law_k"] : List Str) (defScope s_law_cell) := ⟨rfl, rfl, rfl, by decide +kernel, rfl, by decide +kernel, by decide +kernel⟩
theorem b_law_cell (T : Txt K mg cl fa fd) : Binds K (fd 13) (["_law_script", "_law_k"] : List Str) [] := T.F_law_cell.binds fun _ _ _ _ _ _ us hl => match us, hl with | [_, _], _ => rfl
theorem ok_law_cell (T : Txt K mg cl fa fd) : FB P w K mg base cl 1 2 (fa 13) F_law_cell := by
  have sc := sc_law_cell
  have body : ∀ (cdv : Value) (A : Around) (outer : List PySem.Env) (sh : Shared) (H : Hp) (E : XK), Room 0 (A.deeper (envOfC "_law_cell" (defScope s_law_cell) sh.heap.objs.size (fa 13) cdv)) → MSs (cxOf CX0 P w K mg base (["_law_script", "_law_k"] : List Str) "_law_cell" (defScope s_law_cell) (fa 13) cdv A outer sh H E).nox cl (fun _ _ => False) (defBody s_law_cell) S_law_cell := fun cdv A outer sh H E hr =>
  (mss_consF (ms_if (mu_t (t_cmp gc_lt (mq_pl (mp_var 1)) (mq_e (m_callB gb_len rfl T.z_len (by decide +kernel) (mq_pl (mp_var 0))))))
  (mss_one (ms_ret (mx_e (m_ix (mq_pl (mp_var 0)) (mq_pl (mp_var 1))))))
  mss_nil)
  (mss_one (ms_ret (mx_e m_int))))
  rw [e_law_cell]
  exact fb_mk T.F_law_cell sc (b_law_cell T) body
theorem sc_law_digits : FnScope (["_law_cell_here", "_law_many", "_law_count", "_law_digits_here", "_law_rest", "_law_k", "_law_mixed"] : List Str) (["_law_cell_here", "_law_many", "_law_count"] : List Str) (defScope s_law_digits) := ⟨rfl, rfl, rfl, by decide +kernel, rfl, by decide +kernel, by decide +kernel⟩
theorem b_law_digits (T : Txt K mg cl fa fd) : Binds K (fd 14) (["_law_cell_here", "_law_many", "_law_count"] : List Str) [] := T.F_law_digits.binds fun _ _ _ _ _ _ us hl => match us, hl with | [_, _, _], _ => rfl
theorem ok_law_digits (T : Txt K mg cl fa fd) : FB P w K mg base cl 1 3 (fa 14) F_law_digits := by
  have sc := sc_law_digits
  have body : ∀ (cdv : Value) (A : Around) (outer : List PySem.Env) (sh : Shared) (H : Hp) (E : XK), Room 0 (A.deeper (envOfC "_law_digits" (defScope s_law_digits) sh.heap.objs.size (fa 14) cdv)) → MSs (cxOf CX0 P w K mg base (["_law_cell_here", "_law_many", "_law_count", "_law_digits_here", "_law_rest", "_law_k", "_law_mixed"] : List Str) "_law_digits" (defScope s_law_digits) (fa 14) cdv A outer sh H E).nox cl (fun _ _ => False) (defBody s_law_digits) S_law_digits := fun cdv A outer sh H E hr =>
  (mss_consF (ms_set 3 sc.nd (mx_n (mn_lst ma_nil)))
  (mss_consF (ms_set 4 sc.nd (mx_e (me_q (mq_pl (mp_var 0)))))
  (mss_consF (ms_for PassesOwn.never rfl (mi_range1 rfl T.z_range (mq_pl (mp_var 2))) (mg_name 5 sc.nd)
  (mss_one (ms_ifJ (mu_t (t_cmp gc_ge (mq_pl (mp_var 0)) (mq_e (m_powK (i := 10) (j := 18) (m_powI (mq_e m_int) (mq_e m_int))))))
  (mss_consF (ms_expr (mx_app (mp_var 3) (m_modI (mq_e (m_callT gb_int rfl T.z_int (by decide +kernel) (mq_pl (mp_var 4)))) (mq_pl (mp_var 1)))))
  (mss_one (ms_set 4 sc.nd (mx_e (m_divI (mq_pl (mp_var 4)) (mq_pl (mp_var 1)))))))
  (mss_consF (ms_set 6 sc.nd (mx_e (m_modI (mq_e (m_callT gb_int rfl T.z_int (by decide +kernel) (mq_e (m_add (mq_e (m_add (mq_e (m_mulI (mq_pl (mp_var 0)) (mq_e m_int))) (mq_e (m_mulI (mq_pl (mp_var 5)) (mq_e m_int))))) (mq_e m_int))))) (mq_e m_int))))
  (mss_consF (ms_set 6 sc.nd (mx_e (m_modI (mq_e (m_callT gb_int rfl T.z_int (by decide +kernel) (mq_e (m_add (mq_e (m_add (mq_e (m_mulI (mq_pl (mp_var 6)) (mq_pl (mp_var 6)))) (mq_e (m_mulI (mq_e m_int) (mq_pl (mp_var 6)))))) (mq_pl (mp_var 5)))))) (mq_e m_int))))
  (mss_one (ms_expr (mx_app (mp_var 3) (m_modI (mq_e (m_callT gb_int rfl T.z_int (by decide +kernel) (mq_e (m_divI (mq_pl (mp_var 6)) (mq_e m_int))))) (mq_pl (mp_var 1)))))))))))
  (mss_one (ms_ret (mx_mv 3))))))
  rw [e_law_digits]
  exact fb_mk T.F_law_digits sc (b_law_digits T) body
theorem sc_law_number : FnScope (["_law_digit", "_law_rest"] : List Str) (["_law_digit"] : List Str) (defScope s_law_number) := ⟨rfl, rfl, rfl, by decide +kernel, rfl, by decide +kernel, by decide +kernel⟩
theorem b_law_number (T : Txt K mg cl fa fd) : Binds K (fd 15) (["_law_digit"] : List Str) [] := T.F_law_number.binds fun _ _ _ _ _ _ us hl => match us, hl with | [_], _ => rfl
theorem ok_law_number (T : Txt K mg cl fa fd) : FB P w K mg base cl 1 1 (fa 15) F_law_number := by
  have sc := sc_law_number
  have body : ∀ (cdv : Value) (A : Around) (outer : List PySem.Env) (sh : Shared) (H : Hp) (E : XK), Room 0 (A.deeper (envOfC "_law_number" (defScope s_law_number) sh.heap.objs.size (fa 15) cdv)) → MSs (cxOf CX0 P w K mg base (["_law_digit", "_law_rest"] : List Str) "_law_number" (defScope s_law_number) (fa 15) cdv A outer sh H E).nox cl (fun _ _ => False) (defBody s_law_number) S_law_number := fun cdv A outer sh H E hr =>
  (mss_consF (ms_set 1 sc.nd (mx_e (m_callT gb_int rfl T.z_int (by decide +kernel) (mq_e (m_divI (mq_pl (mp_var 0)) (mq_e m_int))))))
  (mss_one (ms_ret (mx_e (m_ix (mq_e (m_lst (ma_v m_int (ma_v m_int (ma_v m_int (ma_v m_int (ma_v (m_subI (mq_e m_int) (mq_e m_int)) (ma_v (m_subI (mq_e m_int) (mq_e m_int)) (ma_v (m_add (mq_e (m_mulI (mq_pl (mp_var 1)) (mq_e (m_powK (i := 10) (j := 15) (m_powI (mq_e m_int) (mq_e m_int)))))) (mq_e m_int)) (ma_v (m_subI (mq_e (m_subI (mq_e m_int) (mq_e (m_mulI (mq_pl (mp_var 1)) (mq_e (m_powK (i := 10) (j := 15) (m_powI (mq_e m_int) (mq_e m_int)))))))) (mq_e m_int)) ma_nil)))))))))) (mq_e (m_modI (mq_e (m_callT gb_int rfl T.z_int (by decide +kernel) (mq_pl (mp_var 0)))) (mq_e m_int))))))))
  rw [e_law_number]
  exact fb_mk T.F_law_number sc (b_law_number T) body
theorem sc_law_plan : FnScope (["_law_cell_here", "_law_digits_here", "_law_pieces", "_law_k", "_law_row", "_law_line", "_law_reaches", "_law_width", "_law_part", "_law_prices", "_law_m"] : List Str) (["_law_cell_here"] : List Str) (defScope s_law_plan) := ⟨rfl, rfl, rfl, by decide +kernel, rfl, by decide +kernel, by decide +kernel⟩
theorem b_law_plan (T : Txt K mg cl fa fd) : Binds K (fd 16) (["_law_cell_here"] : List Str) [] := T.F_law_plan.binds fun _ _ _ _ _ _ us hl => match us, hl with | [_], _ => rfl
theorem ok_law_plan (T : Txt K mg cl fa fd) (h_law_digits : FB P w K mg base cl 1 3 (fa 14) F_law_digits) (h_law_number : FB P w K mg base cl 1 1 (fa 15) F_law_number) : FB P w K mg base cl 2 1 (fa 16) F_law_plan := by
  have sc := sc_law_plan
  have body : ∀ (cdv : Value) (A : Around) (outer : List PySem.Env) (sh : Shared) (H : Hp) (E : XK), Room 1 (A.deeper (envOfC "_law_plan" (defScope s_law_plan) sh.heap.objs.size (fa 16) cdv)) → MSs (cxOf CX0 P w K mg base (["_law_cell_here", "_law_digits_here", "_law_pieces", "_law_k", "_law_row", "_law_line", "_law_reaches", "_law_width", "_law_part", "_law_prices", "_law_m"] : List Str) "_law_plan" (defScope s_law_plan) (fa 16) cdv A outer sh H E).nox cl (fun _ _ => False) (defBody s_law_plan) S_law_plan := fun cdv A outer sh H E hr =>
  (mss_consF (ms_set 1 sc.nd (mx_e (me_n (mn_call h_law_digits (hr.mono (by decide)) rfl T.g_law_digits T.k_law_digits (ma_v (me_q (mq_pl (mp_var 0))) (ma_v m_int (ma_v m_int ma_nil)))))))
  (mss_consF (ms_set 2 sc.nd (mx_n (mn_lst ma_nil)))
  (mss_consF (ms_for PassesOwn.never rfl (mi_range1 rfl T.z_range (mq_e (m_modI (mq_e (m_callT gb_int rfl T.z_int (by decide +kernel) (mq_e (m_ix (mq_pl (mp_var 1)) (mq_e m_int))))) (mq_e m_int)))) (mg_name 3 sc.nd)
  (mss_consF (ms_set 4 sc.nd (mx_n (mn_sl (mq_pl (mp_var 1)) (mo_some (mq_e (m_add (mq_e m_int) (mq_e (m_mulI (mq_e m_int) (mq_pl (mp_var 3))))))) (mo_some (mq_e (m_add (mq_e m_int) (mq_e (m_mulI (mq_e m_int) (mq_pl (mp_var 3))))))))))
  (mss_consF (ms_set 5 sc.nd (mx_e (m_tup (ma_v (me_n (mn_call h_law_number (hr.mono (by decide)) rfl T.g_law_number T.k_law_number (ma_v (m_ix (mq_pl (mp_var 4)) (mq_e m_int)) ma_nil))) (ma_v (me_n (mn_call h_law_number (hr.mono (by decide)) rfl T.g_law_number T.k_law_number (ma_v (m_ix (mq_pl (mp_var 4)) (mq_e m_int)) ma_nil))) (ma_v (m_callB gb_abs rfl T.z_abs (by decide +kernel) (mq_e (me_n (mn_call h_law_number (hr.mono (by decide)) rfl T.g_law_number T.k_law_number (ma_v (m_ix (mq_pl (mp_var 4)) (mq_e m_int)) ma_nil))))) ma_nil))))))
  (mss_one (ms_expr (mx_app (mp_var 2) (m_tup (ma_v (m_callB gb_abs rfl T.z_abs (by decide +kernel) (mq_e (me_n (mn_call h_law_number (hr.mono (by decide)) rfl T.g_law_number T.k_law_number (ma_v (m_ix (mq_pl (mp_var 4)) (mq_e m_int)) ma_nil))))) (ma_v (m_callB gb_abs rfl T.z_abs (by decide +kernel) (mq_e (me_n (mn_call h_law_number (hr.mono (by decide)) rfl T.g_law_number T.k_law_number (ma_v (m_ix (mq_pl (mp_var 4)) (mq_e m_int)) ma_nil))))) (ma_v (me_q (mq_pl (mp_var 5))) ma_nil))))))))))
  (mss_consF (ms_set 6 sc.nd (mx_n (mn_lst ma_nil)))
  (mss_consF (ms_for PassesOwn.never rfl (mi_range1 rfl T.z_range (mq_e (m_add (mq_e m_int) (mq_e (m_modI (mq_e (m_callT gb_int rfl T.z_int (by decide +kernel) (mq_e (m_ix (mq_pl (mp_var 1)) (mq_e m_int))))) (mq_e m_int)))))) (mg_name 7 sc.nd)
  (mss_consF (ms_set 4 sc.nd (mx_n (mn_lst ma_nil)))
  (mss_consF (ms_for PassesOwn.never rfl (mi_range1 rfl T.z_range (mq_e (m_modI (mq_e (m_callT gb_int rfl T.z_int (by decide +kernel) (mq_e (m_ix (mq_pl (mp_var 1)) (mq_e m_int))))) (mq_e m_int)))) (mg_name 3 sc.nd)
  (mss_consF (ms_setLcF 8 (own := ([("_law_m", 10)] : List (Str × Nat))) rfl sc.nd ⟨(mj_i (mi_range1 rfl T.z_range (mq_e m_int))), blkOk_by (N := ["_law_cell_here", "_law_digits_here", "_law_pieces", "_law_k", "_law_row", "_law_line", "_law_reaches", "_law_width", "_law_part", "_law_prices", "_law_m"]) (sc := defScope s_law_plan) (by first | decide +kernel | rfl), ⟨[10], by decide, fun _ _ _ _ _ => (mg_name 10 sc.nd)⟩, fun _ _ _ _ _ => mts_nil, fun _ _ _ _ _ => (m_callB gb_abs rfl T.z_abs (by decide +kernel) (mq_e (me_n (mn_call h_law_number (hr.mono (by decide)) rfl T.g_law_number T.k_law_number (ma_v (m_ix (mq_pl (mp_var 1)) (mq_e (m_add (mq_e m_int) (mq_e (m_modI (mq_e (m_callT gb_int rfl T.z_int (by decide +kernel) (mq_e (m_add (mq_e (m_add (mq_e (m_mulI (mq_e m_int) (mq_pl (mp_var 3)))) (mq_e (m_mulI (mq_e m_int) (mq_pl (mp_var 7)))))) (mq_pl (mp_var 10)))))) (mq_e m_int)))))) ma_nil))))), ⟨sh, H⟩⟩ (sw_true rfl rfl rfl (by decide +kernel)))
  (mss_one (ms_expr (mx_app (mp_var 4) (m_tup (ma_v (m_ix (mq_pl (mp_var 8)) (mq_e m_int)) (ma_v (m_if (t_cmp (gc_eq hr.units) (mq_e (m_modI (mq_e (m_callT gb_int rfl T.z_int (by decide +kernel) (mq_e (m_ix (mq_pl (mp_var 1)) (mq_e (m_add (mq_e m_int) (mq_pl (mp_var 3)))))))) (mq_e m_int))) (mq_e m_int)) m_non (m_tup (ma_v (m_ix (mq_pl (mp_var 8)) (mq_e m_int)) (ma_v (m_ix (mq_pl (mp_var 8)) (mq_e m_int)) (ma_v (m_ix (mq_pl (mp_var 8)) (mq_e m_int)) ma_nil))))) ma_nil))))))))
  (mss_one (ms_fz 4 (ms_expr (mx_app (mp_var 6) (me_q (mq_pl (mp_var 4))))))))))
  (mss_consF (ms_setLcF 9 (own := ([("_law_k", 3)] : List (Str × Nat))) rfl sc.nd ⟨(mj_i (mi_range1 rfl T.z_range (mq_e (m_add (mq_e m_int) (mq_e (m_modI (mq_e (m_callT gb_int rfl T.z_int (by decide +kernel) (mq_e (m_ix (mq_pl (mp_var 1)) (mq_e m_int))))) (mq_e m_int))))))), blkOk_by (N := ["_law_cell_here", "_law_digits_here", "_law_pieces", "_law_k", "_law_row", "_law_line", "_law_reaches", "_law_width", "_law_part", "_law_prices", "_law_m"]) (sc := defScope s_law_plan) (by first | decide +kernel | rfl), ⟨[3], by decide, fun _ _ _ _ _ => (mg_name 3 sc.nd)⟩, fun _ _ _ _ _ => mts_nil, fun _ _ _ _ _ => (m_callB gb_abs rfl T.z_abs (by decide +kernel) (mq_e (me_n (mn_call h_law_number (hr.mono (by decide)) rfl T.g_law_number T.k_law_number (ma_v (m_ix (mq_pl (mp_var 1)) (mq_e (m_add (mq_e m_int) (mq_pl (mp_var 3))))) ma_nil))))), ⟨sh, H⟩⟩ (sw_true rfl rfl rfl (by decide +kernel)))
  (mss_one (ms_fz 6 (ms_fz 2 (ms_ret (mx_e (m_tup (ma_v (me_q (mq_pl (mp_var 2))) (ma_v (me_q (mq_pl (mp_var 6))) (ma_v (me_q (mq_pl (mp_var 9))) ma_nil)))))))))))))))
  rw [e_law_plan]
  exact fb_mk T.F_law_plan sc (b_law_plan T) body
theorem sc_law_plan_lines : FnScope (["_law_pieces", "_law_reaches", "_law_prices", "_law_lines", "_law_start", "_law_width", "_law_line", "_law_row", "_law_words", "_law_end", "_law_found", "_law_number_here", "_law_price"] : List Str) (["_law_pieces", "_law_reaches", "_law_prices"] : List Str) (defScope s_law_plan_lines) := ⟨rfl, rfl, rfl, by decide +kernel, rfl, by decide +kernel, by decide +kernel⟩
theorem b_law_plan_lines (T : Txt K mg cl fa fd) : Binds K (fd 17) (["_law_pieces", "_law_reaches", "_law_prices"] : List Str) [] := T.F_law_plan_lines.binds fun _ _ _ _ _ _ us hl => match us, hl with | [_, _, _], _ => rfl
theorem ok_law_plan_lines (T : Txt K mg cl fa fd) : FB P w K mg base cl 1 3 (fa 17) F_law_plan_lines := by
  have sc := sc_law_plan_lines
  have body : ∀ (cdv : Value) (A : Around) (outer : List PySem.Env) (sh : Shared) (H : Hp) (E : XK), Room 0 (A.deeper (envOfC "_law_plan_lines" (defScope s_law_plan_lines) sh.heap.objs.size (fa 17) cdv)) → MSs (cxOf CX0 P w K mg base (["_law_pieces", "_law_reaches", "_law_prices", "_law_lines", "_law_start", "_law_width", "_law_line", "_law_row", "_law_words", "_law_end", "_law_found", "_law_number_here", "_law_price"] : List Str) "_law_plan_lines" (defScope s_law_plan_lines) (fa 17) cdv A outer sh H E).nox cl (fun _ _ => False) (defBody s_law_plan_lines) S_law_plan_lines := fun cdv A outer sh H E hr =>
  (mss_consF (ms_set 3 sc.nd (mx_n (mn_lst (ma_v m_str ma_nil))))
  (mss_consF (ms_for PassesOwn.never rfl (mi_any (me_q (mq_pl (mp_var 0)))) (mg_tup rfl (mgs_cons (mg_name 4 sc.nd) (mgs_cons (mg_name 5 sc.nd) (mgs_cons (mg_name 6 sc.nd) mgs_nil))))
  (mss_one (ms_expr (mx_app (mp_var 3) (m_join (mq_e m_str) (mq_e (m_add (mq_e (m_lst (ma_v m_str (ma_v (m_callT gb_str rfl T.z_str (by decide +kernel) (mq_pl (mp_var 4))) (ma_v (m_callT gb_str rfl T.z_str (by decide +kernel) (mq_pl (mp_var 5))) ma_nil))))) (mq_e (me_n (mn_lc (own := ([("_law_number_here", 11)] : List (Str × Nat))) rfl sc.nd ⟨(mj_any (mq_pl (mp_var 6))), blkOk_by (N := ["_law_pieces", "_law_reaches", "_law_prices", "_law_lines", "_law_start", "_law_width", "_law_line", "_law_row", "_law_words", "_law_end", "_law_found", "_law_number_here", "_law_price"]) (sc := defScope s_law_plan_lines) (by first | decide +kernel | rfl), ⟨[11], by decide, fun _ _ _ _ _ => (mg_name 11 sc.nd)⟩, fun _ _ _ _ _ => mts_nil, fun _ _ _ _ _ => (m_callT gb_str rfl T.z_str (by decide +kernel) (mq_pl (mp_var 11))), ⟨sh, H⟩⟩))))))))))
  (mss_consF (ms_for PassesOwn.never rfl (mi_any (me_q (mq_pl (mp_var 1)))) (mg_name 7 sc.nd)
  (mss_consF (ms_set 8 sc.nd (mx_n (mn_lst (ma_v m_str ma_nil))))
  (mss_consF (ms_for PassesOwn.never rfl (mi_any (me_q (mq_pl (mp_var 7)))) (mg_tup rfl (mgs_cons (mg_name 9 sc.nd) (mgs_cons (mg_name 10 sc.nd) mgs_nil)))
  (mss_one (ms_expr (mx_app (mp_var 8) (m_if (t_cmp gc_is (mq_pl (mp_var 10)) (mq_e m_non)) (m_callT gb_str rfl T.z_str (by decide +kernel) (mq_pl (mp_var 9))) (m_join (mq_e m_str) (mq_e (me_n (mn_lc (own := ([("_law_number_here", 11)] : List (Str × Nat))) rfl sc.nd ⟨(mj_any (mq_e (m_add (mq_e (m_lst (ma_v (me_q (mq_pl (mp_var 9))) ma_nil))) (mq_e (m_callT gb_list rfl T.z_list (by decide +kernel) (mq_pl (mp_var 10))))))), blkOk_by (N := ["_law_pieces", "_law_reaches", "_law_prices", "_law_lines", "_law_start", "_law_width", "_law_line", "_law_row", "_law_words", "_law_end", "_law_found", "_law_number_here", "_law_price"]) (sc := defScope s_law_plan_lines) (by first | decide +kernel | rfl), ⟨[11], by decide, fun _ _ _ _ _ => (mg_name 11 sc.nd)⟩, fun _ _ _ _ _ => mts_nil, fun _ _ _ _ _ => (m_callT gb_str rfl T.z_str (by decide +kernel) (mq_pl (mp_var 11))), ⟨sh, H⟩⟩)))))))))
  (mss_one (ms_expr (mx_app (mp_var 3) (m_join (mq_e m_str) (mq_pl (mp_var 8)))))))))
  (mss_consF (ms_expr (mx_app (mp_var 3) (m_join (mq_e m_str) (mq_e (m_add (mq_e (m_lst (ma_v m_str ma_nil))) (mq_e (me_n (mn_lc (own := ([("_law_price", 12)] : List (Str × Nat))) rfl sc.nd ⟨(mj_any (mq_pl (mp_var 2))), blkOk_by (N := ["_law_pieces", "_law_reaches", "_law_prices", "_law_lines", "_law_start", "_law_width", "_law_line", "_law_row", "_law_words", "_law_end", "_law_found", "_law_number_here", "_law_price"]) (sc := defScope s_law_plan_lines) (by first | decide +kernel | rfl), ⟨[12], by decide, fun _ _ _ _ _ => (mg_name 12 sc.nd)⟩, fun _ _ _ _ _ => mts_nil, fun _ _ _ _ _ => (m_callT gb_str rfl T.z_str (by decide +kernel) (mq_pl (mp_var 12))), ⟨sh, H⟩⟩))))))))
  (mss_one (ms_ret (mx_mv 3)))))))
  rw [e_law_plan_lines]
  exact fb_mk T.F_law_plan_lines sc (b_law_plan_lines T) body
theorem sc_law : FnScope (["_law_script", "_law_pieces", "_law_reaches", "_law_prices", "_law_given", "_law_plan_here", "_law_row", "_law_text", "_law_back"] : List Str) (["_law_script"] : List Str) (defScope s_law) := ⟨rfl, rfl, rfl, by decide +kernel, rfl, by decide +kernel, by decide +kernel⟩
theorem b_law (T : Txt K mg cl fa fd) : Binds K (fd 18) (["_law_script"] : List Str) [] := T.F_law.binds fun _ _ _ _ _ _ us hl => match us, hl with | [_], _ => rfl
theorem ok_law (T : Txt K mg cl fa fd) (h_Plan_init__ : FB P w K mg base cl 1 4 (fa 0) F_Plan_init__) (h_law_cell : FB P w K mg base cl 1 2 (fa 13) F_law_cell) (h_law_plan : FB P w K mg base cl 2 1 (fa 16) F_law_plan) (h_law_plan_lines : FB P w K mg base cl 1 3 (fa 17) F_law_plan_lines) (h_read_plan : FB P w K mg base cl 5 1 (fa 12) F_read_plan) (h_write_plan : FB P w K mg base cl 2 1 (fa 4) F_write_plan) : FnOk P w K mg base CX0 6 (fa 18) (fd 18) (["_law_script"] : List Str) (sp0 K cl 1 F_law) ∧ ∀ A : Around, Room 6 A → FMono F_law := by
  have sc := sc_law
  have body : ∀ (cdv : Value) (A : Around) (outer : List PySem.Env) (sh : Shared) (H : Hp) (E : XK), Room 5 (A.deeper (envOfC "law" (defScope s_law) sh.heap.objs.size (fa 18) cdv)) → MSs (cxOf CX0 P w K mg base (["_law_script", "_law_pieces", "_law_reaches", "_law_prices", "_law_given", "_law_plan_here", "_law_row", "_law_text", "_law_back"] : List Str) "law" (defScope s_law) (fa 18) cdv A outer sh H E).nox cl (fun _ _ => False) (defBody s_law) S_law := fun cdv A outer sh H E hr =>
  (mss_consF (ms_asg (mx_e (me_n (mn_call h_law_plan (hr.mono (by decide)) rfl T.g_law_plan T.k_law_plan (ma_v (me_n (mn_call h_law_cell (hr.mono (by decide)) rfl T.g_law_cell T.k_law_cell (ma_br (mp_var 0) (ma_v m_int ma_nil)))) ma_nil)))) (mg_tup rfl (mgs_cons (mg_name 1 sc.nd) (mgs_cons (mg_name 2 sc.nd) (mgs_cons (mg_name 3 sc.nd) mgs_nil)))))
  (mss_consF (ms_set 4 sc.nd (mx_n (mn_nst (mns_cons (mn_list rfl T.z_list (by decide +kernel) (mq_pl (mp_var 1))) (mns_cons (mn_lcO (own := ([("_law_row", 6)] : List (Str × Nat))) rfl sc.nd (mj_any (mq_pl (mp_var 2))) (blkOk_by (N := ["_law_script", "_law_pieces", "_law_reaches", "_law_prices", "_law_given", "_law_plan_here", "_law_row", "_law_text", "_law_back"]) (sc := defScope s_law) (by first | decide +kernel | rfl)) ⟨[6], by decide, fun _ _ _ _ _ => (mg_name 6 sc.nd)⟩ (fun _ _ _ _ _ => (mn_list rfl T.z_list (by decide +kernel) (mq_pl (mp_var 6)))) ⟨sh, H⟩) (mns_cons (mn_list rfl T.z_list (by decide +kernel) (mq_pl (mp_var 3))) mns_nil))))))
  (mss_consF (ms_set 5 sc.nd (mx_e (me_n (mn_make 9 h_Plan_init__ (hr.mono (by decide)) T.m_Plan T.c_Plan rfl T.g_Plan (ma_br (mp_itm 0 (mp_var 4)) (ma_br (mp_itm 1 (mp_var 4)) (ma_br (mp_itm 2 (mp_var 4)) ma_nil)))))))
  (mss_consF (ms_expr (mx_app (mp_itm 0 (mp_var 4)) (m_tup (ma_v m_int (ma_v m_int (ma_v (m_tup (ma_v m_int (ma_v m_int (ma_v m_int ma_nil)))) ma_nil))))))
  (mss_consF (ms_forApp 4 1 6 PassesOwn.never rfl sc.nd (mp_itm 1 (mp_var 4)) (m_tup (ma_v m_int (ma_v m_non ma_nil))))
  (mss_consF (ms_expr (mx_appO (mp_itm 1 (mp_var 4)) (mn_lst ma_nil)))
  (mss_consF (ms_expr (mx_app (mp_itm 2 (mp_var 4)) m_int))
  (mss_consF (ms_if (mu_t (t_w (w_or (t_cmp (gc_ne hr.units) (mq_pl (mp_fld 7 (mp_var 5))) (mq_pl (mp_var 1))) (w_or (t_cmp (gc_ne hr.units) (mq_pl (mp_fld 23 (mp_var 5))) (mq_pl (mp_var 2))) (w_or1 (t_cmp (gc_ne hr.units) (mq_pl (mp_fld 24 (mp_var 5))) (mq_pl (mp_var 3))))))))
  (mss_one (ms_ret (mx_e m_bl)))
  mss_nil)
  (mss_consF (ms_set 7 sc.nd (mx_e (m_join (mq_e m_str) (mq_e (me_n (mn_call h_law_plan_lines (hr.mono (by decide)) rfl T.g_law_plan_lines T.k_law_plan_lines (ma_v (me_q (mq_pl (mp_var 1))) (ma_v (me_q (mq_pl (mp_var 2))) (ma_v (me_q (mq_pl (mp_var 3))) ma_nil)))))))))
  (mss_consF (ms_if (mu_t (t_cmp (gc_ne hr.units) (mq_e (me_n (mn_call h_write_plan (hr.mono (by decide)) rfl T.g_write_plan T.k_write_plan (ma_v (me_q (mq_pl (mp_var 5))) ma_nil)))) (mq_pl (mp_var 7))))
  (mss_one (ms_ret (mx_e m_bl)))
  mss_nil)
  (mss_consF (ms_set 8 sc.nd (mx_e (me_n (mn_call h_read_plan (hr.mono (by decide)) rfl T.g_read_plan T.k_read_plan (ma_v (me_q (mq_pl (mp_var 7))) ma_nil)))))
  (mss_one (ms_ret (mx_e (m_and (mq_e (m_isC 9 (mq_pl (mp_var 8)) rfl T.z_isinstance rfl T.g_Plan T.c_Plan.2.1 T.ia_Plan T.isp T.itk T.ib_Plan T.ic_Plan)) (m_and (mq_e (m_cmp (gc_eq hr.units) (mq_pl (mp_fld 7 (mp_var 8))) (mq_pl (mp_var 1)))) (m_and (mq_e (m_cmp (gc_eq hr.units) (mq_pl (mp_fld 23 (mp_var 8))) (mq_pl (mp_var 2)))) (m_one (m_cmp (gc_eq hr.units) (mq_pl (mp_fld 24 (mp_var 8))) (mq_pl (mp_var 3)))))))))))))))))))))
  rw [e_law]
  exact fn_mk T.F_law sc body
end
theorem room_law : Room 6 callerA := ⟨rfl, by decide, by decide⟩
theorem all_mk {l : PySem.W.OpenLaw} {w : World} {K : PySem.W.Frag} {h : Heap} {mg : Str → Option Value} (X : K.In h) (G : h.Ns mainGlobals mg) {fa0 : Addr} (hfa : mg "law" = some (.ref fa0))
    {f0 : Addr} {od0 an0 : Option Addr} {sl0 : Array (Option Value)} {oc0 kV0 dc0 pm0 cd0 ct0 : Value}
    {f1 : Addr} {od1 an1 : Option Addr} {sl1 : Array (Option Value)} {oc1 kV1 dc1 pm1 cd1 ct1 : Value}
    {f2 : Addr} {od2 an2 : Option Addr} {sl2 : Array (Option Value)} {oc2 kV2 dc2 pm2 cd2 ct2 : Value}
    {f3 : Addr} {od3 an3 : Option Addr} {sl3 : Array (Option Value)} {oc3 kV3 dc3 pm3 cd3 ct3 : Value}
    {f4 : Addr} {od4 an4 : Option Addr} {sl4 : Array (Option Value)} {oc4 kV4 dc4 pm4 cd4 ct4 : Value}
    {f5 : Addr} {od5 an5 : Option Addr} {sl5 : Array (Option Value)} {oc5 kV5 dc5 pm5 cd5 ct5 : Value}
    {f6 : Addr} {od6 an6 : Option Addr} {sl6 : Array (Option Value)} {oc6 kV6 dc6 pm6 cd6 ct6 : Value}
    {f7 : Addr} {od7 an7 : Option Addr} {sl7 : Array (Option Value)} {oc7 kV7 dc7 pm7 cd7 ct7 : Value}
    {f8 : Addr} {od8 an8 : Option Addr} {sl8 : Array (Option Value)} {oc8 kV8 dc8 pm8 cd8 ct8 : Value}
    {f9 : Addr} {od9 an9 : Option Addr} {sl9 : Array (Option Value)} {oc9 kV9 dc9 pm9 cd9 ct9 : Value}
    {f12 : Addr} {od12 an12 : Option Addr} {sl12 : Array (Option Value)} {oc12 kV12 dc12 pm12 cd12 ct12 : Value}
    {f13 : Addr} {od13 an13 : Option Addr} {sl13 : Array (Option Value)} {oc13 kV13 dc13 pm13 cd13 ct13 : Value}
    {f14 : Addr} {od14 an14 : Option Addr} {sl14 : Array (Option Value)} {oc14 kV14 dc14 pm14 cd14 ct14 : Value}
    {f15 : Addr} {od15 an15 : Option Addr} {sl15 : Array (Option Value)} {oc15 kV15 dc15 pm15 cd15 ct15 : Value}
    {f16 : Addr} {od16 an16 : Option Addr} {sl16 : Array (Option Value)} {oc16 kV16 dc16 pm16 cd16 ct16 : Value}
    {f17 : Addr} {od17 an17 : Option Addr} {sl17 : Array (Option Value)} {oc17 kV17 dc17 pm17 cd17 ct17 : Value}
    {f18 : Addr} {od18 an18 : Option Addr} {sl18 : Array (Option Value)} {oc18 kV18 dc18 pm18 cd18 ct18 : Value}
    {C9 : Addr}
    {tok_DIGITS : Tok}
    {tok_MOST_DIGITS : Tok}
    (ac9 : PySem.W.nsIn K mainGlobals "Plan" = some (some (.ref C9)))
    (a0 : PySem.W.findIn K (.ref C9) "__init__" = some (some (.ref f0)))
    (i0 : PySem.W.isFn K (.ref f0) = true)
    (l0 : K.lookup f0 = some ⟨oc0, od0, .func (PySem.W.fnOf "__init__" "Plan.__init__" (defArgs s_Plan_init__) (defBody s_Plan_init__) (defScope s_Plan_init__) .none kV0 dc0 pm0 an0 cd0 ct0), sl0⟩)
    (c0 : PySem.W.codeIn K cd0 "Plan.__init__" = true)
    (k0 : PySem.W.keepIn K (.ref f0) = true)
    (a1 : PySem.W.nsIn K mainGlobals "is_plain" = some (some (.ref f1)))
    (l1 : K.lookup f1 = some ⟨oc1, od1, .func (PySem.W.fnOf "is_plain" "is_plain" (defArgs s_is_plain) (defBody s_is_plain) (defScope s_is_plain) .none kV1 dc1 pm1 an1 cd1 ct1), sl1⟩)
    (c1 : PySem.W.codeIn K cd1 "is_plain" = true)
    (k1 : PySem.W.keepIn K (.ref f1) = true)
    (a2 : PySem.W.nsIn K mainGlobals "is_signed" = some (some (.ref f2)))
    (l2 : K.lookup f2 = some ⟨oc2, od2, .func (PySem.W.fnOf "is_signed" "is_signed" (defArgs s_is_signed) (defBody s_is_signed) (defScope s_is_signed) .none kV2 dc2 pm2 an2 cd2 ct2), sl2⟩)
    (c2 : PySem.W.codeIn K cd2 "is_signed" = true)
    (k2 : PySem.W.keepIn K (.ref f2) = true)
    (a3 : PySem.W.nsIn K mainGlobals "reach_word" = some (some (.ref f3)))
    (l3 : K.lookup f3 = some ⟨oc3, od3, .func (PySem.W.fnOf "reach_word" "reach_word" (defArgs s_reach_word) (defBody s_reach_word) (defScope s_reach_word) .none kV3 dc3 pm3 an3 cd3 ct3), sl3⟩)
    (c3 : PySem.W.codeIn K cd3 "reach_word" = true)
    (k3 : PySem.W.keepIn K (.ref f3) = true)
    (a4 : PySem.W.nsIn K mainGlobals "write_plan" = some (some (.ref f4)))
    (l4 : K.lookup f4 = some ⟨oc4, od4, .func (PySem.W.fnOf "write_plan" "write_plan" (defArgs s_write_plan) (defBody s_write_plan) (defScope s_write_plan) .none kV4 dc4 pm4 an4 cd4 ct4), sl4⟩)
    (c4 : PySem.W.codeIn K cd4 "write_plan" = true)
    (k4 : PySem.W.keepIn K (.ref f4) = true)
    (a5 : PySem.W.nsIn K mainGlobals "plan_piece" = some (some (.ref f5)))
    (l5 : K.lookup f5 = some ⟨oc5, od5, .func (PySem.W.fnOf "plan_piece" "plan_piece" (defArgs s_plan_piece) (defBody s_plan_piece) (defScope s_plan_piece) .none kV5 dc5 pm5 an5 cd5 ct5), sl5⟩)
    (c5 : PySem.W.codeIn K cd5 "plan_piece" = true)
    (k5 : PySem.W.keepIn K (.ref f5) = true)
    (a6 : PySem.W.nsIn K mainGlobals "reach_in" = some (some (.ref f6)))
    (l6 : K.lookup f6 = some ⟨oc6, od6, .func (PySem.W.fnOf "reach_in" "reach_in" (defArgs s_reach_in) (defBody s_reach_in) (defScope s_reach_in) .none kV6 dc6 pm6 an6 cd6 ct6), sl6⟩)
    (c6 : PySem.W.codeIn K cd6 "reach_in" = true)
    (k6 : PySem.W.keepIn K (.ref f6) = true)
    (a7 : PySem.W.nsIn K mainGlobals "reaches_in" = some (some (.ref f7)))
    (l7 : K.lookup f7 = some ⟨oc7, od7, .func (PySem.W.fnOf "reaches_in" "reaches_in" (defArgs s_reaches_in) (defBody s_reaches_in) (defScope s_reaches_in) .none kV7 dc7 pm7 an7 cd7 ct7), sl7⟩)
    (c7 : PySem.W.codeIn K cd7 "reaches_in" = true)
    (k7 : PySem.W.keepIn K (.ref f7) = true)
    (a8 : PySem.W.nsIn K mainGlobals "prices_in" = some (some (.ref f8)))
    (l8 : K.lookup f8 = some ⟨oc8, od8, .func (PySem.W.fnOf "prices_in" "prices_in" (defArgs s_prices_in) (defBody s_prices_in) (defScope s_prices_in) .none kV8 dc8 pm8 an8 cd8 ct8), sl8⟩)
    (c8 : PySem.W.codeIn K cd8 "prices_in" = true)
    (k8 : PySem.W.keepIn K (.ref f8) = true)
    (a9 : PySem.W.nsIn K mainGlobals "read_rows" = some (some (.ref f9)))
    (l9 : K.lookup f9 = some ⟨oc9, od9, .func (PySem.W.fnOf "read_rows" "read_rows" (defArgs s_read_rows) (defBody s_read_rows) (defScope s_read_rows) .none kV9 dc9 pm9 an9 cd9 ct9), sl9⟩)
    (c9 : PySem.W.codeIn K cd9 "read_rows" = true)
    (k9 : PySem.W.keepIn K (.ref f9) = true)
    (a12 : PySem.W.nsIn K mainGlobals "read_plan" = some (some (.ref f12)))
    (l12 : K.lookup f12 = some ⟨oc12, od12, .func (PySem.W.fnOf "read_plan" "read_plan" (defArgs s_read_plan) (defBody s_read_plan) (defScope s_read_plan) .none kV12 dc12 pm12 an12 cd12 ct12), sl12⟩)
    (c12 : PySem.W.codeIn K cd12 "read_plan" = true)
    (k12 : PySem.W.keepIn K (.ref f12) = true)
    (a13 : PySem.W.nsIn K mainGlobals "_law_cell" = some (some (.ref f13)))
    (l13 : K.lookup f13 = some ⟨oc13, od13, .func (PySem.W.fnOf "_law_cell" "_law_cell" (defArgs s_law_cell) (defBody s_law_cell) (defScope s_law_cell) .none kV13 dc13 pm13 an13 cd13 ct13), sl13⟩)
    (c13 : PySem.W.codeIn K cd13 "_law_cell" = true)
    (k13 : PySem.W.keepIn K (.ref f13) = true)
    (a14 : PySem.W.nsIn K mainGlobals "_law_digits" = some (some (.ref f14)))
    (l14 : K.lookup f14 = some ⟨oc14, od14, .func (PySem.W.fnOf "_law_digits" "_law_digits" (defArgs s_law_digits) (defBody s_law_digits) (defScope s_law_digits) .none kV14 dc14 pm14 an14 cd14 ct14), sl14⟩)
    (c14 : PySem.W.codeIn K cd14 "_law_digits" = true)
    (k14 : PySem.W.keepIn K (.ref f14) = true)
    (a15 : PySem.W.nsIn K mainGlobals "_law_number" = some (some (.ref f15)))
    (l15 : K.lookup f15 = some ⟨oc15, od15, .func (PySem.W.fnOf "_law_number" "_law_number" (defArgs s_law_number) (defBody s_law_number) (defScope s_law_number) .none kV15 dc15 pm15 an15 cd15 ct15), sl15⟩)
    (c15 : PySem.W.codeIn K cd15 "_law_number" = true)
    (k15 : PySem.W.keepIn K (.ref f15) = true)
    (a16 : PySem.W.nsIn K mainGlobals "_law_plan" = some (some (.ref f16)))
    (l16 : K.lookup f16 = some ⟨oc16, od16, .func (PySem.W.fnOf "_law_plan" "_law_plan" (defArgs s_law_plan) (defBody s_law_plan) (defScope s_law_plan) .none kV16 dc16 pm16 an16 cd16 ct16), sl16⟩)
    (c16 : PySem.W.codeIn K cd16 "_law_plan" = true)
    (k16 : PySem.W.keepIn K (.ref f16) = true)
    (a17 : PySem.W.nsIn K mainGlobals "_law_plan_lines" = some (some (.ref f17)))
    (l17 : K.lookup f17 = some ⟨oc17, od17, .func (PySem.W.fnOf "_law_plan_lines" "_law_plan_lines" (defArgs s_law_plan_lines) (defBody s_law_plan_lines) (defScope s_law_plan_lines) .none kV17 dc17 pm17 an17 cd17 ct17), sl17⟩)
    (c17 : PySem.W.codeIn K cd17 "_law_plan_lines" = true)
    (k17 : PySem.W.keepIn K (.ref f17) = true)
    (a18 : PySem.W.nsIn K mainGlobals "law" = some (some (.ref f18)))
    (l18 : K.lookup f18 = some ⟨oc18, od18, .func (PySem.W.fnOf "law" "law" (defArgs s_law) (defBody s_law) (defScope s_law) .none kV18 dc18 pm18 an18 cd18 ct18), sl18⟩)
    (c18 : PySem.W.codeIn K cd18 "law" = true)
    (k18 : PySem.W.keepIn K (.ref f18) = true)
    (pg9 : PySem.W.plainGet K C9 Str.empty = true)
    (hd9 : PySem.W.hasDictIn K C9 = true)
    (po9 : PySem.W.plainOver K C9 = true)
    (sa9 : PySem.W.findIn K (.ref C9) "__setattr__" = some (some (.builtin "object.__setattr__")))
    (mk9 : PySem.W.makesIn K C9 = true)
    (kc9 : PySem.W.keepIn K (.ref C9) = true)
    (n9_7 : PySem.W.findIn K (.ref C9) "pieces" = some none)
    (n9_23 : PySem.W.findIn K (.ref C9) "reaches" = some none)
    (n9_24 : PySem.W.findIn K (.ref C9) "prices" = some none)
    (isp : PySem.W.specialIn K (.builtin "object.__class__") "__get__" = some (some (.builtin "getset_descriptor.__get__")))
    (itk : PySem.W.takesIn K (.builtin "object.__class__") = some true)
    (ia9 : PySem.W.findIn K (.ref C9) "__class__" = some (some (.builtin "object.__class__")))
    (ib9 : PySem.W.mroIn K C9 (.type "object") = some true)
    (z_abs : PySem.W.nsIn K mainGlobals "abs" = some none)
    (z_all : PySem.W.nsIn K mainGlobals "all" = some none)
    (z_int : PySem.W.nsIn K mainGlobals "int" = some none)
    (z_isinstance : PySem.W.nsIn K mainGlobals "isinstance" = some none)
    (z_len : PySem.W.nsIn K mainGlobals "len" = some none)
    (z_list : PySem.W.nsIn K mainGlobals "list" = some none)
    (z_range : PySem.W.nsIn K mainGlobals "range" = some none)
    (z_str : PySem.W.nsIn K mainGlobals "str" = some none)
    (q_DIGITS : PySem.W.nsIn K mainGlobals "DIGITS" = some (some (.str "0123456789" tok_DIGITS)))
    (q_MOST_DIGITS : PySem.W.nsIn K mainGlobals "MOST_DIGITS" = some (some (.int 60 tok_MOST_DIGITS))) :
    ∃ fd : FuncData, (∀ (s : Shared) (v : Value), BindsTo s fd ⟨[v], []⟩ [("_law_script", v)]) ∧ ∀ base : Heap, K.In base → base.Ns mainGlobals mg → FnOk l.prog w K mg base CX0 6 fa0 fd ["_law_script"] (spLaw K) := by
  have e := hfa.symm.trans (PySem.W.mg_of X G a18)
  cases e
  have T : Txt K mg (fun i => match i with | 9 => C9 | 100 => f7 | 101 => f5 | _ => 0) (fun i => match i with | 0 => f0 | 1 => f1 | 2 => f2 | 3 => f3 | 4 => f4 | 5 => f5 | 6 => f6 | 7 => f7 | 8 => f8 | 9 => f9 | 12 => f12 | 13 => f13 | 14 => f14 | 15 => f15 | 16 => f16 | 17 => f17 | 18 => fa0 | _ => 0) (fun i => match i with | 0 => (PySem.W.fnOf "__init__" "Plan.__init__" (defArgs s_Plan_init__) (defBody s_Plan_init__) (defScope s_Plan_init__) .none kV0 dc0 pm0 an0 cd0 ct0) | 1 => (PySem.W.fnOf "is_plain" "is_plain" (defArgs s_is_plain) (defBody s_is_plain) (defScope s_is_plain) .none kV1 dc1 pm1 an1 cd1 ct1) | 2 => (PySem.W.fnOf "is_signed" "is_signed" (defArgs s_is_signed) (defBody s_is_signed) (defScope s_is_signed) .none kV2 dc2 pm2 an2 cd2 ct2) | 3 => (PySem.W.fnOf "reach_word" "reach_word" (defArgs s_reach_word) (defBody s_reach_word) (defScope s_reach_word) .none kV3 dc3 pm3 an3 cd3 ct3) | 4 => (PySem.W.fnOf "write_plan" "write_plan" (defArgs s_write_plan) (defBody s_write_plan) (defScope s_write_plan) .none kV4 dc4 pm4 an4 cd4 ct4) | 5 => (PySem.W.fnOf "plan_piece" "plan_piece" (defArgs s_plan_piece) (defBody s_plan_piece) (defScope s_plan_piece) .none kV5 dc5 pm5 an5 cd5 ct5) | 6 => (PySem.W.fnOf "reach_in" "reach_in" (defArgs s_reach_in) (defBody s_reach_in) (defScope s_reach_in) .none kV6 dc6 pm6 an6 cd6 ct6) | 7 => (PySem.W.fnOf "reaches_in" "reaches_in" (defArgs s_reaches_in) (defBody s_reaches_in) (defScope s_reaches_in) .none kV7 dc7 pm7 an7 cd7 ct7) | 8 => (PySem.W.fnOf "prices_in" "prices_in" (defArgs s_prices_in) (defBody s_prices_in) (defScope s_prices_in) .none kV8 dc8 pm8 an8 cd8 ct8) | 9 => (PySem.W.fnOf "read_rows" "read_rows" (defArgs s_read_rows) (defBody s_read_rows) (defScope s_read_rows) .none kV9 dc9 pm9 an9 cd9 ct9) | 12 => (PySem.W.fnOf "read_plan" "read_plan" (defArgs s_read_plan) (defBody s_read_plan) (defScope s_read_plan) .none kV12 dc12 pm12 an12 cd12 ct12) | 13 => (PySem.W.fnOf "_law_cell" "_law_cell" (defArgs s_law_cell) (defBody s_law_cell) (defScope s_law_cell) .none kV13 dc13 pm13 an13 cd13 ct13) | 14 => (PySem.W.fnOf "_law_digits" "_law_digits" (defArgs s_law_digits) (defBody s_law_digits) (defScope s_law_digits) .none kV14 dc14 pm14 an14 cd14 ct14) | 15 => (PySem.W.fnOf "_law_number" "_law_number" (defArgs s_law_number) (defBody s_law_number) (defScope s_law_number) .none kV15 dc15 pm15 an15 cd15 ct15) | 16 => (PySem.W.fnOf "_law_plan" "_law_plan" (defArgs s_law_plan) (defBody s_law_plan) (defScope s_law_plan) .none kV16 dc16 pm16 an16 cd16 ct16) | 17 => (PySem.W.fnOf "_law_plan_lines" "_law_plan_lines" (defArgs s_law_plan_lines) (defBody s_law_plan_lines) (defScope s_law_plan_lines) .none kV17 dc17 pm17 an17 cd17 ct17) | 18 => (PySem.W.fnOf "law" "law" (defArgs s_law) (defBody s_law) (defScope s_law) .none kV18 dc18 pm18 an18 cd18 ct18) | _ => (PySem.W.fnOf "law" "law" (defArgs s_law) (defBody s_law) (defScope s_law) .none kV18 dc18 pm18 an18 cd18 ct18)) := by
    constructor
    case k_Plan_init__ => exact k0
    case F_Plan_init__ => exact fun_mk (st := s_Plan_init__) l0 c0 k0
    case g_is_plain => exact PySem.W.mg_of X G a1
    case k_is_plain => exact k1
    case F_is_plain => exact fun_mk (st := s_is_plain) l1 c1 k1
    case g_is_signed => exact PySem.W.mg_of X G a2
    case k_is_signed => exact k2
    case F_is_signed => exact fun_mk (st := s_is_signed) l2 c2 k2
    case g_reach_word => exact PySem.W.mg_of X G a3
    case k_reach_word => exact k3
    case F_reach_word => exact fun_mk (st := s_reach_word) l3 c3 k3
    case g_write_plan => exact PySem.W.mg_of X G a4
    case k_write_plan => exact k4
    case F_write_plan => exact fun_mk (st := s_write_plan) l4 c4 k4
    case g_plan_piece => exact PySem.W.mg_of X G a5
    case k_plan_piece => exact k5
    case F_plan_piece => exact fun_mk (st := s_plan_piece) l5 c5 k5
    case g_reach_in => exact PySem.W.mg_of X G a6
    case k_reach_in => exact k6
    case F_reach_in => exact fun_mk (st := s_reach_in) l6 c6 k6
    case g_reaches_in => exact PySem.W.mg_of X G a7
    case k_reaches_in => exact k7
    case F_reaches_in => exact fun_mk (st := s_reaches_in) l7 c7 k7
    case g_prices_in => exact PySem.W.mg_of X G a8
    case k_prices_in => exact k8
    case F_prices_in => exact fun_mk (st := s_prices_in) l8 c8 k8
    case g_read_rows => exact PySem.W.mg_of X G a9
    case k_read_rows => exact k9
    case F_read_rows => exact fun_mk (st := s_read_rows) l9 c9 k9
    case g_read_plan => exact PySem.W.mg_of X G a12
    case k_read_plan => exact k12
    case F_read_plan => exact fun_mk (st := s_read_plan) l12 c12 k12
    case g_law_cell => exact PySem.W.mg_of X G a13
    case k_law_cell => exact k13
    case F_law_cell => exact fun_mk (st := s_law_cell) l13 c13 k13
    case g_law_digits => exact PySem.W.mg_of X G a14
    case k_law_digits => exact k14
    case F_law_digits => exact fun_mk (st := s_law_digits) l14 c14 k14
    case g_law_number => exact PySem.W.mg_of X G a15
    case k_law_number => exact k15
    case F_law_number => exact fun_mk (st := s_law_number) l15 c15 k15
    case g_law_plan => exact PySem.W.mg_of X G a16
    case k_law_plan => exact k16
    case F_law_plan => exact fun_mk (st := s_law_plan) l16 c16 k16
    case g_law_plan_lines => exact PySem.W.mg_of X G a17
    case k_law_plan_lines => exact k17
    case F_law_plan_lines => exact fun_mk (st := s_law_plan_lines) l17 c17 k17
    case g_law => exact PySem.W.mg_of X G a18
    case k_law => exact k18
    case F_law => exact fun_mk (st := s_law) l18 c18 k18
    case v_reaches_in => rfl
    case v_plan_piece => rfl
    case z_abs => exact PySem.W.mg_none_of X G z_abs
    case z_all => exact PySem.W.mg_none_of X G z_all
    case z_int => exact PySem.W.mg_none_of X G z_int
    case z_isinstance => exact PySem.W.mg_none_of X G z_isinstance
    case z_len => exact PySem.W.mg_none_of X G z_len
    case z_list => exact PySem.W.mg_none_of X G z_list
    case z_range => exact PySem.W.mg_none_of X G z_range
    case z_str => exact PySem.W.mg_none_of X G z_str
    case q_DIGITS => exact ⟨_, PySem.W.mg_of X G q_DIGITS⟩
    case q_MOST_DIGITS => exact ⟨_, PySem.W.mg_of X G q_MOST_DIGITS⟩
    case isp => exact isp
    case itk => exact itk
    case ia_Plan => exact ia9
    case ib_Plan => exact ib9
    case ic_Plan => exact if_pos (beq_self_eq_true _)
    case g_Plan => exact PySem.W.mg_of X G ac9
    case c_Plan => exact cok_mk ⟨pg9, hd9, po9, sa9⟩ (fun f hf => by
      have e : f ∈ [7, 23, 24] := hf
      simp only [List.mem_cons, List.not_mem_nil, or_false] at e
      rcases e with rfl | rfl | rfl
      · exact n9_7
      · exact n9_23
      · exact n9_24)
    case m_Plan => exact ⟨mk9, a0, i0, kc9⟩
  refine ⟨(PySem.W.fnOf "law" "law" (defArgs s_law) (defBody s_law) (defScope s_law) .none kV18 dc18 pm18 an18 cd18 ct18), fun s v => .of_eq rfl, fun base _ _ => ?_⟩
  have h_Plan_init__ := ok_Plan_init__ (P := l.prog) (w := w) (base := base) T
  have h_is_plain := ok_is_plain (P := l.prog) (w := w) (base := base) T
  have h_is_signed := ok_is_signed (P := l.prog) (w := w) (base := base) T h_is_plain
  have h_reach_word := ok_reach_word (P := l.prog) (w := w) (base := base) T
  have h_write_plan := ok_write_plan (P := l.prog) (w := w) (base := base) T h_reach_word
  have h_plan_piece := ok_plan_piece (P := l.prog) (w := w) (base := base) T h_is_plain h_is_signed
  have h_reach_in := ok_reach_in (P := l.prog) (w := w) (base := base) T h_is_plain
  have h_reaches_in := ok_reaches_in (P := l.prog) (w := w) (base := base) T h_reach_in
  have h_prices_in := ok_prices_in (P := l.prog) (w := w) (base := base) T h_is_plain
  have h_read_rows := ok_read_rows (P := l.prog) (w := w) (base := base) T
  have h_read_rows_reaches_in := ok_read_rows_reaches_in (P := l.prog) (w := w) (base := base) T h_reaches_in
  have h_read_rows_plan_piece := ok_read_rows_plan_piece (P := l.prog) (w := w) (base := base) T h_plan_piece
  have h_read_plan := ok_read_plan (P := l.prog) (w := w) (base := base) T h_Plan_init__ h_prices_in h_read_rows_plan_piece h_read_rows_reaches_in
  have h_law_cell := ok_law_cell (P := l.prog) (w := w) (base := base) T
  have h_law_digits := ok_law_digits (P := l.prog) (w := w) (base := base) T
  have h_law_number := ok_law_number (P := l.prog) (w := w) (base := base) T
  have h_law_plan := ok_law_plan (P := l.prog) (w := w) (base := base) T h_law_digits h_law_number
  have h_law_plan_lines := ok_law_plan_lines (P := l.prog) (w := w) (base := base) T
  have hl := ok_law (P := l.prog) (w := w) (base := base) T h_Plan_init__ h_law_cell h_law_plan h_law_plan_lines h_read_plan h_write_plan
  exact law_fn hl.1 (hl.2 callerA room_law) plain_law
theorem walk {l : PySem.W.OpenLaw} {q : Program} {loose : List Str} {XP : (Str → Option Value) → Heap → Prop} {YP : World → Heap → Prop} {d : DefRec} {K : Params → PySem.W.Frag} (hn : l.most = some 63) (hdf : d.params.defaults = [])
    (hY : ∀ (w : World) (h : Heap), YP w h → (K w.params).In h)
    (F : ∀ (w : World) (mg : Str → Option Value) (fa : Addr) (h : Heap), (K w.params).In h → h.Ns mainGlobals mg → mg d.name = some (.ref fa) →
      ∃ fd : FuncData, (∀ (s : Shared) (u : Value), BindsTo s fd ⟨[u], []⟩ [("_law_script", u)]) ∧ ∀ base : Heap, (K w.params).In base → base.Ns mainGlobals mg → FnOk l.prog w (K w.params) mg base CX0 6 fa fd ["_law_script"] (spLaw (K w.params))) :
    PySem.W.WalkO q loose XP YP l.row.toRowW d [] (fun f vs => PySem.call f vs) :=
  L2.walk_of (n := 63) (k := 6) (x := "_law_script") (CX := fun _ => CX0) (sp := fun w => spLaw (K w.params)) hn (by decide) hdf room_law hY F (fun _ _ a ns hl _ hS => ⟨a, ns, rfl, hS, hl, fun _ => rfl⟩) fun _ _ _ _ _ z => z
end C
open PySem PySem.W PyProof.Rows
set_option maxRecDepth 100000 in
set_option maxHeartbeats 0 in
theorem PySem.Challenge.cw_fewestlines_k34_plans_written_and_read_holds : PySem.Challenge.rw_fewestlines_k34_plans_written_and_read.Holds := by
  w_on; o_law; k_head; (case hw => w_witness2)
  k_fill
  refine C.walk (l := PySem.Challenge.rw_fewestlines_k34_plans_written_and_read) rfl rfl (fun w h Y => PySem.W.kIn_of Y) ?F
  case F =>
    intro w mg fa h KX G hmg
    refine' C.all_mk KX G hmg ?ac9 ?a0 ?i0 ?l0 ?c0 ?k0 ?a1 ?l1 ?c1 ?k1 ?a2 ?l2 ?c2 ?k2 ?a3 ?l3 ?c3 ?k3 ?a4 ?l4 ?c4 ?k4 ?a5 ?l5 ?c5 ?k5 ?a6 ?l6 ?c6 ?k6 ?a7 ?l7 ?c7 ?k7 ?a8 ?l8 ?c8 ?k8 ?a9 ?l9 ?c9 ?k9 ?a12 ?l12 ?c12 ?k12 ?a13 ?l13 ?c13 ?k13 ?a14 ?l14 ?c14 ?k14 ?a15 ?l15 ?c15 ?k15 ?a16 ?l16 ?c16 ?k16 ?a17 ?l17 ?c17 ?k17 ?a18 ?l18 ?c18 ?k18 ?pg9 ?hd9 ?po9 ?sa9 ?mk9 ?kc9 ?n9_7 ?n9_23 ?n9_24 ?isp ?itk ?ia9 ?ib9 ?z_abs ?z_all ?z_int ?z_isinstance ?z_len ?z_list ?z_range ?z_str ?q_DIGITS ?q_MOST_DIGITS
    (case ac9 => k_is)
    (case a0 => k_is)
    (case i0 => k_is)
    (case l0 => k_is)
    (case c0 => k_is)
    (case k0 => k_is)
    (case a1 => k_is)
    (case l1 => k_is)
    (case c1 => k_is)
    (case k1 => k_is)
    (case a2 => k_is)
    (case l2 => k_is)
    (case c2 => k_is)
    (case k2 => k_is)
    (case a3 => k_is)
    (case l3 => k_is)
    (case c3 => k_is)
    (case k3 => k_is)
    (case a4 => k_is)
    (case l4 => k_is)
    (case c4 => k_is)
    (case k4 => k_is)
    (case a5 => k_is)
    (case l5 => k_is)
    (case c5 => k_is)
    (case k5 => k_is)
    (case a6 => k_is)
    (case l6 => k_is)
    (case c6 => k_is)
    (case k6 => k_is)
    (case a7 => k_is)
    (case l7 => k_is)
    (case c7 => k_is)
    (case k7 => k_is)
    (case a8 => k_is)
    (case l8 => k_is)
    (case c8 => k_is)
    (case k8 => k_is)
    (case a9 => k_is)
    (case l9 => k_is)
    (case c9 => k_is)
    (case k9 => k_is)
    (case a12 => k_is)
    (case l12 => k_is)
    (case c12 => k_is)
    (case k12 => k_is)
    (case a13 => k_is)
    (case l13 => k_is)
    (case c13 => k_is)
    (case k13 => k_is)
    (case a14 => k_is)
    (case l14 => k_is)
    (case c14 => k_is)
    (case k14 => k_is)
    (case a15 => k_is)
    (case l15 => k_is)
    (case c15 => k_is)
    (case k15 => k_is)
    (case a16 => k_is)
    (case l16 => k_is)
    (case c16 => k_is)
    (case k16 => k_is)
    (case a17 => k_is)
    (case l17 => k_is)
    (case c17 => k_is)
    (case k17 => k_is)
    (case a18 => k_is)
    (case l18 => k_is)
    (case c18 => k_is)
    (case k18 => k_is)
    (case pg9 => k_is)
    (case hd9 => k_is)
    (case po9 => k_is)
    (case sa9 => k_is)
    (case mk9 => k_is)
    (case kc9 => k_is)
    (case n9_7 => k_is)
    (case n9_23 => k_is)
    (case n9_24 => k_is)
    (case isp => k_is)
    (case itk => k_is)
    (case ia9 => k_is)
    (case ib9 => k_is)
    (case z_abs => k_is)
    (case z_all => k_is)
    (case z_int => k_is)
    (case z_isinstance => k_is)
    (case z_len => k_is)
    (case z_list => k_is)
    (case z_range => k_is)
    (case z_str => k_is)
    (case q_DIGITS => k_is)
    (case q_MOST_DIGITS => k_is)
