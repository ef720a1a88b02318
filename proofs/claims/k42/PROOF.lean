import PyProof.Rows.All
import Wide.All
import OpenK.AllK
import Wide.FinOn
import HandS.ForMost
import HandS.Walk
import HandS.ListEq
import HandS.Flow
import HandS.Wide
import HandS.IsInst
import HandS.Style
import HandS.Iter
import HandS.SortInts
import HandS.SortRule
import KE.KItemsList
import HandS.More
import PySem.Challenge.RW_fewestlines_k42_whole_moves_stay_few
set_option Elab.async false
set_option linter.all false
set_option maxRecDepth 100000
set_option maxHeartbeats 4000000
namespace C
open PySem PySem.Spec PyProof.Rows L2

/-! pure values -/
inductive MV where
  | non | bl (b : Bool) | int (i : Int) | str (x : Str)
  | tup (xs : List MV) | lst (xs : List MV) | obj (c : Nat) (xs : List MV)
/-! what stands at a place: a frozen value, an owned list, an owned object, an owned dict -/
inductive OV where
  | fro (m : MV) | lst (ms : List MV) | obj (c : Nat) (os : List OV) | dct (kvs : List (Key × MV))
  /-- the script -/
  | scr (ms : List MV)

/-! the classes' fields -/
def fnT : List Str := ((["error", "count", "_points", "_tops", "_bottoms", "_flat", "_steep", "pieces", "reasons", "marks", "stored", "_levels", "entries", "index", "moves", "edits", "capacity", "_buffer", "_runs", "length", "_closed", "_start", "_fitter", "reaches", "prices", "corrections", "bits", "_index", "_lists", "lines", "at", "store", "base", "journal", "synced", "_serial", "_values", "line"] : List String).map Str.ofString)
def fn (i : Nat) : Str := fnT.getD i Str.empty
theorem fnT_nd : fnT.Nodup := by decide +kernel
/-- 0 Fitter, 1 Cutting, 2 FlatCutting, 3 SpanCutting, 4 Level, 5 Index, 6 Run, 7 Store, 8 Coded, 9 Plan, 10 Outline, 11 Stream, 12 Boxes, 13 View, 14 Cursor, 15 StoreReader, 16 Durable, 17 PlainStore -/
def fsT : List (List Nat) := [[0, 1, 2, 3, 4, 5, 6], [7, 8], [7, 8], [7, 8], [9, 0, 7], [10, 11], [12, 13], [14, 15, 16, 0, 17, 18], [7, 25], [7, 23, 24], [0, 19, 7], [0, 19, 20, 21, 22], [26, 27], [15, 17, 18], [28], [29, 30], [31, 32, 33, 34, 35], [36]]
def fsOf (c : Nat) : List Nat := fsT.getD c []
def ixOf : List Nat → Nat → Option Nat
  | [], _ => none
  | g :: r, f => if g = f then some 0 else (ixOf r f).map (· + 1)
def nf (c : Nat) (vs : List V) : List (Str × V) := ((fsOf c).map fn).zip vs

theorem fn_inj {i j : Nat} (hi : i < 38) (hj : j < 38) (h : fn i = fn j) : i = j := by
  have hl : fnT.length = 38 := by decide +kernel
  unfold fn at h
  rw [List.getD_eq_getElem?_getD, List.getD_eq_getElem?_getD, List.getElem?_eq_getElem (by omega), List.getElem?_eq_getElem (by omega)] at h
  simp only [Option.getD_some] at h
  exact (List.getElem_inj fnT_nd).mp h
theorem fs_lt (c : Nat) : ∀ f ∈ fsOf c, f < 38 := by
  have : ∀ l ∈ fsT, ∀ f ∈ l, f < 38 := by decide
  intro f hf
  unfold fsOf at hf
  by_cases h : c < fsT.length
  · rw [List.getD_eq_getElem?_getD, List.getElem?_eq_getElem h] at hf
    exact this _ (List.getElem_mem h) f hf
  · rw [List.getD_eq_getElem?_getD, List.getElem?_eq_none (by omega)] at hf
    simp at hf
theorem ixOf_lt : ∀ {l : List Nat} {f k : Nat}, ixOf l f = some k → k < l.length
  | [], _, _, h => by simp [ixOf] at h
  | g :: r, f, k, h => by
    unfold ixOf at h
    split at h
    · cases h; simp
    · cases e : ixOf r f with
      | none => rw [e] at h; cases h
      | some j => rw [e] at h; cases h; have := ixOf_lt e; simp; omega
theorem look_zip {f : Nat} (hf : f < 38) : ∀ (l : List Nat) (vs : List V), (∀ g ∈ l, g < 38) → ((l.map fn).zip vs).lookup (fn f) = (ixOf l f).bind (vs[·]?)
  | [], vs, _ => by simp [ixOf]
  | g :: r, [], _ => by
    simp only [List.map_cons, List.zip_nil_right, List.lookup_nil]
    cases ixOf (g :: r) f <;> simp
  | g :: r, v :: vs, hl => by
    have ih := look_zip hf r vs fun x hx => hl x (List.mem_cons_of_mem _ hx)
    simp only [List.map_cons, List.zip_cons_cons, List.lookup_cons]
    unfold ixOf
    by_cases e : g = f
    · subst e; simp
    · have : (fn f == fn g) = false := beq_eq_false_iff_ne.mpr fun q => e (fn_inj (hl g List.mem_cons_self) hf q.symm)
      rw [this, if_neg e, ih]
      cases ixOf r f <;> simp
theorem put_zip {f : Nat} (hf : f < 38) {v : V} : ∀ (l : List Nat) (vs : List V) (k : Nat), (∀ g ∈ l, g < 38) → ixOf l f = some k → k < vs.length → putF (fn f) v ((l.map fn).zip vs) = (l.map fn).zip (vs.set k v)
  | [], _, _, _, h, _ => by simp [ixOf] at h
  | g :: r, [], _, _, _, h => by simp at h
  | g :: r, x :: vs, k, hl, h, hk => by
    unfold ixOf at h
    by_cases e : g = f
    · subst e
      rw [if_pos rfl] at h; cases h
      simp [putF]
    · rw [if_neg e] at h
      cases q : ixOf r f with
      | none => rw [q] at h; cases h
      | some j =>
        rw [q] at h; cases h
        have ih := put_zip hf (v := v) r vs j (fun x hx => hl x (List.mem_cons_of_mem _ hx)) q (by simpa using hk)
        have ne : ¬ fn g = fn f := fun z => e (fn_inj (hl g List.mem_cons_self) hf z)
        simp only [List.map_cons, List.zip_cons_cons, putF, if_neg ne, List.set_cons_succ, ih]
theorem put_new {f : Nat} (hf : f < 38) {v : V} : ∀ (l : List Nat) (vs : List V), (∀ g ∈ l, g < 38) → ixOf l f = some vs.length → putF (fn f) v ((l.map fn).zip vs) = (l.map fn).zip (vs ++ [v])
  | [], _, _, h => by simp [ixOf] at h
  | g :: r, [], hl, h => by
    unfold ixOf at h
    by_cases e : g = f
    · subst e; simp [putF]
    · rw [if_neg e] at h
      cases q : ixOf r f with
      | none => rw [q] at h; cases h
      | some j => rw [q] at h; simp at h
  | g :: r, x :: vs, hl, h => by
    unfold ixOf at h
    by_cases e : g = f
    · rw [if_pos e] at h; simp at h
    · rw [if_neg e] at h
      cases q : ixOf r f with
      | none => rw [q] at h; cases h
      | some j =>
        rw [q] at h
        have hj : j = vs.length := by simpa using h
        have ih := put_new hf (v := v) r vs (fun x hx => hl x (List.mem_cons_of_mem _ hx)) (by rw [q, hj])
        have ne : ¬ fn g = fn f := fun z => e (fn_inj (hl g List.mem_cons_self) hf z)
        simp only [List.map_cons, List.zip_cons_cons, putF, if_neg ne, List.cons_append, ih]

def COk (K : PySem.W.Frag) (cl : Nat → Addr) (c n : Nat) : Prop := n ≤ (fsOf c).length ∧ Cls K (cl c) ∧ ∀ f ∈ fsOf c, NoAttr K (cl c) (fn f)
section
variable (K : PySem.W.Frag) (cl : Nat → Addr)
/-! a frozen value in a heap -/
mutual
def Rep (G : Hp) : MV → V → Prop
  | .non, v => v = .non
  | .bl b, v => v = .bl b
  | .int i, v => v = .int i
  | .str x, v => v = .str x
  | .tup ms, v => ∃ a vs, v = .ref a ∧ SqT K G a vs ∧ Reps G ms vs
  | .lst ms, v => ∃ a vs, v = .ref a ∧ G a = some (.lst vs) ∧ Reps G ms vs
  | .obj c ms, v => ∃ a dx vs, v = .ref a ∧ G a = some (.ins (cl c) dx (nf c vs)) ∧ COk K cl c vs.length ∧ Reps G ms vs
def Reps (G : Hp) : List MV → List V → Prop
  | [], vs => vs = []
  | m :: ms, vs => ∃ v ws, vs = v :: ws ∧ Rep G m v ∧ Reps G ms ws
end
/-! a place that is read -/
mutual
def RepB (H G : Hp) : OV → V → Prop
  | .fro m, v => Rep K cl G m v
  | .lst ms, v => ∃ a vs, v = .ref a ∧ H a = some (.lst vs) ∧ Reps K cl G ms vs
  | .scr ms, v => ∃ a vs, v = .ref a ∧ SqL K H a vs ∧ Reps K cl G ms vs
  | .dct kvs, v => ∃ a vs, v = .ref a ∧ H a = some (.dK vs) ∧ vs.map (·.1) = kvs.map (·.1) ∧ Reps K cl G (kvs.map (·.2)) (vs.map (·.2))
  | .obj c os, v => ∃ a dx vs, v = .ref a ∧ H a = some (.ins (cl c) dx (nf c vs)) ∧ COk K cl c vs.length ∧ RepBs H G os vs
def RepBs (H G : Hp) : List OV → List V → Prop
  | [], vs => vs = []
  | o :: os, vs => ∃ v ws, vs = v :: ws ∧ RepB H G o v ∧ RepBs H G os ws
end
/-! a place that is owned: its footprint fp -/
mutual
def RepO (H G : Hp) : OV → V → List Addr → Prop
  | .fro m, v, fp => fp = [] ∧ Rep K cl G m v
  | .scr ms, v, fp => False
  | .lst ms, v, fp => ∃ a vs, v = .ref a ∧ fp = [a] ∧ H a = some (.lst vs) ∧ Reps K cl G ms vs
  | .dct kvs, v, fp => ∃ a vs, v = .ref a ∧ fp = [a] ∧ H a = some (.dK vs) ∧ vs.map (·.1) = kvs.map (·.1) ∧ Reps K cl G (kvs.map (·.2)) (vs.map (·.2))
  | .obj c os, v, fp => ∃ a dx vs fq, v = .ref a ∧ fp = a :: fq ∧ H a = some (.ins (cl c) dx (nf c vs)) ∧ COk K cl c vs.length ∧ RepOs H G os vs fq ∧ a ∉ fq
def RepOs (H G : Hp) : List OV → List V → List Addr → Prop
  | [], vs, fp => vs = [] ∧ fp = []
  | o :: os, vs, fp => ∃ v ws f1 f2, vs = v :: ws ∧ fp = f1 ++ f2 ∧ RepO H G o v f1 ∧ RepOs H G os ws f2 ∧ ∀ b ∈ f1, b ∉ f2
end
end

section
variable {K : PySem.W.Frag} {cl : Nat → Addr} {H H' G G' : Hp}
theorem sqT_same {a : Addr} {xs : List V} (e : Same G G') (h : SqT K G a xs) : SqT K G' a xs := by
  rcases h with (h | ⟨o, h⟩) | h
  · exact .inl (.inl (e _ _ h))
  · exact .inl (.inr ⟨o, e _ _ h⟩)
  · exact .inr h
mutual
theorem Rep.same (e : Same G G') : ∀ (m : MV) (v : V), Rep K cl G m v → Rep K cl G' m v
  | .non, _, h => h
  | .bl _, _, h => h
  | .int _, _, h => h
  | .str _, _, h => h
  | .tup ms, v, h => by
    unfold Rep at h ⊢
    obtain ⟨a, vs, h1, h2, h3⟩ := h
    exact ⟨a, vs, h1, sqT_same e h2, Reps.same e ms vs h3⟩
  | .lst ms, v, h => by
    unfold Rep at h ⊢
    obtain ⟨a, vs, h1, h2, h3⟩ := h
    exact ⟨a, vs, h1, e _ _ h2, Reps.same e ms vs h3⟩
  | .obj c ms, v, h => by
    unfold Rep at h ⊢
    obtain ⟨a, dx, vs, h1, h2, h4, h3⟩ := h
    exact ⟨a, dx, vs, h1, e _ _ h2, h4, Reps.same e ms vs h3⟩
theorem Reps.same (e : Same G G') : ∀ (ms : List MV) (vs : List V), Reps K cl G ms vs → Reps K cl G' ms vs
  | [], _, h => h
  | m :: ms, vs, h => by
    unfold Reps at h ⊢
    obtain ⟨v, ws, h1, h2, h3⟩ := h
    exact ⟨v, ws, h1, Rep.same e m v h2, Reps.same e ms ws h3⟩
end
mutual
theorem RepB.same (e : Same H H') (g : Same G G') : ∀ (o : OV) (v : V), RepB K cl H G o v → RepB K cl H' G' o v
  | .fro m, v, h => by
    unfold RepB at h ⊢
    exact Rep.same g m v h
  | .lst ms, v, h => by
    unfold RepB at h ⊢
    obtain ⟨a, vs, h1, h2, h3⟩ := h
    exact ⟨a, vs, h1, e _ _ h2, Reps.same g ms vs h3⟩
  | .scr ms, v, h => by
    unfold RepB at h ⊢
    obtain ⟨a, vs, h1, h2, h3⟩ := h
    exact ⟨a, vs, h1, e.seq h2, Reps.same g ms vs h3⟩
  | .dct kvs, v, h => by
    unfold RepB at h ⊢
    obtain ⟨a, vs, h1, h2, h4, h3⟩ := h
    exact ⟨a, vs, h1, e _ _ h2, h4, Reps.same g _ _ h3⟩
  | .obj c os, v, h => by
    unfold RepB at h ⊢
    obtain ⟨a, dx, vs, h1, h2, h4, h3⟩ := h
    exact ⟨a, dx, vs, h1, e _ _ h2, h4, RepBs.same e g os vs h3⟩
theorem RepBs.same (e : Same H H') (g : Same G G') : ∀ (os : List OV) (vs : List V), RepBs K cl H G os vs → RepBs K cl H' G' os vs
  | [], _, h => by
    unfold RepBs at h ⊢
    exact h
  | o :: os, vs, h => by
    unfold RepBs at h ⊢
    obtain ⟨v, ws, h1, h2, h3⟩ := h
    exact ⟨v, ws, h1, RepB.same e g o v h2, RepBs.same e g os ws h3⟩
end
mutual
theorem RepO.b : ∀ (o : OV) (v : V) (fp : List Addr), RepO K cl H G o v fp → RepB K cl H G o v
  | .fro m, v, fp, h => by
    unfold RepO at h; unfold RepB
    exact h.2
  | .lst ms, v, fp, h => by
    unfold RepO at h; unfold RepB
    obtain ⟨a, vs, h1, _, h2, h3⟩ := h
    exact ⟨a, vs, h1, h2, h3⟩
  | .scr ms, v, fp, h => by
    unfold RepO at h
    exact h.elim
  | .dct kvs, v, fp, h => by
    unfold RepO at h; unfold RepB
    obtain ⟨a, vs, h1, _, h2, h4, h3⟩ := h
    exact ⟨a, vs, h1, h2, h4, h3⟩
  | .obj c os, v, fp, h => by
    unfold RepO at h; unfold RepB
    obtain ⟨a, dx, vs, fq, h1, _, h2, h4, h3, _⟩ := h
    exact ⟨a, dx, vs, h1, h2, h4, RepOs.b os vs fq h3⟩
theorem RepOs.b : ∀ (os : List OV) (vs : List V) (fp : List Addr), RepOs K cl H G os vs fp → RepBs K cl H G os vs
  | [], vs, fp, h => by
    unfold RepOs at h; unfold RepBs
    exact h.1
  | o :: os, vs, fp, h => by
    unfold RepOs at h; unfold RepBs
    obtain ⟨v, ws, f1, f2, h1, _, h2, h3, _⟩ := h
    exact ⟨v, ws, h1, RepO.b o v f1 h2, RepOs.b os ws f2 h3⟩
end
/-! the heap matters at the footprint alone -/
mutual
theorem RepO.frame (g : Same G G') : ∀ (o : OV) (v : V) (fp : List Addr), (∀ b ∈ fp, ∀ u, H b = some u → H' b = some u) → RepO K cl H G o v fp → RepO K cl H' G' o v fp
  | .scr ms, v, fp, e, h => by
    unfold RepO at h
    exact h.elim
  | .fro m, v, fp, e, h => by
    unfold RepO at h ⊢
    exact ⟨h.1, Rep.same g m v h.2⟩
  | .lst ms, v, fp, e, h => by
    unfold RepO at h ⊢
    obtain ⟨a, vs, h1, h5, h2, h3⟩ := h
    subst h5
    exact ⟨a, vs, h1, rfl, e a (by simp) _ h2, Reps.same g ms vs h3⟩
  | .dct kvs, v, fp, e, h => by
    unfold RepO at h ⊢
    obtain ⟨a, vs, h1, h5, h2, h4, h3⟩ := h
    subst h5
    exact ⟨a, vs, h1, rfl, e a (by simp) _ h2, h4, Reps.same g _ _ h3⟩
  | .obj c os, v, fp, e, h => by
    unfold RepO at h ⊢
    obtain ⟨a, dx, vs, fq, h1, h5, h2, h4, h3, h6⟩ := h
    subst h5
    exact ⟨a, dx, vs, fq, h1, rfl, e a (by simp) _ h2, h4, RepOs.frame g os vs fq (fun b hb => e b (List.mem_cons_of_mem _ hb)) h3, h6⟩
theorem RepOs.frame (g : Same G G') : ∀ (os : List OV) (vs : List V) (fp : List Addr), (∀ b ∈ fp, ∀ u, H b = some u → H' b = some u) → RepOs K cl H G os vs fp → RepOs K cl H' G' os vs fp
  | [], vs, fp, e, h => by
    unfold RepOs at h ⊢
    exact h
  | o :: os, vs, fp, e, h => by
    unfold RepOs at h ⊢
    obtain ⟨v, ws, f1, f2, h1, h5, h2, h3, h4⟩ := h
    subst h5
    exact ⟨v, ws, f1, f2, h1, rfl, RepO.frame g o v f1 (fun b hb => e b (List.mem_append_left _ hb)) h2, RepOs.frame g os ws f2 (fun b hb => e b (List.mem_append_right _ hb)) h3, h4⟩
end
/-! what is owned is tracked -/
mutual
theorem RepO.there : ∀ (o : OV) (v : V) (fp : List Addr), RepO K cl H G o v fp → ∀ b ∈ fp, H b ≠ none
  | .scr ms, v, fp, h => by
    unfold RepO at h
    exact h.elim
  | .fro m, v, fp, h => by
    unfold RepO at h
    rw [h.1]; simp
  | .lst ms, v, fp, h => by
    unfold RepO at h
    obtain ⟨a, vs, h1, h5, h2, h3⟩ := h
    subst h5
    simp [h2]
  | .dct kvs, v, fp, h => by
    unfold RepO at h
    obtain ⟨a, vs, h1, h5, h2, h4, h3⟩ := h
    subst h5
    simp [h2]
  | .obj c os, v, fp, h => by
    unfold RepO at h
    obtain ⟨a, dx, vs, fq, h1, h5, h2, h4, h3, h6⟩ := h
    subst h5
    intro b hb
    rcases List.mem_cons.mp hb with rfl | hb
    · rw [h2]; simp
    · exact RepOs.there os vs fq h3 b hb
theorem RepOs.there : ∀ (os : List OV) (vs : List V) (fp : List Addr), RepOs K cl H G os vs fp → ∀ b ∈ fp, H b ≠ none
  | [], vs, fp, h => by
    unfold RepOs at h
    rw [h.2]; simp
  | o :: os, vs, fp, h => by
    unfold RepOs at h
    obtain ⟨v, ws, f1, f2, h1, h5, h2, h3, h4⟩ := h
    subst h5
    intro b hb
    rcases List.mem_append.mp hb with hb | hb
    · exact RepO.there o v f1 h2 b hb
    · exact RepOs.there os ws f2 h3 b hb
end
theorem Reps.len : ∀ (ms : List MV) (vs : List V), Reps K cl G ms vs → vs.length = ms.length
  | [], vs, h => by unfold Reps at h; rw [h]; rfl
  | m :: ms, vs, h => by
    unfold Reps at h
    obtain ⟨v, ws, h1, _, h3⟩ := h
    rw [h1, List.length_cons, List.length_cons, Reps.len ms ws h3]
theorem Reps.get : ∀ (ms : List MV) (vs : List V) (i : Nat) (m : MV), Reps K cl G ms vs → ms[i]? = some m → ∃ v, vs[i]? = some v ∧ Rep K cl G m v
  | [], _, _, _, _, e => by simp at e
  | m :: ms, vs, 0, x, h, e => by
    unfold Reps at h
    obtain ⟨v, ws, h1, h2, _⟩ := h
    simp at e; subst e
    exact ⟨v, by simp [h1], h2⟩
  | m :: ms, vs, i + 1, x, h, e => by
    unfold Reps at h
    obtain ⟨v, ws, h1, _, h3⟩ := h
    obtain ⟨w, q1, q2⟩ := Reps.get ms ws i x h3 (by simpa using e)
    exact ⟨w, by simpa [h1] using q1, q2⟩
theorem Reps.app : ∀ (ms ns : List MV) (vs ws : List V), Reps K cl G ms vs → Reps K cl G ns ws → Reps K cl G (ms ++ ns) (vs ++ ws)
  | [], ns, vs, ws, h, h' => by unfold Reps at h; rw [h]; exact h'
  | m :: ms, ns, vs, ws, h, h' => by
    unfold Reps at h
    obtain ⟨v, us, h1, h2, h3⟩ := h
    subst h1
    show Reps K cl G (m :: (ms ++ ns)) (v :: (us ++ ws))
    unfold Reps
    exact ⟨v, us ++ ws, rfl, h2, Reps.app ms ns us ws h3 h'⟩
theorem Reps.one {m : MV} {v : V} (h : Rep K cl G m v) : Reps K cl G [m] [v] := by
  unfold Reps
  exact ⟨v, [], rfl, h, by unfold Reps; rfl⟩
theorem Reps.nil : Reps K cl G [] [] := by unfold Reps; rfl
theorem Reps.cons {m : MV} {v : V} {ms : List MV} {vs : List V} (h : Rep K cl G m v) (h' : Reps K cl G ms vs) : Reps K cl G (m :: ms) (v :: vs) := by
  unfold Reps
  exact ⟨v, vs, rfl, h, h'⟩
theorem Reps.drop : ∀ (n : Nat) (ms : List MV) (vs : List V), Reps K cl G ms vs → Reps K cl G (ms.drop n) (vs.drop n)
  | 0, ms, vs, h => h
  | n + 1, [], vs, h => by unfold Reps at h; rw [h]; exact Reps.nil
  | n + 1, m :: ms, vs, h => by
    unfold Reps at h
    obtain ⟨v, us, h1, h2, h3⟩ := h
    subst h1
    exact Reps.drop n ms us h3
theorem Reps.take : ∀ (n : Nat) (ms : List MV) (vs : List V), Reps K cl G ms vs → Reps K cl G (ms.take n) (vs.take n)
  | 0, ms, vs, h => Reps.nil
  | n + 1, [], vs, h => by unfold Reps at h; rw [h]; exact Reps.nil
  | n + 1, m :: ms, vs, h => by
    unfold Reps at h
    obtain ⟨v, us, h1, h2, h3⟩ := h
    subst h1
    exact Reps.cons h2 (Reps.take n ms us h3)
theorem Reps.set : ∀ (i : Nat) (ms : List MV) (vs : List V) (m : MV) (v : V), Reps K cl G ms vs → Rep K cl G m v → Reps K cl G (ms.set i m) (vs.set i v)
  | _, [], vs, _, _, h, _ => by unfold Reps at h; rw [h]; exact Reps.nil
  | 0, x :: ms, vs, m, v, h, h' => by
    unfold Reps at h
    obtain ⟨u, us, h1, h2, h3⟩ := h
    subst h1
    exact Reps.cons h' h3
  | i + 1, x :: ms, vs, m, v, h, h' => by
    unfold Reps at h
    obtain ⟨u, us, h1, h2, h3⟩ := h
    subst h1
    exact Reps.cons h2 (Reps.set i ms us m v h3 h')
theorem Reps.rev : ∀ (ms : List MV) (vs : List V), Reps K cl G ms vs → Reps K cl G ms.reverse vs.reverse
  | [], vs, h => by unfold Reps at h; rw [h]; exact Reps.nil
  | m :: ms, vs, h => by
    unfold Reps at h
    obtain ⟨v, us, h1, h2, h3⟩ := h
    subst h1
    rw [List.reverse_cons, List.reverse_cons]
    exact Reps.app _ _ _ _ (Reps.rev ms us h3) (Reps.one h2)
end
end C
namespace C
open PySem PySem.Spec PyProof.Rows L2

/-- where the def (or the block) began: heap, frozen part, what may be written, the slots -/
structure Bs where
  H : Hp
  G : Hp
  F : Addr → Prop
  σ : L2.St
inductive Slot where
  | un | ow (o : OV) | rf (o : OV) | bo (o : OV)
abbrev Env := List Slot

section
variable (K : PySem.W.Frag) (cl : Nat → Addr)
def SRep (β : Bs) (H G : Hp) (i : Nat) (sv : Option V) : Slot → List Addr → Prop
  | .un, fp => fp = []
  | .ow o, fp => ∃ v, sv = some v ∧ RepO K cl H G o v fp
  | .rf o, fp => ∃ v, sv = some v ∧ β.σ[i]? = some (some v) ∧ RepO K cl H G o v fp
  | .bo o, fp => fp = [] ∧ ∃ v, sv = some v ∧ β.σ[i]? = some (some v) ∧ ∃ Hb : Hp, (∀ b u, Hb b = some u → β.H b = some u ∧ ¬ β.F b) ∧ RepB K cl Hb β.G o v
/-- the state: X is what is owned besides -/
structure R (β : Bs) (σ : L2.St) (H G : Hp) (env : Env) (X : List Addr) : Prop where
  len : env.length = σ.length
  g0 : Same β.G G
  gh : Same G H
  hk : ∀ b u, β.H b = some u → ¬ β.F b → H b = some u
  gk : ∀ b, β.H b ≠ none → ¬ β.F b → β.G b = none → G b = none
  sl : ∃ fp : Nat → List Addr, (∀ i s, env[i]? = some s → SRep K cl β H G i (σ.getD i none) s (fp i)) ∧ (∀ i b, i < env.length → b ∈ fp i → G b = none ∧ (β.H b = none ∨ β.F b)) ∧
    (∀ i j b, i < env.length → j < env.length → b ∈ fp i → b ∈ fp j → i = j) ∧ (∀ b ∈ X, H b ≠ none ∧ G b = none ∧ (β.H b = none ∨ β.F b) ∧ ∀ i, i < env.length → b ∉ fp i)
end
/-- only new things -/
structure Ext (H G H' G' : Hp) : Prop where
  hh : Same H H'
  gg : Same G G'
  gh : Same G' H'
  gn : ∀ b, H b ≠ none → G b = none → G' b = none
theorem Ext.refl {H G : Hp} (h : Same G H) : Ext H G H G := ⟨Same.refl _, Same.refl _, h, fun _ _ q => q⟩
theorem Ext.trans {H G H1 G1 H2 G2 : Hp} (a : Ext H G H1 G1) (b : Ext H1 G1 H2 G2) : Ext H G H2 G2 :=
  ⟨a.hh.trans b.hh, a.gg.trans b.gg, b.gh, fun c h q => b.gn c (by
    cases e : H c with
    | none => exact absurd e h
    | some u => rw [a.hh c u e]; simp) (a.gn c h q)⟩
theorem same_upd {H : Hp} {p : Addr} {o : HO} (h : H p = none) : Same H (upd H p o) := fun b u e => by rw [upd_ne (ne_of_none e h)]; exact e
/-- a new frozen object -/
theorem Ext.new {H G : Hp} {p : Addr} {o : HO} (g : Same G H) (h : H p = none) : Ext H G (upd H p o) (upd G p o) := by
  refine ⟨same_upd h, same_upd (g.free h), fun b u e => ?_, fun b hb q => ?_⟩
  · by_cases z : b = p
    · subst z; rw [upd_same] at e ⊢; exact e
    · rw [upd_ne z] at e ⊢; exact g b u e
  · have z : b ≠ p := fun z => hb (z ▸ h)
    rw [upd_ne z]; exact q
/-- a new object that is not frozen -/
theorem Ext.new0 {H G : Hp} {p : Addr} {o : HO} (g : Same G H) (h : H p = none) : Ext H G (upd H p o) G :=
  ⟨same_upd h, Same.refl _, fun b u e => same_upd h b u (g b u e), fun _ _ q => q⟩

def slotO : Slot → Option OV
  | .un => none
  | .ow o => some o
  | .rf o => some o
  | .bo o => some o
def ownS : Slot → Option OV
  | .ow o => some o
  | .rf o => some o
  | _ => none
def putS : Slot → OV → Slot
  | .ow _, o => .ow o
  | .rf _, o => .rf o
  | s, _ => s
def getO : OV → List Nat → Option OV
  | o, [] => some o
  | .obj c os, f :: p => match ixOf (fsOf c) f with
    | some k => match os[k]? with
      | some o => getO o p
      | none => none
    | none => none
  | .fro (.obj c ms), f :: p => match ixOf (fsOf c) f with
    | some k => match ms[k]? with
      | some m => getO (.fro m) p
      | none => none
    | none => none
  | _, _ :: _ => none
/-- through owned objects alone -/
def ownO : OV → List Nat → Option OV
  | o, [] => some o
  | .obj c os, f :: p => match ixOf (fsOf c) f with
    | some k => match os[k]? with
      | some o => ownO o p
      | none => none
    | none => none
  | _, _ :: _ => none
def setO : OV → List Nat → OV → OV
  | _, [], x => x
  | .obj c os, f :: p, x => match ixOf (fsOf c) f with
    | some k => match os[k]? with
      | some o => .obj c (os.set k (setO o p x))
      | none => .obj c os
    | none => .obj c os
  | o, _ :: _, _ => o
def PAt (K : PySem.W.Frag) (H : Hp) : V → List Nat → V → Prop
  | v, [], w => v = w
  | v, f :: p, w => ∃ a C dx fs u, v = .ref a ∧ H a = some (.ins C dx fs) ∧ (Cls K C ∧ NoAttr K C (fn f)) ∧ fs.lookup (fn f) = some u ∧ PAt K H u p w
theorem ixOf_mem : ∀ {l : List Nat} {f k : Nat}, ixOf l f = some k → f ∈ l
  | [], _, _, h => by simp [ixOf] at h
  | g :: r, f, k, h => by
    unfold ixOf at h
    split at h
    · rename_i e; subst e; exact List.mem_cons_self
    · cases e : ixOf r f with
      | none => rw [e] at h; cases h
      | some j => exact List.mem_cons_of_mem _ (ixOf_mem e)
theorem COk.at {K : PySem.W.Frag} {cl : Nat → Addr} {c n f k : Nat} (h : COk K cl c n) (e : ixOf (fsOf c) f = some k) : Cls K (cl c) ∧ NoAttr K (cl c) (fn f) := ⟨h.2.1, h.2.2 f (ixOf_mem e)⟩

section
variable {K : PySem.W.Frag} {cl : Nat → Addr} {H H' G G' : Hp} {β : Bs} {σ : L2.St} {env : Env} {X : List Addr}
theorem PAt.uniq : ∀ {p : List Nat} {v w w' : V}, PAt K H v p w → PAt K H v p w' → w = w'
  | [], _, _, _, h, h' => h.symm.trans h'
  | f :: p, v, w, w', ⟨a, C, dx, fs, u, h1, h2, _, h3, h4⟩, ⟨a', C', dx', fs', u', g1, g2, _, g3, g4⟩ => by
    rw [h1] at g1; cases g1
    rw [h2] at g2; cases g2
    rw [h3] at g3; cases g3
    exact PAt.uniq h4 g4
theorem RepBs.get : ∀ {os : List OV} {vs : List V} {i : Nat} {o : OV}, RepBs K cl H G os vs → os[i]? = some o → ∃ v, vs[i]? = some v ∧ RepB K cl H G o v
  | [], _, _, _, _, e => by simp at e
  | o :: os, vs, 0, x, h, e => by
    unfold RepBs at h
    obtain ⟨v, ws, h1, h2, _⟩ := h
    simp at e; subst e
    exact ⟨v, by simp [h1], h2⟩
  | o :: os, vs, i + 1, x, h, e => by
    unfold RepBs at h
    obtain ⟨v, ws, h1, _, h3⟩ := h
    obtain ⟨w, q1, q2⟩ := RepBs.get (i := i) h3 (by simpa using e)
    exact ⟨w, by simpa [h1] using q1, q2⟩
theorem nf_look {c f k : Nat} {vs : List V} {u : V} (hf : f < 38) (h : ixOf (fsOf c) f = some k) (e : vs[k]? = some u) : (nf c vs).lookup (fn f) = some u := by
  unfold nf
  rw [look_zip hf _ _ (fs_lt c), h]
  exact e
theorem RepB.place (g : Same G H) : ∀ {p : List Nat} {o o' : OV} {v : V}, (∀ f ∈ p, f < 38) → RepB K cl H G o v → getO o p = some o' → ∃ w, PAt K H v p w ∧ RepB K cl H G o' w
  | [], o, o', v, _, h, e => by
    cases o <;> (simp [getO] at e; subst e; exact ⟨v, rfl, h⟩)
  | f :: p, .obj c os, o', v, hp, h, e => by
    unfold getO at e
    cases q : ixOf (fsOf c) f with
    | none => rw [q] at e; cases e
    | some k =>
      rw [q] at e
      cases r : os[k]? with
      | none => simp only [r] at e; cases e
      | some o1 =>
        simp only [r] at e
        unfold RepB at h
        obtain ⟨a, dx, vs, h1, h2, h3, h4⟩ := h
        obtain ⟨u, hu, hr⟩ := RepBs.get h4 r
        obtain ⟨w, hw, hb⟩ := RepB.place g (fun x hx => hp x (List.mem_cons_of_mem _ hx)) hr e
        exact ⟨w, ⟨a, _, dx, _, u, h1, h2, h3.at q, nf_look (hp f List.mem_cons_self) q hu, hw⟩, hb⟩
  | f :: p, .fro (.obj c ms), o', v, hp, h, e => by
    unfold getO at e
    cases q : ixOf (fsOf c) f with
    | none => rw [q] at e; cases e
    | some k =>
      rw [q] at e
      cases r : ms[k]? with
      | none => simp only [r] at e; cases e
      | some m =>
        simp only [r] at e
        unfold RepB at h
        unfold Rep at h
        obtain ⟨a, dx, vs, h1, h2, h3, h4⟩ := h
        obtain ⟨u, hu, hr⟩ := Reps.get _ _ k m h4 r
        obtain ⟨w, hw, hb⟩ := RepB.place g (o := .fro m) (fun x hx => hp x (List.mem_cons_of_mem _ hx)) (by unfold RepB; exact hr) e
        exact ⟨w, ⟨a, _, dx, _, u, h1, g _ _ h2, h3.at q, nf_look (hp f List.mem_cons_self) q hu, hw⟩, hb⟩
  | f :: p, .lst _, _, _, _, _, e => by simp [getO] at e
  | f :: p, .dct _, _, _, _, _, e => by simp [getO] at e
  | f :: p, .scr _, _, _, _, _, e => by simp [getO] at e
  | f :: p, .fro .non, _, _, _, _, e => by simp [getO] at e
  | f :: p, .fro (.bl _), _, _, _, _, e => by simp [getO] at e
  | f :: p, .fro (.int _), _, _, _, _, e => by simp [getO] at e
  | f :: p, .fro (.str _), _, _, _, _, e => by simp [getO] at e
  | f :: p, .fro (.tup _), _, _, _, _, e => by simp [getO] at e
  | f :: p, .fro (.lst _), _, _, _, _, e => by simp [getO] at e

theorem RepOs.get : ∀ {os : List OV} {vs : List V} {fp : List Addr} {k : Nat} {o : OV}, RepOs K cl H G os vs fp → os[k]? = some o →
    ∃ v fk, vs[k]? = some v ∧ RepO K cl H G o v fk ∧ (∀ b ∈ fk, b ∈ fp) ∧
      ∀ (H' G' : Hp) (o' : OV) (fk' : List Addr) (v' : V), Same G G' → (∀ b ∈ fp, b ∉ fk → ∀ u, H b = some u → H' b = some u) → RepO K cl H' G' o' v' fk' → (∀ b ∈ fk', b ∈ fp → b ∈ fk) →
        ∃ fp', RepOs K cl H' G' (os.set k o') (vs.set k v') fp' ∧ ∀ b ∈ fp', b ∈ fk' ∨ (b ∈ fp ∧ b ∉ fk)
  | [], _, _, _, _, _, e => by simp at e
  | o :: os, vs, fp, 0, x, h, e => by
    unfold RepOs at h
    obtain ⟨v, ws, f1, f2, h1, h5, h2, h3, h4⟩ := h
    simp at e; subst e; subst h1; subst h5
    refine ⟨v, f1, by simp, h2, fun b hb => List.mem_append_left _ hb, fun H' G' o' fk' v' g k r d => ?_⟩
    refine ⟨fk' ++ f2, ?_, fun b hb => ?_⟩
    · show RepOs K cl H' G' (o' :: os) (v' :: ws) _
      unfold RepOs
      refine ⟨v', ws, fk', f2, rfl, rfl, r, RepOs.frame g os ws f2 (fun b hb u q => k b (List.mem_append_right _ hb) (fun z => h4 b z hb) u q) h3, fun b hb z => ?_⟩
      exact h4 b (d b hb (List.mem_append_right _ z)) z
    · rcases List.mem_append.mp hb with hb | hb
      · exact .inl hb
      · exact .inr ⟨List.mem_append_right _ hb, fun z => h4 b z hb⟩
  | o :: os, vs, fp, k + 1, x, h, e => by
    unfold RepOs at h
    obtain ⟨v, ws, f1, f2, h1, h5, h2, h3, h4⟩ := h
    subst h1; subst h5
    obtain ⟨u, fk, q1, q2, q3, q4⟩ := RepOs.get (k := k) h3 (by simpa using e)
    refine ⟨u, fk, by simpa using q1, q2, fun b hb => List.mem_append_right _ (q3 b hb), fun H' G' o' fk' v' g kk r d => ?_⟩
    obtain ⟨fp', r1, r2⟩ := q4 H' G' o' fk' v' g (fun b hb hn => kk b (List.mem_append_right _ hb) hn) r fun b hb z => d b hb (List.mem_append_right _ z)
    refine ⟨f1 ++ fp', ?_, fun b hb => ?_⟩
    · show RepOs K cl H' G' (o :: os.set k o') (v :: ws.set k v') _
      unfold RepOs
      refine ⟨v, _, f1, fp', rfl, rfl, RepO.frame g o v f1 (fun b hb u' q => kk b (List.mem_append_left _ hb) (fun z => h4 b hb (q3 b z)) u' q) h2, r1, fun b hb z => ?_⟩
      rcases r2 b z with z | z
      · have := d b z (List.mem_append_left _ hb)
        exact h4 b hb (q3 b this)
      · exact h4 b hb z.1
    · rcases List.mem_append.mp hb with hb | hb
      · exact .inr ⟨List.mem_append_left _ hb, fun z => h4 b hb (q3 b z)⟩
      · rcases r2 b hb with z | z
        · exact .inl z
        · exact .inr ⟨List.mem_append_right _ z.1, z.2⟩
theorem set_self {α : Type} : ∀ {l : List α} {k : Nat} {v : α}, l[k]? = some v → l.set k v = l
  | [], _, _, h => by simp at h
  | x :: l, 0, v, h => by simp at h; subst h; rfl
  | x :: l, k + 1, v, h => by
    show x :: l.set k v = x :: l
    rw [set_self (l := l) (k := k) (by simpa using h)]
/-- what stands at a path of an owned thing, and what it may be replaced by -/
theorem RepO.sub : ∀ {p : List Nat} {o o1 : OV} {v : V} {fp : List Addr}, (∀ f ∈ p, f < 38) → RepO K cl H G o v fp → ownO o p = some o1 →
    ∃ w f1, PAt K H v p w ∧ RepO K cl H G o1 w f1 ∧ (∀ b ∈ f1, b ∈ fp) ∧
      ∀ (H' G' : Hp) (o' : OV) (f1' : List Addr), Same G G' → (∀ b ∈ fp, b ∉ f1 → ∀ u, H b = some u → H' b = some u) → RepO K cl H' G' o' w f1' → (∀ b ∈ f1', b ∈ fp → b ∈ f1) →
        ∃ fp', RepO K cl H' G' (setO o p o') v fp' ∧ ∀ b ∈ fp', b ∈ f1' ∨ (b ∈ fp ∧ b ∉ f1)
  | [], o, o1, v, fp, _, h, e => by
    have e' : o = o1 := by cases o <;> (simp [ownO] at e; exact e)
    subst e'
    refine ⟨v, fp, rfl, h, fun _ z => z, fun H' G' o' f1' _ _ r _ => ⟨f1', ?_, fun b hb => .inl hb⟩⟩
    have : setO o [] o' = o' := by cases o <;> rfl
    rw [this]; exact r
  | f :: p, .obj c os, o1, v, fp, hp, h, e => by
    unfold ownO at e
    cases q : ixOf (fsOf c) f with
    | none => rw [q] at e; cases e
    | some k =>
      rw [q] at e
      cases r : os[k]? with
      | none => simp only [r] at e; cases e
      | some o2 =>
        simp only [r] at e
        unfold RepO at h
        obtain ⟨a, dx, vs, fq, h1, h5, h2, h3, h4, h6⟩ := h
        subst h1; subst h5
        obtain ⟨u, fk, u1, u2, u3, u4⟩ := RepOs.get h4 r
        obtain ⟨w, f1, w1, w2, w3, w4⟩ := RepO.sub (fun x hx => hp x (List.mem_cons_of_mem _ hx)) u2 e
        have afk : a ∉ f1 := fun z => h6 (u3 a (w3 a z))
        refine ⟨w, f1, ⟨a, _, dx, _, u, rfl, h2, h3.at q, nf_look (hp f List.mem_cons_self) q u1, w1⟩, w2, fun b hb => List.mem_cons_of_mem _ (u3 b (w3 b hb)), fun H' G' o' f1' g kk rr d => ?_⟩
        obtain ⟨fk', s1, s2⟩ := w4 H' G' o' f1' g (fun b hb hn => kk b (List.mem_cons_of_mem _ (u3 b hb)) hn) rr fun b hb z => d b hb (List.mem_cons_of_mem _ (u3 b z))
        have key : ∀ b ∈ fk', b ∈ fq → b ∈ fk := fun b hb z => by
          rcases s2 b hb with y | y
          · exact w3 b (d b y (List.mem_cons_of_mem _ z))
          · exact y.1
        obtain ⟨fq', t1, t2⟩ := u4 H' G' _ fk' u g (fun b hb hn => kk b (List.mem_cons_of_mem _ hb) (fun z => hn (w3 b z))) s1 key
        have hs : setO (.obj c os) (f :: p) o' = .obj c (os.set k (setO o2 p o')) := by
          simp only [setO, q, r]
        refine ⟨a :: fq', ?_, fun b hb => ?_⟩
        · rw [hs]
          unfold RepO
          rw [set_self u1] at t1
          refine ⟨a, dx, vs, fq', rfl, rfl, kk a List.mem_cons_self afk _ h2, h3, t1, fun z => ?_⟩
          rcases t2 a z with y | y
          · rcases s2 a y with y | y
            · exact afk (d a y List.mem_cons_self)
            · exact h6 (u3 a y.1)
          · exact h6 y.1
        · rcases List.mem_cons.mp hb with rfl | hb
          · exact .inr ⟨List.mem_cons_self, afk⟩
          · rcases t2 b hb with y | y
            · rcases s2 b y with y | y
              · exact .inl y
              · exact .inr ⟨List.mem_cons_of_mem _ (u3 b y.1), y.2⟩
            · exact .inr ⟨List.mem_cons_of_mem _ y.1, fun z => y.2 (w3 b z)⟩
  | f :: p, .fro m, _, _, _, _, _, e => by simp [ownO] at e
  | f :: p, .lst _, _, _, _, _, _, e => by simp [ownO] at e
  | f :: p, .dct _, _, _, _, _, _, e => by simp [ownO] at e
  | f :: p, .scr _, _, _, _, _, _, e => by simp [ownO] at e
theorem ownO_get : ∀ {p : List Nat} {o o1 : OV}, ownO o p = some o1 → getO o p = some o1
  | [], o, _, e => by cases o <;> simpa [ownO, getO] using e
  | f :: p, .obj c os, o1, e => by
    unfold ownO at e; unfold getO
    cases q : ixOf (fsOf c) f with
    | none => rw [q] at e; cases e
    | some k =>
      rw [q] at e
      cases r : os[k]? with
      | none => simp only [r] at e; cases e
      | some o2 => simp only [r] at e ⊢; exact ownO_get e
  | f :: p, .fro m, _, e => by simp [ownO] at e
  | f :: p, .lst _, _, e => by simp [ownO] at e
  | f :: p, .dct _, _, e => by simp [ownO] at e
  | f :: p, .scr _, _, e => by simp [ownO] at e
end
end C
namespace C
open PySem PySem.Spec PyProof.Rows L2

def getP (env : Env) (i : Nat) (p : List Nat) : Option OV := match env[i]? with
  | some s => match slotO s with
    | some o => getO o p
    | none => none
  | none => none
def ownP (env : Env) (i : Nat) (p : List Nat) : Option OV := match env[i]? with
  | some s => match ownS s with
    | some o => ownO o p
    | none => none
  | none => none
def setP (env : Env) (i : Nat) (p : List Nat) (x : OV) : Env := match env[i]? with
  | some s => match slotO s with
    | some o => env.set i (putS s (setO o p x))
    | none => env
  | none => env

section
variable {K : PySem.W.Frag} {cl : Nat → Addr} {H H' G G' : Hp} {β : Bs} {σ : L2.St} {env : Env} {X : List Addr}
theorem SRep.there {i : Nat} {sv : Option V} : ∀ {s : Slot} {fp : List Addr}, SRep K cl β H G i sv s fp → ∀ b ∈ fp, H b ≠ none
  | .un, fp, q, b, hb => by unfold SRep at q; rw [q] at hb; cases hb
  | .ow o, fp, q, b, hb => by unfold SRep at q; obtain ⟨v, _, q⟩ := q; exact RepO.there _ _ _ q b hb
  | .rf o, fp, q, b, hb => by unfold SRep at q; obtain ⟨v, _, _, q⟩ := q; exact RepO.there _ _ _ q b hb
  | .bo o, fp, q, b, hb => by unfold SRep at q; rw [q.1] at hb; cases hb
theorem SRep.frame {i : Nat} {sv : Option V} (g : Same G G') : ∀ {s : Slot} {fp : List Addr}, (∀ b ∈ fp, ∀ u, H b = some u → H' b = some u) → SRep K cl β H G i sv s fp → SRep K cl β H' G' i sv s fp
  | .un, fp, e, q => by unfold SRep at q ⊢; exact q
  | .ow o, fp, e, q => by unfold SRep at q ⊢; obtain ⟨v, h1, q⟩ := q; exact ⟨v, h1, RepO.frame g _ _ _ e q⟩
  | .rf o, fp, e, q => by unfold SRep at q ⊢; obtain ⟨v, h1, h2, q⟩ := q; exact ⟨v, h1, h2, RepO.frame g _ _ _ e q⟩
  | .bo o, fp, e, q => by unfold SRep at q ⊢; exact q
theorem R.ext (r : R K cl β σ H G env X) (e : Ext H G H' G') : R K cl β σ H' G' env X := by
  obtain ⟨fp, s1, s2, s3, s4⟩ := r.sl
  refine ⟨r.len, r.g0.trans e.gg, e.gh, fun b u q n => e.hh b u (r.hk b u q n), fun b hb n q => ?_, fp, fun i s hs => (s1 i s hs).frame e.gg fun b _ u h => e.hh b u h, fun i b hi hb => ?_, s3, fun b hb => ?_⟩
  · obtain ⟨u, hu⟩ := Option.ne_none_iff_exists'.mp hb
    exact e.gn b (by rw [r.hk b u hu n]; simp) (r.gk b hb n q)
  · have hs : env[i]? = some env[i] := by simp [hi]
    exact ⟨e.gn b ((s1 i _ hs).there b hb) (s2 i b hi hb).1, (s2 i b hi hb).2⟩
  · obtain ⟨h1, h2, h3, h4⟩ := s4 b hb
    obtain ⟨u, hu⟩ := Option.ne_none_iff_exists'.mp h1
    exact ⟨by rw [e.hh b u hu]; simp, e.gn b h1 h2, h3, h4⟩
theorem R.drop (r : R K cl β σ H G env X) : R K cl β σ H G env [] := by
  obtain ⟨fp, s1, s2, s3, s4⟩ := r.sl
  exact ⟨r.len, r.g0, r.gh, r.hk, r.gk, fp, s1, s2, s3, fun b hb => by cases hb⟩
theorem getD_some {i : Nat} {v : V} (h : σ.getD i none = some v) : σ[i]? = some (some v) := by
  rw [List.getD_eq_getElem?_getD] at h
  cases e : σ[i]? with
  | none => rw [e] at h; cases h
  | some x => rw [e] at h; simp at h; rw [h]
theorem R.rd (r : R K cl β σ H G env X) {i : Nat} {p : List Nat} {o : OV} (hp : ∀ f ∈ p, f < 38) (h : getP env i p = some o) : ∃ v0 w, σ[i]? = some (some v0) ∧ PAt K H v0 p w ∧ RepB K cl H G o w := by
  obtain ⟨fp, s1, s2, s3, s4⟩ := r.sl
  unfold getP at h
  cases e : env[i]? with
  | none => rw [e] at h; cases h
  | some s =>
    rw [e] at h
    have q := s1 i s e
    cases s with
    | un => simp [slotO] at h
    | ow o0 =>
      simp only [slotO] at h
      unfold SRep at q
      obtain ⟨v, h1, q⟩ := q
      obtain ⟨w, q1, q2⟩ := RepB.place r.gh hp (RepO.b _ _ _ q) h
      exact ⟨v, w, getD_some h1, q1, q2⟩
    | rf o0 =>
      simp only [slotO] at h
      unfold SRep at q
      obtain ⟨v, h1, _, q⟩ := q
      obtain ⟨w, q1, q2⟩ := RepB.place r.gh hp (RepO.b _ _ _ q) h
      exact ⟨v, w, getD_some h1, q1, q2⟩
    | bo o0 =>
      simp only [slotO] at h
      unfold SRep at q
      obtain ⟨_, v, h1, _, Hb, hb, q⟩ := q
      obtain ⟨w, q1, q2⟩ := RepB.place r.gh hp (RepB.same (fun b u z => r.hk b u (hb b u z).1 (hb b u z).2) r.g0 _ _ q) h
      exact ⟨v, w, getD_some h1, q1, q2⟩
theorem R.slot (r : R K cl β σ H G env X) {i : Nat} (hi : i < env.length) : ∃ v, σ[i]? = some v := ⟨σ[i]'(by rw [← r.len]; exact hi), by simp⟩
/-- a local is set -/
theorem R.setv (r : R K cl β σ H G env X) {i : Nat} {o : OV} {v : V} (hi : i < env.length) (hr : RepO K cl H G o v X) : R K cl β (σ.set i (some v)) H G (env.set i (.ow o)) [] := by
  obtain ⟨fp, s1, s2, s3, s4⟩ := r.sl
  refine ⟨by rw [List.length_set, List.length_set, r.len], r.g0, r.gh, r.hk, r.gk, fun j => if j = i then X else fp j, fun j s hs => ?_, fun j b hj hb => ?_, fun j k b hj hk h1 h2 => ?_, fun b hb => by cases hb⟩
  all_goals (try dsimp only at *)
  · by_cases e : j = i
    · subst e
      rw [if_pos rfl]
      rw [List.getElem?_set_self hi] at hs
      cases hs
      unfold SRep
      refine ⟨v, ?_, hr⟩
      rw [List.getD_eq_getElem?_getD, List.getElem?_set_self (by rw [← r.len]; exact hi)]
      rfl
    · rw [if_neg e]
      rw [List.getElem?_set_ne (Ne.symm e)] at hs
      have : (σ.set i (some v)).getD j none = σ.getD j none := by rw [List.getD_eq_getElem?_getD, List.getD_eq_getElem?_getD, List.getElem?_set_ne (Ne.symm e)]
      rw [this]
      exact s1 j s hs
  · rw [List.length_set] at hj
    by_cases e : j = i
    · rw [if_pos e] at hb
      exact ⟨(s4 b hb).2.1, (s4 b hb).2.2.1⟩
    · rw [if_neg e] at hb
      exact s2 j b hj hb
  · rw [List.length_set] at hj hk
    by_cases e : j = i
    · by_cases e' : k = i
      · exact e.trans e'.symm
      · rw [if_pos e] at h1; rw [if_neg e'] at h2
        exact absurd h2 ((s4 b h1).2.2.2 k hk)
    · by_cases e' : k = i
      · rw [if_neg e] at h1; rw [if_pos e'] at h2
        exact absurd h1 ((s4 b h2).2.2.2 j hj)
      · rw [if_neg e] at h1; rw [if_neg e'] at h2
        exact s3 j k b hj hk h1 h2
/-- slots forgotten -/
theorem R.unset (r : R K cl β σ H G env X) (i : Nat) : R K cl β (σ.set i none) H G (env.set i .un) X := by
  obtain ⟨fp, s1, s2, s3, s4⟩ := r.sl
  refine ⟨by rw [List.length_set, List.length_set, r.len], r.g0, r.gh, r.hk, r.gk, fun j => if j = i then [] else fp j, fun j s hs => ?_, fun j b hj hb => ?_, fun j k b hj hk h1 h2 => ?_, fun b hb => ?_⟩
  all_goals (try dsimp only at *)
  · by_cases e : j = i
    · subst e
      rw [if_pos rfl]
      have hl : j < env.length := by have := (List.getElem?_eq_some_iff.mp hs).1; rwa [List.length_set] at this
      rw [List.getElem?_set_self hl] at hs
      cases hs
      unfold SRep
      rfl
    · rw [if_neg e]
      rw [List.getElem?_set_ne (Ne.symm e)] at hs
      have : (σ.set i none).getD j none = σ.getD j none := by rw [List.getD_eq_getElem?_getD, List.getD_eq_getElem?_getD, List.getElem?_set_ne (Ne.symm e)]
      rw [this]
      exact s1 j s hs
  · rw [List.length_set] at hj
    by_cases e : j = i
    · rw [if_pos e] at hb; cases hb
    · rw [if_neg e] at hb
      exact s2 j b hj hb
  · rw [List.length_set] at hj hk
    by_cases e : j = i
    · rw [if_pos e] at h1; cases h1
    · by_cases e' : k = i
      · rw [if_pos e'] at h2; cases h2
      · rw [if_neg e] at h1; rw [if_neg e'] at h2
        exact s3 j k b hj hk h1 h2
  · obtain ⟨h1, h2, h3, h4⟩ := s4 b hb
    refine ⟨h1, h2, h3, fun j hj => ?_⟩
    rw [List.length_set] at hj
    by_cases e : j = i
    · rw [if_pos e]; simp
    · rw [if_neg e]; exact h4 j hj
/-- the own places, all told: what each may be replaced by -/
theorem SRep.sub {i : Nat} {sv : Option V} {s : Slot} {fp : List Addr} {o o1 : OV} {p : List Nat} (hp : ∀ f ∈ p, f < 38) (q : SRep K cl β H G i sv s fp) (h : ownS s = some o) (h' : ownO o p = some o1) :
    ∃ v0 w f1, sv = some v0 ∧ PAt K H v0 p w ∧ RepO K cl H G o1 w f1 ∧ (∀ b ∈ f1, b ∈ fp) ∧
      ∀ (H' G' : Hp) (o' : OV) (f1' : List Addr), Same G G' → (∀ b ∈ fp, b ∉ f1 → ∀ u, H b = some u → H' b = some u) → RepO K cl H' G' o' w f1' → (∀ b ∈ f1', b ∈ fp → b ∈ f1) →
        ∃ fp', SRep K cl β H' G' i sv (putS s (setO o p o')) fp' ∧ ∀ b ∈ fp', b ∈ f1' ∨ (b ∈ fp ∧ b ∉ f1) := by
  cases s with
  | un => cases h
  | bo o => cases h
  | ow o0 =>
    cases h
    unfold SRep at q
    obtain ⟨v, h1, q⟩ := q
    obtain ⟨w, f1, w1, w2, w3, w4⟩ := RepO.sub hp q h'
    refine ⟨v, w, f1, h1, w1, w2, w3, fun H' G' o' f1' g k r d => ?_⟩
    obtain ⟨fp', t1, t2⟩ := w4 H' G' o' f1' g k r d
    exact ⟨fp', ⟨v, h1, t1⟩, t2⟩
  | rf o0 =>
    cases h
    unfold SRep at q
    obtain ⟨v, h1, h2, q⟩ := q
    obtain ⟨w, f1, w1, w2, w3, w4⟩ := RepO.sub hp q h'
    refine ⟨v, w, f1, h1, w1, w2, w3, fun H' G' o' f1' g k r d => ?_⟩
    obtain ⟨fp', t1, t2⟩ := w4 H' G' o' f1' g k r d
    exact ⟨fp', ⟨v, h1, h2, t1⟩, t2⟩
theorem ownP_out {i : Nat} {p : List Nat} {o1 : OV} (h : ownP env i p = some o1) : ∃ s o, env[i]? = some s ∧ ownS s = some o ∧ ownO o p = some o1 ∧ slotO s = some o := by
  unfold ownP at h
  cases e : env[i]? with
  | none => rw [e] at h; cases h
  | some s =>
    rw [e] at h
    cases q : ownS s with
    | none => simp only [q] at h; cases h
    | some o =>
      simp only [q] at h
      refine ⟨s, o, rfl, q, h, ?_⟩
      cases s with
      | un => cases q
      | bo o => cases q
      | ow o => exact q
      | rf o => exact q
theorem ownP_get {i : Nat} {p : List Nat} {o1 : OV} (h : ownP env i p = some o1) : getP env i p = some o1 := by
  obtain ⟨s, o, e, h1, h2, h3⟩ := ownP_out h
  unfold getP
  rw [e]
  simp only [h3]
  exact ownO_get h2
/-- an owned place is written -/
theorem R.write (r : R K cl β σ H G env X) {i : Nat} {p : List Nat} {o1 : OV} (hp : ∀ f ∈ p, f < 38) (h : ownP env i p = some o1) :
    ∃ v0 w f1, σ[i]? = some (some v0) ∧ PAt K H v0 p w ∧ RepO K cl H G o1 w f1 ∧ (∀ b ∈ f1, G b = none) ∧ (∀ b ∈ f1, b ∉ X) ∧
      ∀ (H' G' : Hp) (o' : OV) (f1' : List Addr), Same G G' → Same G' H' → (∀ b, b ∉ f1 → ∀ u, H b = some u → H' b = some u) → (∀ b, H b ≠ none → G b = none → G' b = none) → RepO K cl H' G' o' w f1' →
        (∀ b ∈ f1', b ∈ f1 ∨ b ∈ X ∨ H b = none) → (∀ b ∈ f1', G' b = none) → R K cl β σ H' G' (setP env i p o') [] := by
  obtain ⟨fp, s1, s2, s3, s4⟩ := r.sl
  obtain ⟨s, o, e, h1, h2, h3⟩ := ownP_out h
  have hi : i < env.length := (List.getElem?_eq_some_iff.mp e).1
  obtain ⟨v0, w, f1, q1, q2, q3, q4, q5⟩ := (s1 i s e).sub hp h1 h2
  refine ⟨v0, w, f1, getD_some q1, q2, q3, fun b hb => (s2 i b hi (q4 b hb)).1, fun b hb z => (s4 b z).2.2.2 i hi (q4 b hb), fun H' G' o' f1' g gh k gn rr fr ng => ?_⟩
  have sep : ∀ b ∈ f1', ∀ j, j < env.length → b ∈ fp j → b ∈ f1 ∨ False := fun b hb j hj z => by
    rcases fr b hb with y | y | y
    · exact .inl y
    · exact absurd z ((s4 b y).2.2.2 j hj)
    · exact absurd y ((s1 j env[j] (by simp [hj])).there b z)
  obtain ⟨fp', t1, t2⟩ := q5 H' G' o' f1' g (fun b _ hn u hu => k b hn u hu) rr fun b hb z => (sep b hb i hi z).elim id False.elim
  have hset : setP env i p o' = env.set i (putS s (setO o p o')) := by
    unfold setP
    rw [e]
    simp only [h3]
  rw [hset]
  have kk : ∀ b u, H b = some u → b ∉ f1 → H' b = some u := fun b u hu hn => k b hn u hu
  refine ⟨by rw [List.length_set, r.len], r.g0.trans g, gh, fun b u q n => kk b u (r.hk b u q n) fun z => ?_, fun b hb n q => ?_, fun j => if j = i then fp' else fp j, fun j s' hs => ?_, fun j b hj hb => ?_, fun j l b hj hl y1 y2 => ?_, fun b hb => by cases hb⟩
  all_goals (try dsimp only at *)
  · rcases (s2 i b hi (q4 b z)).2 with y | y
    · rw [q] at y; cases y
    · exact n y
  · obtain ⟨u, hu⟩ := Option.ne_none_iff_exists'.mp hb
    exact gn b (by rw [r.hk b u hu n]; simp) (r.gk b hb n q)
  · by_cases ej : j = i
    · subst ej
      rw [if_pos rfl]
      rw [List.getElem?_set_self hi] at hs
      cases hs
      exact t1
    · rw [if_neg ej]
      rw [List.getElem?_set_ne (Ne.symm ej)] at hs
      exact (s1 j s' hs).frame g fun b hb u hu => kk b u hu fun z => ej (s3 j i b (List.getElem?_eq_some_iff.mp hs).1 hi hb (q4 b z))
  · rw [List.length_set] at hj
    by_cases ej : j = i
    · rw [if_pos ej] at hb
      rcases t2 b hb with y | y
      · refine ⟨ng b y, ?_⟩
        rcases fr b y with z | z | z
        · exact (s2 i b hi (q4 b z)).2
        · exact (s4 b z).2.2.1
        · by_cases n : β.F b
          · exact .inr n
          · left
            cases q : β.H b with
            | none => rfl
            | some u => rw [r.hk b u q n] at z; cases z
      · have := s2 i b hi y.1
        exact ⟨gn b ((s1 i s e).there b y.1) this.1, this.2⟩
    · rw [if_neg ej] at hb
      have := s2 j b hj hb
      exact ⟨gn b ((s1 j env[j] (by simp [hj])).there b hb) this.1, this.2⟩
  · rw [List.length_set] at hj hl
    have half : ∀ b, b ∈ fp' → ∀ l, l < env.length → l ≠ i → b ∉ fp l := fun b hb l hl ne z => by
      rcases t2 b hb with y | y
      · rcases sep b y l hl z with x | x
        · exact ne (s3 l i b hl hi z (q4 b x))
        · exact x
      · exact ne (s3 l i b hl hi z y.1)
    by_cases ej : j = i
    · by_cases el : l = i
      · exact ej.trans el.symm
      · rw [if_pos ej] at y1; rw [if_neg el] at y2
        exact absurd y2 (half b y1 l hl el)
    · by_cases el : l = i
      · rw [if_neg ej] at y1; rw [if_pos el] at y2
        exact absurd y1 (half b y2 j hj ej)
      · rw [if_neg ej] at y1; rw [if_neg el] at y2
        exact s3 j l b hj hl y1 y2
end
end C
namespace C
open PySem PySem.Spec PyProof.Rows L2

/-! freezing -/
mutual
def frz : OV → Option MV
  | .fro m => some m
  | .lst ms => some (.lst ms)
  | .dct _ => none
  | .scr _ => none
  | .obj c os => match frzs os with
    | some ms => some (.obj c ms)
    | none => none
def frzs : List OV → Option (List MV)
  | [] => some []
  | o :: os => match frz o with
    | some m => match frzs os with
      | some ms => some (m :: ms)
      | none => none
    | none => none
end
def frzG (H G : Hp) (X : List Addr) : Hp := fun b => if b ∈ X then H b else G b
section
variable {K : PySem.W.Frag} {cl : Nat → Addr} {H H' G G' : Hp} {β : Bs} {σ : L2.St} {env : Env} {X : List Addr}
mutual
theorem RepO.frz (g : Same G G') : ∀ (o : OV) (v : V) (fp : List Addr) (m : MV), (∀ b ∈ fp, ∀ u, H b = some u → G' b = some u) → RepO K cl H G o v fp → frz o = some m → Rep K cl G' m v
  | .fro m', v, fp, m, e, h, q => by
    unfold C.frz at q; cases q
    unfold RepO at h
    exact Rep.same g _ _ h.2
  | .lst ms, v, fp, m, e, h, q => by
    unfold C.frz at q; cases q
    unfold RepO at h; unfold Rep
    obtain ⟨a, vs, h1, h5, h2, h3⟩ := h
    subst h5
    exact ⟨a, vs, h1, e a (by simp) _ h2, Reps.same g _ _ h3⟩
  | .dct kvs, v, fp, m, e, h, q => by unfold C.frz at q; cases q
  | .scr ms, v, fp, m, e, h, q => by unfold C.frz at q; cases q
  | .obj c os, v, fp, m, e, h, q => by
    unfold C.frz at q
    cases z : frzs os with
    | none => rw [z] at q; cases q
    | some ms =>
      rw [z] at q; cases q
      unfold RepO at h; unfold Rep
      obtain ⟨a, dx, vs, fq, h1, h5, h2, h4, h3, h6⟩ := h
      subst h5
      exact ⟨a, dx, vs, h1, e a (by simp) _ h2, h4, RepOs.frz g os vs fq ms (fun b hb => e b (List.mem_cons_of_mem _ hb)) h3 z⟩
theorem RepOs.frz (g : Same G G') : ∀ (os : List OV) (vs : List V) (fp : List Addr) (ms : List MV), (∀ b ∈ fp, ∀ u, H b = some u → G' b = some u) → RepOs K cl H G os vs fp → frzs os = some ms → Reps K cl G' ms vs
  | [], vs, fp, ms, e, h, q => by
    unfold C.frzs at q; cases q
    unfold RepOs at h; unfold Reps
    exact h.1
  | o :: os, vs, fp, ms, e, h, q => by
    unfold C.frzs at q
    cases z : C.frz o with
    | none => rw [z] at q; cases q
    | some m =>
      rw [z] at q
      cases z' : frzs os with
      | none => simp only [z'] at q; cases q
      | some ms' =>
        simp only [z'] at q; cases q
        unfold RepOs at h
        obtain ⟨v, ws, f1, f2, h1, h5, h2, h3, h4⟩ := h
        subst h5
        rw [h1]
        exact Reps.cons (RepO.frz g o v f1 m (fun b hb => e b (List.mem_append_left _ hb)) h2 z) (RepOs.frz g os ws f2 ms' (fun b hb => e b (List.mem_append_right _ hb)) h3 z')
end
theorem frzG_same (n : ∀ b ∈ X, G b = none) : Same G (frzG H G X) := fun b u h => by
  unfold frzG
  split
  · rename_i hb; rw [n b hb] at h; cases h
  · exact h
theorem frzG_H (g : Same G H) : Same (frzG H G X) H := fun b u h => by
  unfold frzG at h
  split at h
  · exact h
  · exact g b u h
theorem R.frz (r : R K cl β σ H G env X) : R K cl β σ H (frzG H G X) env [] := by
  obtain ⟨fp, s1, s2, s3, s4⟩ := r.sl
  have n : ∀ b ∈ X, G b = none := fun b hb => (s4 b hb).2.1
  refine ⟨r.len, r.g0.trans (frzG_same n), frzG_H r.gh, r.hk, fun b hb nf q => ?_, fp, fun i s hs => (s1 i s hs).frame (frzG_same n) fun b _ u h => h, fun i b hi hb => ⟨?_, (s2 i b hi hb).2⟩, s3, fun b hb => by cases hb⟩
  · unfold frzG
    split
    · rename_i hx
      rcases (s4 b hx).2.2.1 with y | y
      · exact absurd y hb
      · exact absurd y nf
    · exact r.gk b hb nf q
  · unfold frzG
    split
    · rename_i hx
      exact absurd hb ((s4 b hx).2.2.2 i hi)
    · exact (s2 i b hi hb).1
theorem R.xn (r : R K cl β σ H G env X) : ∀ b ∈ X, G b = none := by
  obtain ⟨fp, s1, s2, s3, s4⟩ := r.sl
  exact fun b hb => (s4 b hb).2.1
theorem Ext.frz {H0 G0 : Hp} (e : Ext H0 G0 H G) (hX : ∀ b ∈ X, H0 b = none) (n : ∀ b ∈ X, G b = none) : Ext H0 G0 H (frzG H G X) := by
  refine ⟨e.hh, e.gg.trans (frzG_same n), frzG_H e.gh, fun b hb q => ?_⟩
  unfold frzG
  split
  · rename_i hx
    exact absurd (hX b hx) hb
  · exact e.gn b hb q
end

/-! arguments of a call -/
inductive Ar where
  | v (m : MV) | mu (i : Nat) (p : List Nat) | br (i : Nat) (p : List Nat)
def arSlots (env : Env) : List Ar → Option Env
  | [] => some []
  | .v m :: as => match arSlots env as with
    | some ss => some (.ow (.fro m) :: ss)
    | none => none
  | .mu i p :: as => match ownP env i p with
    | some o => match arSlots env as with
      | some ss => some (.rf o :: ss)
      | none => none
    | none => none
  | .br i p :: as => match getP env i p with
    | some o => match arSlots env as with
      | some ss => some (.bo o :: ss)
      | none => none
    | none => none
def muS : List Ar → List Nat
  | [] => []
  | .mu i _ :: as => i :: muS as
  | _ :: as => muS as
def noMem : List Nat → Nat → Bool
  | [], _ => true
  | j :: js, i => !(Nat.beq j i) && noMem js i
def arOk (ms : List Nat) : List Ar → Bool
  | [] => true
  | .v _ :: as => arOk ms as
  | .mu i p :: as => p.all (fun f => Nat.blt f 38) && (noMem (muS as) i && arOk ms as)
  | .br i p :: as => p.all (fun f => Nat.blt f 38) && (noMem ms i && arOk ms as)
def backE : Env → List Ar → Env → Option Env
  | env, [], _ => some env
  | env, .mu i p :: as, .rf o :: ss => backE (setP env i p o) as ss
  | env, .v _ :: as, _ :: ss => backE env as ss
  | env, .br _ _ :: as, _ :: ss => backE env as ss
  | _, _, _ => none
theorem noMem_iff {js : List Nat} {i : Nat} : noMem js i = true ↔ i ∉ js := by
  induction js with
  | nil => simp [noMem]
  | cons j js ih =>
    simp only [noMem, Bool.and_eq_true, ih, List.mem_cons, not_or]
    constructor
    · rintro ⟨h1, h2⟩
      refine ⟨fun e => ?_, h2⟩
      subst e
      simp at h1
    · rintro ⟨h1, h2⟩
      refine ⟨?_, h2⟩
      simp only [Bool.not_eq_true']
      cases e : Nat.beq j i with
      | false => rfl
      | true => exact absurd (Nat.eq_of_beq_eq_true e).symm h1
theorem mem_muS {as : List Ar} {i : Nat} : i ∈ muS as ↔ ∃ p, Ar.mu i p ∈ as := by
  induction as with
  | nil => simp [muS]
  | cons a as ih =>
    cases a with
    | v m => simp [muS, ih]
    | br j p => simp [muS, ih]
    | mu j p =>
      simp only [muS, List.mem_cons, ih]
      constructor
      · rintro (rfl | ⟨q, h⟩)
        · exact ⟨p, .inl rfl⟩
        · exact ⟨q, .inr h⟩
      · rintro ⟨q, h | h⟩
        · cases h; exact .inl rfl
        · exact .inr ⟨q, h⟩
/-- what arOk says -/
theorem arOk_out {ms : List Nat} : ∀ {as : List Ar}, arOk ms as = true →
    (∀ (k l i : Nat) p q, as[k]? = some (.mu i p) → as[l]? = some (.mu i q) → k = l) ∧ (∀ i p, Ar.br i p ∈ as → i ∉ ms ∧ ∀ f ∈ p, f < 38) ∧ (∀ i p, Ar.mu i p ∈ as → ∀ f ∈ p, f < 38)
  | [], _ => ⟨fun k l i p q h => by simp at h, fun i p h => (List.not_mem_nil h).elim, fun i p h => (List.not_mem_nil h).elim⟩
  | a :: as, h => by
    have lt : ∀ {p : List Nat}, p.all (fun f => Nat.blt f 38) = true → ∀ f ∈ p, f < 38 := fun {p} hp f hf => by
      have := List.all_eq_true.mp hp f hf
      exact Nat.le_of_ble_eq_true this
    cases a with
    | v m =>
      obtain ⟨h1, h2, h3⟩ := arOk_out (as := as) (by simpa [arOk] using h)
      refine ⟨fun k l i p q e e' => ?_, fun i p hm => h2 i p (by simpa using hm), fun i p hm => h3 i p (by simpa using hm)⟩
      cases k with
      | zero => simp at e
      | succ k => cases l with
        | zero => simp at e'
        | succ l => rw [h1 k l i p q (by simpa using e) (by simpa using e')]
    | br j pj =>
      simp only [arOk, Bool.and_eq_true] at h
      obtain ⟨h1, h2, h3⟩ := arOk_out (as := as) h.2.2
      refine ⟨fun k l i p q e e' => ?_, fun i p hm => ?_, fun i p hm => h3 i p (by simpa using hm)⟩
      · cases k with
        | zero => simp at e
        | succ k => cases l with
          | zero => simp at e'
          | succ l => rw [h1 k l i p q (by simpa using e) (by simpa using e')]
      · rcases List.mem_cons.mp hm with e | e
        · cases e; exact ⟨noMem_iff.mp h.2.1, lt h.1⟩
        · exact h2 i p e
    | mu j pj =>
      simp only [arOk, Bool.and_eq_true] at h
      obtain ⟨h1, h2, h3⟩ := arOk_out (as := as) h.2.2
      have nm := noMem_iff.mp h.2.1
      refine ⟨fun k l i p q e e' => ?_, fun i p hm => h2 i p (by simpa using hm), fun i p hm => ?_⟩
      · cases k with
        | zero => cases l with
          | zero => rfl
          | succ l =>
            simp at e e'
            exact absurd (mem_muS.mpr ⟨q, List.mem_of_getElem? e'⟩) (by rw [← e.1]; exact nm)
        | succ k => cases l with
          | zero =>
            simp at e e'
            exact absurd (mem_muS.mpr ⟨p, List.mem_of_getElem? e⟩) (by rw [← e'.1]; exact nm)
          | succ l => rw [h1 k l i p q (by simpa using e) (by simpa using e')]
      · rcases List.mem_cons.mp hm with e | e
        · cases e; exact lt h.1
        · exact h3 i p e
theorem setP_len {env : Env} {i : Nat} {p : List Nat} {o : OV} : (setP env i p o).length = env.length := by
  unfold setP
  split
  · split
    · rw [List.length_set]
    · rfl
  · rfl
theorem setP_ne {env : Env} {i j : Nat} {p : List Nat} {o : OV} (h : j ≠ i) : (setP env i p o)[j]? = env[j]? := by
  unfold setP
  split
  · split
    · rw [List.getElem?_set_ne (Ne.symm h)]
    · rfl
  · rfl
theorem setP_self {env : Env} {i : Nat} {p : List Nat} {x : OV} : (setP env i p x)[i]? = match env[i]? with
    | some s => match slotO s with
      | some o => some (putS s (setO o p x))
      | none => some s
    | none => none := by
  unfold setP
  cases e : env[i]? with
  | none => exact e
  | some s =>
    have hi : i < env.length := (List.getElem?_eq_some_iff.mp e).1
    cases q : slotO s with
    | none => simp only [q]; exact e
    | some o => simp only [q]; rw [List.getElem?_set_self hi]
theorem backE_len : ∀ {as : List Ar} {env env' env2 : Env}, backE env as env' = some env2 → env2.length = env.length
  | [], env, env', env2, h => by simp [backE] at h; rw [h]
  | .v m :: as, env, s :: ss, env2, h => by unfold backE at h; exact backE_len h
  | .br j p :: as, env, s :: ss, env2, h => by unfold backE at h; exact backE_len h
  | .mu j p :: as, env, .rf o :: ss, env2, h => by
    unfold backE at h
    rw [backE_len h, setP_len]
  | .v m :: as, env, [], env2, h => by simp [backE] at h
  | .br j p :: as, env, [], env2, h => by simp [backE] at h
  | .mu j p :: as, env, [], env2, h => by simp [backE] at h
  | .mu j p :: as, env, .un :: ss, env2, h => by simp [backE] at h
  | .mu j p :: as, env, .ow o :: ss, env2, h => by simp [backE] at h
  | .mu j p :: as, env, .bo o :: ss, env2, h => by simp [backE] at h
theorem backE_out : ∀ {as : List Ar} {env env' env2 : Env} {i : Nat}, backE env as env' = some env2 → i ∉ muS as → env2[i]? = env[i]?
  | [], env, env', env2, i, h, n => by simp [backE] at h; rw [h]
  | .v m :: as, env, s :: ss, env2, i, h, n => by unfold backE at h; exact backE_out h (by simpa [muS] using n)
  | .br j p :: as, env, s :: ss, env2, i, h, n => by unfold backE at h; exact backE_out h (by simpa [muS] using n)
  | .mu j p :: as, env, .rf o :: ss, env2, i, h, n => by
    unfold backE at h
    simp only [muS, List.mem_cons, not_or] at n
    rw [backE_out h n.2, setP_ne n.1]
  | .v m :: as, env, [], env2, i, h, n => by simp [backE] at h
  | .br j p :: as, env, [], env2, i, h, n => by simp [backE] at h
  | .mu j p :: as, env, [], env2, i, h, n => by simp [backE] at h
  | .mu j p :: as, env, .un :: ss, env2, i, h, n => by simp [backE] at h
  | .mu j p :: as, env, .ow o :: ss, env2, i, h, n => by simp [backE] at h
  | .mu j p :: as, env, .bo o :: ss, env2, i, h, n => by simp [backE] at h
theorem backE_mu {ms : List Nat} : ∀ {as : List Ar} {env env' env2 : Env} {k i : Nat} {p : List Nat}, arOk ms as = true → backE env as env' = some env2 → as[k]? = some (.mu i p) → ∃ o, env'[k]? = some (.rf o) ∧ env2[i]? = (setP env i p o)[i]?
  | [], env, env', env2, k, i, p, ok, h, e => by simp at e
  | .v m :: as, env, s :: ss, env2, k, i, p, ok, h, e => by
    unfold backE at h
    cases k with
    | zero => simp at e
    | succ k =>
      obtain ⟨o, h1, h2⟩ := backE_mu (k := k) (by simpa [arOk] using ok) h (by simpa using e)
      exact ⟨o, by simpa using h1, h2⟩
  | .br j q :: as, env, s :: ss, env2, k, i, p, ok, h, e => by
    unfold backE at h
    simp only [arOk, Bool.and_eq_true] at ok
    cases k with
    | zero => simp at e
    | succ k =>
      obtain ⟨o, h1, h2⟩ := backE_mu (k := k) ok.2.2 h (by simpa using e)
      exact ⟨o, by simpa using h1, h2⟩
  | .mu j q :: as, env, .rf o :: ss, env2, k, i, p, ok, h, e => by
    unfold backE at h
    simp only [arOk, Bool.and_eq_true] at ok
    have nm := noMem_iff.mp ok.2.1
    cases k with
    | zero =>
      simp at e
      obtain ⟨rfl, rfl⟩ := e
      exact ⟨o, rfl, backE_out h nm⟩
    | succ k =>
      have e' : as[k]? = some (.mu i p) := by simpa using e
      have ne : i ≠ j := fun z => nm (mem_muS.mpr ⟨p, z ▸ List.mem_of_getElem? e'⟩)
      obtain ⟨o', h1, h2⟩ := backE_mu (k := k) ok.2.2 h e'
      refine ⟨o', by simpa using h1, ?_⟩
      rw [h2]
      rw [setP_self, setP_self, setP_ne ne]
  | .v m :: as, env, [], env2, _, i, _, _, h, n => by simp [backE] at h
  | .br j p :: as, env, [], env2, _, i, _, _, h, n => by simp [backE] at h
  | .mu j p :: as, env, [], env2, _, i, _, _, h, n => by simp [backE] at h
  | .mu j p :: as, env, .un :: ss, env2, _, i, _, _, h, n => by simp [backE] at h
  | .mu j p :: as, env, .ow o :: ss, env2, _, i, _, _, h, n => by simp [backE] at h
  | .mu j p :: as, env, .bo o :: ss, env2, _, i, _, _, h, n => by simp [backE] at h
theorem arSlots_get : ∀ {as : List Ar} {env ss : Env} {k : Nat} {a : Ar}, arSlots env as = some ss → as[k]? = some a →
    match a with
    | .v m => ss[k]? = some (.ow (.fro m))
    | .mu i p => ∃ o, ownP env i p = some o ∧ ss[k]? = some (.rf o)
    | .br i p => ∃ o, getP env i p = some o ∧ ss[k]? = some (.bo o)
  | [], _, _, _, _, _, e => by simp at e
  | .v m :: as, env, ss, k, a, h, e => by
    unfold arSlots at h
    cases q : arSlots env as with
    | none => rw [q] at h; cases h
    | some ss' =>
      rw [q] at h; cases h
      cases k with
      | zero => simp at e; subst e; simp
      | succ k => have := arSlots_get (k := k) q (by simpa using e); simpa using this
  | .mu i p :: as, env, ss, k, a, h, e => by
    unfold arSlots at h
    cases q0 : ownP env i p with
    | none => rw [q0] at h; cases h
    | some o =>
      rw [q0] at h
      cases q : arSlots env as with
      | none => simp only [q] at h; cases h
      | some ss' =>
        simp only [q] at h; cases h
        cases k with
        | zero => simp at e; subst e; exact ⟨o, q0, by simp⟩
        | succ k => have := arSlots_get (k := k) q (by simpa using e); simpa using this
  | .br i p :: as, env, ss, k, a, h, e => by
    unfold arSlots at h
    cases q0 : getP env i p with
    | none => rw [q0] at h; cases h
    | some o =>
      rw [q0] at h
      cases q : arSlots env as with
      | none => simp only [q] at h; cases h
      | some ss' =>
        simp only [q] at h; cases h
        cases k with
        | zero => simp at e; subst e; exact ⟨o, q0, by simp⟩
        | succ k => have := arSlots_get (k := k) q (by simpa using e); simpa using this
theorem arSlots_len : ∀ {as : List Ar} {env ss : Env}, arSlots env as = some ss → ss.length = as.length
  | [], _, _, h => by simp [arSlots] at h; subst h; rfl
  | .v m :: as, env, ss, h => by
    unfold arSlots at h
    cases q : arSlots env as with
    | none => rw [q] at h; cases h
    | some ss' => rw [q] at h; cases h; simp [arSlots_len q]
  | .mu i p :: as, env, ss, h => by
    unfold arSlots at h
    cases q0 : ownP env i p with
    | none => rw [q0] at h; cases h
    | some o =>
      rw [q0] at h
      cases q : arSlots env as with
      | none => simp only [q] at h; cases h
      | some ss' => simp only [q] at h; cases h; simp [arSlots_len q]
  | .br i p :: as, env, ss, h => by
    unfold arSlots at h
    cases q0 : getP env i p with
    | none => rw [q0] at h; cases h
    | some o =>
      rw [q0] at h
      cases q : arSlots env as with
      | none => simp only [q] at h; cases h
      | some ss' => simp only [q] at h; cases h; simp [arSlots_len q]
section
variable (K : PySem.W.Frag) (cl : Nat → Addr)
def ArRep (σ : L2.St) (H G : Hp) : Ar → V → Prop
  | .v m, x => Rep K cl G m x
  | .mu i p, x => ∃ v0, σ[i]? = some (some v0) ∧ PAt K H v0 p x
  | .br i p, x => ∃ v0, σ[i]? = some (some v0) ∧ PAt K H v0 p x
def ArReps (σ : L2.St) (H G : Hp) : List Ar → List V → Prop
  | [], vs => vs = []
  | a :: as, vs => ∃ v ws, vs = v :: ws ∧ ArRep K cl σ H G a v ∧ ArReps σ H G as ws
end
end C
namespace C
open PySem PySem.Spec PyProof.Rows L2
section
variable {K : PySem.W.Frag} {cl : Nat → Addr} {H H' G G' : Hp} {β : Bs} {σ : L2.St} {env : Env} {X : List Addr}
theorem ArReps.get : ∀ {as : List Ar} {vs : List V} {k : Nat} {a : Ar}, ArReps K cl σ H G as vs → as[k]? = some a → ∃ v, vs[k]? = some v ∧ ArRep K cl σ H G a v
  | [], _, _, _, _, e => by simp at e
  | a :: as, vs, 0, x, h, e => by
    unfold ArReps at h
    obtain ⟨v, ws, h1, h2, _⟩ := h
    simp at e; subst e
    exact ⟨v, by simp [h1], h2⟩
  | a :: as, vs, k + 1, x, h, e => by
    unfold ArReps at h
    obtain ⟨v, ws, h1, _, h3⟩ := h
    obtain ⟨w, q1, q2⟩ := ArReps.get (k := k) h3 (by simpa using e)
    exact ⟨w, by simpa [h1] using q1, q2⟩
theorem ArReps.len : ∀ {as : List Ar} {vs : List V}, ArReps K cl σ H G as vs → vs.length = as.length
  | [], _, h => by unfold ArReps at h; rw [h]; rfl
  | a :: as, vs, h => by
    unfold ArReps at h
    obtain ⟨v, ws, h1, _, h3⟩ := h
    rw [h1, List.length_cons, List.length_cons, ArReps.len h3]
theorem PAt.same (e : Same H H') : ∀ {p : List Nat} {v w : V}, PAt K H v p w → PAt K H' v p w
  | [], _, _, h => h
  | f :: p, v, w, ⟨a, C, dx, fs, u, h1, h2, h5, h3, h4⟩ => ⟨a, C, dx, fs, u, h1, e _ _ h2, h5, h3, PAt.same e h4⟩
theorem getD_of {i : Nat} {x : Option V} (h : σ[i]? = some x) : σ.getD i none = x := by
  rw [List.getD_eq_getElem?_getD, h]; rfl
/-- a call: the callee's start, and how it comes back -/
theorem R.callF (r : R K cl β σ H G env []) {as : List Ar} {vs : List V} {ss : Env} (ra : ArReps K cl σ H G as vs) (hs : arSlots env as = some ss) (ok : arOk (muS as) as = true) :
    ∃ F : Addr → Prop, R K cl ⟨H, G, F, vs.map some⟩ (vs.map some) H G ss [] ∧
      (∀ (σ' : L2.St) (H' G' : Hp) (env' : Env) (X' : List Addr) (env2 : Env), R K cl ⟨H, G, F, vs.map some⟩ σ' H' G' env' X' → backE env as env' = some env2 → R K cl β σ H' G' env2 X') ∧ (∀ b, F b → ∃ i p, Ar.mu i p ∈ as) := by
  obtain ⟨fp, s1, s2, s3, s4⟩ := r.sl
  obtain ⟨ok1, ok2, ok3⟩ := arOk_out ok
  have hlen : vs.length = as.length := ra.len
  -- the footprint of the place that is lent in slot i
  have ex : ∀ i : Nat, ∃ f : List Addr, (∀ p, Ar.mu i p ∈ as → ∃ s o o1 v0 w, env[i]? = some s ∧ ownS s = some o ∧ slotO s = some o ∧ ownO o p = some o1 ∧ ownP env i p = some o1 ∧ σ.getD i none = some v0 ∧ PAt K H v0 p w ∧ RepO K cl H G o1 w f ∧ (∀ b ∈ f, b ∈ fp i) ∧
      ∀ (H' G' : Hp) (o' : OV) (f1' : List Addr), Same G G' → (∀ b ∈ fp i, b ∉ f → ∀ u, H b = some u → H' b = some u) → RepO K cl H' G' o' w f1' → (∀ b ∈ f1', b ∈ fp i → b ∈ f) →
        ∃ fp', SRep K cl β H' G' i (σ.getD i none) (putS s (setO o p o')) fp' ∧ ∀ b ∈ fp', b ∈ f1' ∨ (b ∈ fp i ∧ b ∉ f)) ∧ ((∀ p, Ar.mu i p ∉ as) → f = []) := by
    intro i
    by_cases h : ∃ p, Ar.mu i p ∈ as
    · obtain ⟨p, hp⟩ := h
      obtain ⟨k, hk⟩ := List.getElem?_of_mem hp
      have hget := arSlots_get hs hk
      obtain ⟨o1, ho1, _⟩ : ∃ o, ownP env i p = some o ∧ ss[k]? = some (.rf o) := hget
      obtain ⟨s, o, e1, e2, e3, e4⟩ := ownP_out ho1
      obtain ⟨v0, w, f1, q1, q2, q3, q4, q5⟩ := (s1 i s e1).sub (ok3 i p hp) e2 e3
      refine ⟨f1, fun p' hp' => ?_, fun n => absurd hp (n p)⟩
      obtain ⟨k', hk'⟩ := List.getElem?_of_mem hp'
      have ek := ok1 k k' i p p' hk hk'
      subst ek
      rw [hk] at hk'
      cases hk'
      exact ⟨s, o, o1, v0, w, e1, e2, e4, e3, ho1, q1, q2, q3, q4, q5⟩
    · exact ⟨[], fun p hp => absurd ⟨p, hp⟩ h, fun _ => rfl⟩
  let f : Nat → List Addr := fun i => (ex i).choose
  have hf := fun i => (ex i).choose_spec
  have hfsub : ∀ i b, b ∈ f i → b ∈ fp i ∧ i < env.length ∧ ∃ p, Ar.mu i p ∈ as := fun i b hb => by
    by_cases h : ∃ p, Ar.mu i p ∈ as
    · obtain ⟨p, hp⟩ := h
      obtain ⟨s, o, o1, v0, w, e1, _, _, _, _, _, _, _, e5, _⟩ := (hf i).1 p hp
      exact ⟨e5 b hb, (List.getElem?_eq_some_iff.mp e1).1, p, hp⟩
    · have z := (hf i).2 fun p hp => h ⟨p, hp⟩
      have hb' : b ∈ (ex i).choose := hb
      rw [z] at hb'; cases hb'
  let F : Addr → Prop := fun b => ∃ i, b ∈ f i
  have hFβ : ∀ b, F b → G b = none ∧ (β.H b = none ∨ β.F b) := fun b ⟨i, hb⟩ => by
    obtain ⟨h1, h2, _⟩ := hfsub i b hb
    exact s2 i b h2 h1
  have hFi : ∀ i b, i < env.length → b ∈ fp i → F b → b ∈ f i := fun i b hi hb ⟨j, hj⟩ => by
    obtain ⟨h1, h2, _⟩ := hfsub j b hj
    have := s3 j i b h2 hi h1 hb
    subst this
    exact hj
  have thr : ∀ i b, i < env.length → b ∈ fp i → H b ≠ none := fun i b hi hb => (s1 i env[i] (by simp [hi])).there b hb
  have hHm : ∃ Hm : Hp, (∀ b u, Hm b = some u ↔ H b = some u ∧ ¬ F b) := by
    classical
    refine ⟨fun b => if F b then none else H b, fun b u => ?_⟩
    by_cases h : F b
    · simp [h]
    · simp [h]
  obtain ⟨Hm, hHm⟩ := hHm
  have gHm : Same G Hm := fun b u h => (hHm b u).mpr ⟨r.gh b u h, fun z => by rw [(hFβ b z).1] at h; cases h⟩
  have HmH : Same Hm H := fun b u h => ((hHm b u).mp h).1
  refine ⟨F, ⟨?_, Same.refl _, r.gh, fun b u h _ => h, fun b _ _ h => h, fun k => match as[k]? with | some (.mu i p) => f i | _ => [], ?_, ?_, ?_, fun b hb => by cases hb⟩, ?_, fun b ⟨i, hb⟩ => ⟨i, (hfsub i b hb).2.2⟩⟩
  · rw [List.length_map, hlen, arSlots_len hs]
  · intro k s hk
    have hkl : k < as.length := by rw [← arSlots_len hs]; exact (List.getElem?_eq_some_iff.mp hk).1
    obtain ⟨a, ha⟩ : ∃ a, as[k]? = some a := ⟨as[k], by simp [hkl]⟩
    obtain ⟨v, hv, hr⟩ := ra.get ha
    have hσ : (vs.map some)[k]? = some (some v) := by rw [List.getElem?_map, hv]; rfl
    have hσ' := getD_of hσ
    have hget := arSlots_get hs ha
    cases a with
    | v m =>
      have hget' : ss[k]? = some (.ow (.fro m)) := hget
      rw [hk] at hget'; cases hget'
      simp only [ha]
      unfold SRep
      refine ⟨v, hσ', ?_⟩
      unfold RepO
      exact ⟨rfl, hr⟩
    | mu i p =>
      obtain ⟨o1, g1, g2⟩ : ∃ o, ownP env i p = some o ∧ ss[k]? = some (.rf o) := hget
      rw [hk] at g2; cases g2
      simp only [ha]
      obtain ⟨s, o, o1', v0, w, e1, e2, e3, e4, e4', e5, e6, e7, _⟩ := (hf i).1 p (List.mem_of_getElem? ha)
      rw [g1] at e4'; cases e4'
      obtain ⟨v0', z1, z2⟩ : ∃ v0, σ[i]? = some (some v0) ∧ PAt K H v0 p v := hr
      rw [getD_of z1] at e5; cases e5
      have := PAt.uniq e6 z2
      subst this
      unfold SRep
      exact ⟨w, hσ', hσ, e7⟩
    | br i p =>
      obtain ⟨o1, g1, g2⟩ : ∃ o, getP env i p = some o ∧ ss[k]? = some (.bo o) := hget
      rw [hk] at g2; cases g2
      simp only [ha]
      obtain ⟨v0', z1, z2⟩ : ∃ v0, σ[i]? = some (some v0) ∧ PAt K H v0 p v := hr
      obtain ⟨nm, hp⟩ := ok2 i p (List.mem_of_getElem? ha)
      have nF : ∀ b, i < env.length → b ∈ fp i → ¬ F b := fun b hi hb z => nm (mem_muS.mpr (hfsub i b (hFi i b hi hb z)).2.2)
      unfold SRep
      refine ⟨rfl, v, hσ', hσ, Hm, fun b u h => (hHm b u).mp h, ?_⟩
      show RepB K cl Hm G o1 v
      unfold getP at g1
      cases e : env[i]? with
      | none => rw [e] at g1; cases g1
      | some s =>
        rw [e] at g1
        have hi := (List.getElem?_eq_some_iff.mp e).1
        have q := s1 i s e
        have fin : ∀ o0, slotO s = some o0 → σ.getD i none = some v0' → RepB K cl Hm G o0 v0' → RepB K cl Hm G o1 v := fun o0 h0 _ hb => by
          simp only [h0] at g1
          obtain ⟨w, q1, q2⟩ := RepB.place gHm hp hb g1
          have := PAt.uniq (PAt.same HmH q1) z2
          subst this
          exact q2
        cases s with
        | un => simp [slotO] at g1
        | ow o0 =>
          unfold SRep at q
          obtain ⟨v1, h1, q⟩ := q
          rw [getD_of z1] at h1; cases h1
          exact fin o0 rfl (getD_of z1) (RepO.b _ _ _ (RepO.frame (Same.refl _) _ _ _ (fun b hb u h => (hHm b u).mpr ⟨h, nF b hi hb⟩) q))
        | rf o0 =>
          unfold SRep at q
          obtain ⟨v1, h1, _, q⟩ := q
          rw [getD_of z1] at h1; cases h1
          exact fin o0 rfl (getD_of z1) (RepO.b _ _ _ (RepO.frame (Same.refl _) _ _ _ (fun b hb u h => (hHm b u).mpr ⟨h, nF b hi hb⟩) q))
        | bo o0 =>
          unfold SRep at q
          obtain ⟨_, v1, h1, _, Hb, hb, q⟩ := q
          rw [getD_of z1] at h1; cases h1
          refine fin o0 rfl (getD_of z1) (RepB.same (fun b u h => (hHm b u).mpr ⟨r.hk b u (hb b u h).1 (hb b u h).2, fun z => ?_⟩) r.g0 _ _ q)
          rcases (hFβ b z).2 with y | y
          · rw [(hb b u h).1] at y; cases y
          · exact (hb b u h).2 y
  · intro k b hk hb
    dsimp only at hb
    split at hb
    · rename_i i p e
      exact ⟨(hFβ b ⟨i, hb⟩).1, .inr ⟨i, hb⟩⟩
    · cases hb
  · intro k l b hk hl h1 h2
    dsimp only at h1 h2
    split at h1
    · rename_i i p e
      split at h2
      · rename_i j q e'
        obtain ⟨y1, y2, _⟩ := hfsub i b h1
        obtain ⟨y3, y4, _⟩ := hfsub j b h2
        have := s3 i j b y2 y4 y1 y3
        subst this
        exact ok1 k l i p q e e'
      · cases h2
    · cases h1
  · intro σ' H' G' env' X' env2 r' hb2
    obtain ⟨fc, c1, c2, c3, c4⟩ := r'.sl
    have hk' : ∀ b u, H b = some u → ¬ F b → H' b = some u := r'.hk
    have gk' : ∀ b, H b ≠ none → ¬ F b → G b = none → G' b = none := r'.gk
    have g0' : Same G G' := r'.g0
    -- the new content of each slot
    have new : ∀ i s2, env2[i]? = some s2 → ∃ fq, SRep K cl β H' G' i (σ.getD i none) s2 fq ∧ ∀ b ∈ fq, (∃ k, k < env'.length ∧ (∃ p, as[k]? = some (.mu i p)) ∧ b ∈ fc k) ∨ (b ∈ fp i ∧ b ∉ f i) := by
      intro i s2 e2
      by_cases h : ∃ p, Ar.mu i p ∈ as
      · obtain ⟨p, hp⟩ := h
        obtain ⟨k, hk⟩ := List.getElem?_of_mem hp
        obtain ⟨s, o, o1, v0, w, e1, e3, e4, e5, _, e6, e7, e8, e9, e10⟩ := (hf i).1 p hp
        obtain ⟨o', t1, t2⟩ := backE_mu ok hb2 hk
        have hi := (List.getElem?_eq_some_iff.mp e1).1
        have hkl := (List.getElem?_eq_some_iff.mp t1).1
        rw [setP_self, e1] at t2
        simp only [e4] at t2
        rw [e2] at t2; cases t2
        have q := c1 k _ t1
        unfold SRep at q
        obtain ⟨v, _, q2, q3⟩ := q
        obtain ⟨vv, hv, hr⟩ := ra.get hk
        have hσ : (vs.map some)[k]? = some (some vv) := by rw [List.getElem?_map, hv]; rfl
        have q2' : (vs.map some)[k]? = some (some v) := q2
        have evv : vv = v := by rw [hσ] at q2'; exact Option.some.inj (Option.some.inj q2')
        subst evv
        obtain ⟨v0', z1, z2⟩ : ∃ v0, σ[i]? = some (some v0) ∧ PAt K H v0 p vv := hr
        rw [getD_of z1] at e6; cases e6
        have := PAt.uniq e7 z2
        subst this
        obtain ⟨fq, u1, u2⟩ := e10 H' G' o' (fc k) g0' (fun b hb hn u hu => hk' b u hu fun z => hn (hFi i b hi hb z)) q3 fun b hb z => by
          rcases (c2 k b hkl hb).2 with y | y
          · exact absurd y (thr i b hi z)
          · exact hFi i b hi z y
        refine ⟨fq, u1, fun b hb => ?_⟩
        rcases u2 b hb with y | y
        · exact .inl ⟨k, hkl, ⟨p, hk⟩, y⟩
        · exact .inr y
      · have hn : i ∉ muS as := fun z => h (mem_muS.mp z)
        rw [backE_out hb2 hn] at e2
        have hi := (List.getElem?_eq_some_iff.mp e2).1
        have z := (hf i).2 fun p hp => h ⟨p, hp⟩
        have zf : ∀ b, b ∉ f i := fun b hb => by
          have hb' : b ∈ (ex i).choose := hb
          rw [z] at hb'; cases hb'
        exact ⟨fp i, (s1 i s2 e2).frame g0' fun b hb u hu => hk' b u hu fun y => zf b (hFi i b hi hb y), fun b hb => .inr ⟨hb, zf b⟩⟩
    have ch : ∃ fq : Nat → List Addr, ∀ i s2, env2[i]? = some s2 → SRep K cl β H' G' i (σ.getD i none) s2 (fq i) ∧ ∀ b ∈ fq i, (∃ k, k < env'.length ∧ (∃ p, as[k]? = some (.mu i p)) ∧ b ∈ fc k) ∨ (b ∈ fp i ∧ b ∉ f i) := by
      have z : ∀ i, ∃ fq : List Addr, ∀ s2, env2[i]? = some s2 → SRep K cl β H' G' i (σ.getD i none) s2 fq ∧ ∀ b ∈ fq, (∃ k, k < env'.length ∧ (∃ p, as[k]? = some (.mu i p)) ∧ b ∈ fc k) ∨ (b ∈ fp i ∧ b ∉ f i) := fun i => by
        cases e : env2[i]? with
        | none => exact ⟨[], fun s2 h => by cases h⟩
        | some s2 =>
          obtain ⟨fq, h1, h2⟩ := new i s2 e
          exact ⟨fq, fun s3 h => by cases h; exact ⟨h1, h2⟩⟩
      exact ⟨fun i => (z i).choose, fun i => (z i).choose_spec⟩
    obtain ⟨fq, hq⟩ := ch
    have ln : env2.length = env.length := backE_len hb2
    have at2 : ∀ i (hi : i < env2.length), env2[i]? = some env2[i] := fun i hi => by simp [hi]
    have βof : ∀ b, H b = none → β.H b = none ∨ β.F b := fun b z => by
      by_cases n : β.F b
      · exact .inr n
      · left
        cases q : β.H b with
        | none => rfl
        | some u => rw [r.hk b u q n] at z; cases z
    refine ⟨ln.trans r.len, r.g0.trans g0', r'.gh, fun b u q n => hk' b u (r.hk b u q n) fun z => ?_, fun b hb n q => ?_, fq, fun i s2 e2 => (hq i s2 e2).1, fun i b hi hb => ?_, fun i j b hi hj h1 h2 => ?_, fun b hb => ?_⟩
    · rcases (hFβ b z).2 with y | y
      · rw [q] at y; cases y
      · exact n y
    · obtain ⟨u, hu⟩ := Option.ne_none_iff_exists'.mp hb
      refine gk' b (by rw [r.hk b u hu n]; simp) (fun z => ?_) (r.gk b hb n q)
      rcases (hFβ b z).2 with y | y
      · exact hb y
      · exact n y
    · rcases (hq i _ (at2 i hi)).2 b hb with ⟨k, hk, _, y⟩ | y
      · refine ⟨(c2 k b hk y).1, ?_⟩
        rcases (c2 k b hk y).2 with z | z
        · exact βof b z
        · exact (hFβ b z).2
      · have hi' : i < env.length := by rw [← ln]; exact hi
        have z := s2 i b hi' y.1
        exact ⟨gk' b (thr i b hi' y.1) (fun x => y.2 (hFi i b hi' y.1 x)) z.1, z.2⟩
    · have hi' : i < env.length := by rw [← ln]; exact hi
      have hj' : j < env.length := by rw [← ln]; exact hj
      have cross : ∀ i j, i < env.length → j < env.length → (∃ k, k < env'.length ∧ (∃ p, as[k]? = some (.mu i p)) ∧ b ∈ fc k) → b ∈ fp j ∧ b ∉ f j → False := fun i j hi hj ⟨k, hk, _, y⟩ x => by
        rcases (c2 k b hk y).2 with z | z
        · exact thr j b hj x.1 z
        · exact x.2 (hFi j b hj x.1 z)
      rcases (hq i _ (at2 i hi)).2 b h1 with y | y
      · rcases (hq j _ (at2 j hj)).2 b h2 with x | x
        · obtain ⟨k, hk, ⟨p, hp⟩, yk⟩ := y
          obtain ⟨l, hl, ⟨q, hq'⟩, xl⟩ := x
          have := c3 k l b hk hl yk xl
          subst this
          rw [hp] at hq'; cases hq'
          rfl
        · exact (cross i j hi' hj' y x).elim
      · rcases (hq j _ (at2 j hj)).2 b h2 with x | x
        · exact (cross j i hj' hi' x y).elim
        · exact s3 i j b hi' hj' y.1 x.1
    · obtain ⟨d1, d2, d3, d4⟩ := c4 b hb
      refine ⟨d1, d2, ?_, fun i hi z => ?_⟩
      · rcases d3 with z | z
        · exact βof b z
        · exact (hFβ b z).2
      · have hi' : i < env.length := by rw [← ln]; exact hi
        rcases (hq i _ (at2 i hi)).2 b z with ⟨k, hk, _, y⟩ | y
        · exact d4 k hk y
        · rcases d3 with x | x
          · exact thr i b hi' y.1 x
          · exact y.2 (hFi i b hi' y.1 x)
end
end C
namespace C
open PySem PySem.Spec PyProof.Rows L2
/-- the lent slots of the first are those of the second, borrowed ones with the same content -/
def boSub : Env → Env → Prop
  | .bo o :: e, s :: e' => s = .bo o ∧ boSub e e'
  | .rf _ :: e, s :: e' => (∃ o, s = .rf o) ∧ boSub e e'
  | .un :: e, _ :: e' => boSub e e'
  | .ow _ :: e, _ :: e' => boSub e e'
  | [], _ => True
  | _ :: _, [] => False
theorem boSub_get : ∀ {e e' : Env} {i : Nat} {s : Slot}, boSub e e' → e[i]? = some s → (∀ o, s = .bo o → e'[i]? = some (.bo o)) ∧ (∀ o, s = .rf o → ∃ o', e'[i]? = some (.rf o'))
  | [], _, _, _, _, h => by simp at h
  | .bo o :: e, [], _, _, h, _ => (show False from h).elim
  | .rf o :: e, [], _, _, h, _ => (show False from h).elim
  | .un :: e, [], _, _, h, _ => (show False from h).elim
  | .ow o :: e, [], _, _, h, _ => (show False from h).elim
  | .bo o :: e, s' :: e', i, s, h, q => by
    cases i with
    | zero =>
      simp at q; subst q
      exact ⟨fun o' z => by cases z; simp [h.1], fun o' z => by cases z⟩
    | succ i => simpa using boSub_get (i := i) h.2 (by simpa using q)
  | .rf o :: e, s' :: e', i, s, h, q => by
    cases i with
    | zero =>
      simp at q; subst q
      obtain ⟨⟨o1, h1⟩, _⟩ := h
      exact ⟨fun o' z => (by cases z), fun o' z => ⟨o1, by simp [h1]⟩⟩
    | succ i => simpa using boSub_get (i := i) h.2 (by simpa using q)
  | .un :: e, s' :: e', i, s, h, q => by
    cases i with
    | zero => simp at q; subst q; exact ⟨fun o' z => (by cases z), fun o' z => (by cases z)⟩
    | succ i => simpa using boSub_get (e := e) (i := i) h (by simpa using q)
  | .ow o :: e, s' :: e', i, s, h, q => by
    cases i with
    | zero => simp at q; subst q; exact ⟨fun o' z => (by cases z), fun o' z => (by cases z)⟩
    | succ i => simpa using boSub_get (e := e) (i := i) h (by simpa using q)
section
variable {K : PySem.W.Frag} {cl : Nat → Addr} {H H' G G' : Hp} {β : Bs} {σ : L2.St} {env : Env} {X : List Addr}
/-- a slot is lent while a loop runs -/
theorem R.pin (r : R K cl β σ H G env []) {i : Nat} {s : Slot} {o : OV} (e : env[i]? = some s) (ho : ownS s = some o) :
    ∃ F : Addr → Prop, R K cl ⟨H, G, F, σ⟩ σ H G (env.set i (.bo o)) [] ∧ (∃ Hm : Hp, (∀ b u, Hm b = some u → H b = some u ∧ ¬ F b) ∧ Same G Hm ∧ ∃ v, σ[i]? = some (some v) ∧ RepB K cl Hm G o v) ∧
      ∀ (σ' : L2.St) (H' G' : Hp) (env2 : Env) (X' : List Addr), R K cl ⟨H, G, F, σ⟩ σ' H' G' env2 X' → env2[i]? = some (.bo o) → boSub env2 (env.set i (.bo o)) → R K cl β σ' H' G' (env2.set i (putS s o)) X' := by
  obtain ⟨fp, s1, s2, s3, s4⟩ := r.sl
  have hi : i < env.length := (List.getElem?_eq_some_iff.mp e).1
  have thr : ∀ i b, i < env.length → b ∈ fp i → H b ≠ none := fun i b hi hb => (s1 i env[i] (by simp [hi])).there b hb
  let F : Addr → Prop := fun b => ∃ j, j < env.length ∧ j ≠ i ∧ b ∈ fp j
  have hF : ∀ b, F b → G b = none ∧ (β.H b = none ∨ β.F b) := fun b ⟨j, h1, _, h3⟩ => s2 j b h1 h3
  have hFi : ∀ b ∈ fp i, ¬ F b := fun b hb ⟨j, h1, h2, h3⟩ => h2 (s3 j i b h1 hi h3 hb)
  have hHm : ∃ Hm : Hp, (∀ b u, Hm b = some u ↔ H b = some u ∧ ¬ F b) := by
    classical
    refine ⟨fun b => if F b then none else H b, fun b u => ?_⟩
    by_cases h : F b
    · simp [h]
    · simp [h]
  obtain ⟨Hm, hHm⟩ := hHm
  have gHm : Same G Hm := fun b u h => (hHm b u).mpr ⟨r.gh b u h, fun z => by rw [(hF b z).1] at h; cases h⟩
  obtain ⟨v, hv, ho1⟩ : ∃ v, σ.getD i none = some v ∧ RepO K cl H G o v (fp i) := by
    have q := s1 i s e
    cases s with
    | un => cases ho
    | bo o => cases ho
    | ow o' => cases ho; unfold SRep at q; exact q
    | rf o' => cases ho; unfold SRep at q; obtain ⟨v, q1, _, q2⟩ := q; exact ⟨v, q1, q2⟩
  have hb0 : RepB K cl Hm G o v := RepO.b _ _ _ (RepO.frame (Same.refl _) _ _ _ (fun b hb u h => (hHm b u).mpr ⟨h, hFi b hb⟩) ho1)
  have hσ := getD_some hv
  refine ⟨F, ⟨by rw [List.length_set, r.len], Same.refl _, r.gh, fun b u h _ => h, fun b _ _ h => h, fun j => if j = i then [] else fp j, fun j s' hs => ?_, fun j b hj hb => ?_, fun j k b hj hk h1 h2 => ?_, fun b hb => by cases hb⟩, ⟨Hm, fun b u h => (hHm b u).mp h, gHm, v, hσ, hb0⟩, ?_⟩
  · dsimp only
    by_cases ej : j = i
    · subst ej
      rw [if_pos rfl]
      rw [List.getElem?_set_self hi] at hs
      cases hs
      unfold SRep
      exact ⟨rfl, v, hv, hσ, Hm, fun b u h => (hHm b u).mp h, hb0⟩
    · rw [if_neg ej]
      rw [List.getElem?_set_ne (Ne.symm ej)] at hs
      have q := s1 j s' hs
      cases s' with
      | un => unfold SRep at q ⊢; exact q
      | ow o' => unfold SRep at q ⊢; exact q
      | rf o' =>
        unfold SRep at q ⊢
        obtain ⟨v', q1, q2, q3⟩ := q
        exact ⟨v', q1, getD_some q1, q3⟩
      | bo o' =>
        unfold SRep at q ⊢
        obtain ⟨q0, v', q1, q2, Hb, hb, q3⟩ := q
        refine ⟨q0, v', q1, getD_some q1, Hb, fun b u h => ⟨r.hk b u (hb b u h).1 (hb b u h).2, fun z => ?_⟩, RepB.same (Same.refl _) r.g0 _ _ q3⟩
        rcases (hF b z).2 with y | y
        · rw [(hb b u h).1] at y; cases y
        · exact (hb b u h).2 y
  · dsimp only at hb
    rw [List.length_set] at hj
    by_cases ej : j = i
    · rw [if_pos ej] at hb; cases hb
    · rw [if_neg ej] at hb
      exact ⟨(s2 j b hj hb).1, .inr ⟨j, hj, ej, hb⟩⟩
  · dsimp only at h1 h2
    rw [List.length_set] at hj hk
    by_cases ej : j = i
    · rw [if_pos ej] at h1; cases h1
    · by_cases ek : k = i
      · rw [if_pos ek] at h2; cases h2
      · rw [if_neg ej] at h1; rw [if_neg ek] at h2
        exact s3 j k b hj hk h1 h2
  · intro σ' H' G' env2 X' r' e2 bs
    obtain ⟨fc, c1, c2, c3, c4⟩ := r'.sl
    have hk' : ∀ b u, H b = some u → ¬ F b → H' b = some u := r'.hk
    have gk' : ∀ b, H b ≠ none → ¬ F b → G b = none → G' b = none := r'.gk
    have g0' : Same G G' := r'.g0
    have hi2 : i < env2.length := (List.getElem?_eq_some_iff.mp e2).1
    have βof : ∀ b, H b = none → β.H b = none ∨ β.F b := fun b z => by
      by_cases n : β.F b
      · exact .inr n
      · left
        cases q : β.H b with
        | none => rfl
        | some u => rw [r.hk b u q n] at z; cases z
    have nFi : ∀ b u, β.H b = some u → ¬ β.F b → ¬ F b := fun b u q n z => by
      rcases (hF b z).2 with y | y
      · rw [q] at y; cases y
      · exact n y
    have vi : σ'.getD i none = some v := by
      have q := c1 i _ e2
      unfold SRep at q
      obtain ⟨_, v', q1, q2, _⟩ := q
      have q2' : σ[i]? = some (some v') := q2
      rw [hσ] at q2'
      cases q2'
      exact q1
    have at2 : ∀ j (hj : j < env2.length), env2[j]? = some env2[j] := fun j hj => by simp [hj]
    have old : ∀ j o', env2[j]? = some (.rf o') → j ≠ i → β.σ[j]? = σ[j]? := fun j o' h hj => by
      obtain ⟨_, h2⟩ := boSub_get bs h
      obtain ⟨o1, h3⟩ := h2 o' rfl
      rw [List.getElem?_set_ne (Ne.symm hj)] at h3
      have q := s1 j _ h3
      unfold SRep at q
      obtain ⟨v', q1, q2, _⟩ := q
      rw [q2, getD_some q1]
    have oldb : ∀ j o', env2[j]? = some (.bo o') → j ≠ i → SRep K cl β H G j (σ.getD j none) (.bo o') (fp j) := fun j o' h hj => by
      obtain ⟨h2, _⟩ := boSub_get bs h
      have h3 := h2 o' rfl
      rw [List.getElem?_set_ne (Ne.symm hj)] at h3
      exact s1 j _ h3
    refine ⟨by rw [List.length_set, r'.len], r.g0.trans g0', r'.gh, fun b u q n => hk' b u (r.hk b u q n) (nFi b u q n), fun b hb n q => ?_, fun j => if j = i then fp i else fc j, fun j s' hs => ?_, fun j b hj hb => ?_, fun j k b hj hk h1 h2 => ?_, fun b hb => ?_⟩
    · obtain ⟨u, hu⟩ := Option.ne_none_iff_exists'.mp hb
      exact gk' b (by rw [r.hk b u hu n]; simp) (nFi b u hu n) (r.gk b hb n q)
    · dsimp only
      by_cases ej : j = i
      · subst ej
        rw [if_pos rfl]
        rw [List.getElem?_set_self hi2] at hs
        cases hs
        have q := RepO.frame g0' o v (fp j) (fun b hb u h => hk' b u h (hFi b hb)) ho1
        cases s with
        | un => cases ho
        | bo o => cases ho
        | ow o' => unfold putS SRep; exact ⟨v, vi, q⟩
        | rf o' =>
          have q0 := s1 j _ e
          unfold SRep at q0
          obtain ⟨v', q1, q2, _⟩ := q0
          rw [hv] at q1; cases q1
          unfold putS SRep
          exact ⟨v, vi, q2, q⟩
      · rw [if_neg ej]
        rw [List.getElem?_set_ne (Ne.symm ej)] at hs
        have q := c1 j s' hs
        cases s' with
        | un => unfold SRep at q ⊢; exact q
        | ow o' => unfold SRep at q ⊢; exact q
        | rf o' =>
          unfold SRep at q ⊢
          obtain ⟨v', q1, q2, q3⟩ := q
          exact ⟨v', q1, (old j o' hs ej).trans q2, q3⟩
        | bo o' =>
          unfold SRep at q
          obtain ⟨q0, v', q1, q2, _⟩ := q
          have z := oldb j o' hs ej
          unfold SRep at z ⊢
          obtain ⟨_, v2, z1, z2, z3⟩ := z
          have q2' : σ[j]? = some (some v') := q2
          rw [getD_some z1] at q2'
          cases q2'
          exact ⟨q0, _, q1, z2, z3⟩
    · dsimp only at hb
      rw [List.length_set] at hj
      by_cases ej : j = i
      · rw [if_pos ej] at hb
        have z := s2 i b hi hb
        exact ⟨gk' b (thr i b hi hb) (hFi b hb) z.1, z.2⟩
      · rw [if_neg ej] at hb
        refine ⟨(c2 j b hj hb).1, ?_⟩
        rcases (c2 j b hj hb).2 with z | z
        · exact βof b z
        · exact (hF b z).2
    · dsimp only at h1 h2
      rw [List.length_set] at hj hk
      have cross : ∀ k, k < env2.length → b ∈ fp i → b ∈ fc k → False := fun k hk h1 h2 => by
        rcases (c2 k b hk h2).2 with z | z
        · exact thr i b hi h1 z
        · exact hFi b h1 z
      by_cases ej : j = i
      · by_cases ek : k = i
        · exact ej.trans ek.symm
        · rw [if_pos ej] at h1; rw [if_neg ek] at h2
          exact (cross k hk h1 h2).elim
      · by_cases ek : k = i
        · rw [if_neg ej] at h1; rw [if_pos ek] at h2
          exact (cross j hj h2 h1).elim
        · rw [if_neg ej] at h1; rw [if_neg ek] at h2
          exact c3 j k b hj hk h1 h2
    · obtain ⟨d1, d2, d3, d4⟩ := c4 b hb
      refine ⟨d1, d2, ?_, fun j hj z => ?_⟩
      · rcases d3 with z | z
        · exact βof b z
        · exact (hF b z).2
      · dsimp only at z
        rw [List.length_set] at hj
        by_cases ej : j = i
        · rw [if_pos ej] at z
          rcases d3 with y | y
          · exact thr i b hi z y
          · exact hFi b z y
        · rw [if_neg ej] at z
          exact d4 j hj z
end
end C
namespace C
open PySem PySem.Spec PyProof.Rows L2
abbrev EX := Env → (MV → Prop) → Prop
abbrev QX := Env → (OV → Prop) → Prop
abbrev TX := Env → (Bool → Prop) → Prop
abbrev AX := Env → (List Ar → Prop) → Prop

section
variable (K : PySem.W.Frag) (cl : Nat → Addr)
def eOf (f : EX) : TE := fun σ H Q => ∃ β G env, R K cl β σ H G env [] ∧ f env fun m => ∀ v H' G', Ext H G H' G' → Rep K cl G' m v → Q v H'
def qOf (f : QX) : TE := fun σ H Q => ∃ β G env, R K cl β σ H G env [] ∧ f env fun o => ∀ v H' G', Ext H G H' G' → RepB K cl H' G' o v → Q v H'
def tOf (f : TX) : TT := fun σ H Q => ∃ β G env, R K cl β σ H G env [] ∧ f env fun b => ∀ H' G', Ext H G H' G' → Q b H'
def aOf (f : AX) : TA := fun σ H Q => ∃ β G env, R K cl β σ H G env [] ∧ f env fun as => ∀ vs H' G', Ext H G H' G' → ArReps K cl σ H' G' as vs → Q vs H'
end
structure ME (X : Cx) (cl : Nat → Addr) (E : Expr) (f : EX) : Prop where
  mo : ∀ env (Q Q' : MV → Prop), (∀ m, Q m → Q' m) → f env Q → f env Q'
  pe : PE X E (eOf X.K cl f)
structure MQ (X : Cx) (cl : Nat → Addr) (E : Expr) (f : QX) : Prop where
  mo : ∀ env (Q Q' : OV → Prop), (∀ m, Q m → Q' m) → f env Q → f env Q'
  pe : PE X E (qOf X.K cl f)
structure MT (X : Cx) (cl : Nat → Addr) (E : Expr) (f : TX) : Prop where
  mo : ∀ env (Q Q' : Bool → Prop), (∀ m, Q m → Q' m) → f env Q → f env Q'
  pt : PT X E (tOf X.K cl f)
structure MA (X : Cx) (cl : Nat → Addr) (es : List Expr) (f : AX) : Prop where
  mo : ∀ env (Q Q' : List Ar → Prop), (∀ m, Q m → Q' m) → f env Q → f env Q'
  pa : PA X es (aOf X.K cl f)
theorem PEmono {X : Cx} {e : Expr} {t t' : TE} (h : PE X e t) (k : ∀ σ H Q, t' σ H Q → t σ H Q) : PE X e t' := ⟨fun pins s σ H Q I q => h.run pins s σ H Q I (k σ H Q q)⟩
theorem PTmono {X : Cx} {e : Expr} {t t' : TT} (h : PT X e t) (k : ∀ σ H Q, t' σ H Q → t σ H Q) : PT X e t' := ⟨fun pins s σ H Q I q => h.run pins s σ H Q I (k σ H Q q)⟩
theorem PAmono {X : Cx} {e : List Expr} {t t' : TA} (h : PA X e t) (k : ∀ σ H Q, t' σ H Q → t σ H Q) : PA X e t' := ⟨fun pos pins s σ H Q I q => h.run pos pins s σ H Q I (k σ H Q q)⟩

/-! ### readers of values -/
def asInt (m : MV) (Q : Int → Prop) : Prop := match m with
  | .int i => Q i
  | _ => False
def asStr (m : MV) (Q : Str → Prop) : Prop := match m with
  | .str i => Q i
  | _ => False
def asBl (m : MV) (Q : Bool → Prop) : Prop := match m with
  | .bl i => Q i
  | _ => False
def asL (o : OV) (Q : List MV → Prop) : Prop := match o with
  | .lst ms => Q ms
  | .fro (.lst ms) => Q ms
  | _ => False
def asFro (o : OV) (Q : MV → Prop) : Prop := match o with
  | .fro m => Q m
  | _ => False
theorem asInt_mo {m : MV} {Q Q' : Int → Prop} (h : ∀ i, Q i → Q' i) : asInt m Q → asInt m Q' := by
  cases m <;> first | exact fun q => q.elim | exact h _
theorem asStr_mo {m : MV} {Q Q' : Str → Prop} (h : ∀ i, Q i → Q' i) : asStr m Q → asStr m Q' := by
  cases m <;> first | exact fun q => q.elim | exact h _
theorem asBl_mo {m : MV} {Q Q' : Bool → Prop} (h : ∀ i, Q i → Q' i) : asBl m Q → asBl m Q' := by
  cases m <;> first | exact fun q => q.elim | exact h _
theorem asL_mo {o : OV} {Q Q' : List MV → Prop} (h : ∀ i, Q i → Q' i) : asL o Q → asL o Q' := by
  cases o with
  | lst ms => exact h _
  | fro m => cases m <;> first | exact fun q => q.elim | exact h _
  | _ => exact fun q => q.elim
theorem asFro_mo {o : OV} {Q Q' : MV → Prop} (h : ∀ i, Q i → Q' i) : asFro o Q → asFro o Q' := by
  cases o <;> first | exact fun q => q.elim | exact h _
section
variable {K : PySem.W.Frag} {cl : Nat → Addr} {H G : Hp}
theorem asInt_rep {m : MV} {v : V} {Q : Int → Prop} (h : asInt m Q) (r : Rep K cl G m v) : ∃ i, m = .int i ∧ v = .int i ∧ Q i := by
  cases m <;> first | exact h.elim | exact ⟨_, rfl, (by unfold Rep at r; exact r), h⟩
theorem asStr_rep {m : MV} {v : V} {Q : Str → Prop} (h : asStr m Q) (r : Rep K cl G m v) : ∃ i, m = .str i ∧ v = .str i ∧ Q i := by
  cases m <;> first | exact h.elim | exact ⟨_, rfl, (by unfold Rep at r; exact r), h⟩
theorem asBl_rep {m : MV} {v : V} {Q : Bool → Prop} (h : asBl m Q) (r : Rep K cl G m v) : ∃ i, m = .bl i ∧ v = .bl i ∧ Q i := by
  cases m <;> first | exact h.elim | exact ⟨_, rfl, (by unfold Rep at r; exact r), h⟩
theorem asL_rep {o : OV} {v : V} {Q : List MV → Prop} (g : Same G H) (h : asL o Q) (r : RepB K cl H G o v) : ∃ ms a vs, v = .ref a ∧ H a = some (.lst vs) ∧ Reps K cl G ms vs ∧ Q ms := by
  cases o with
  | lst ms =>
    unfold RepB at r
    obtain ⟨a, vs, h1, h2, h3⟩ := r
    exact ⟨ms, a, vs, h1, h2, h3, h⟩
  | fro m =>
    cases m with
    | lst ms =>
      unfold RepB Rep at r
      obtain ⟨a, vs, h1, h2, h3⟩ := r
      exact ⟨ms, a, vs, h1, g _ _ h2, h3, h⟩
    | _ => exact h.elim
  | _ => exact h.elim
theorem Same.repB {H' G' : Hp} {o : OV} {v : V} (r : RepB K cl H G o v) (e : Ext H G H' G') : RepB K cl H' G' o v := RepB.same e.hh e.gg _ _ r
theorem new_lst {p : Addr} {ms : List MV} {vs : List V} (g : Same G H) (hp : H p = none) (r : Reps K cl G ms vs) : Rep K cl (upd G p (.lst vs)) (.lst ms) (.ref p) := by
  unfold Rep
  exact ⟨p, vs, rfl, upd_same, Reps.same (same_upd (g.free hp)) _ _ r⟩
theorem new_tup {p : Addr} {ms : List MV} {vs : List V} (g : Same G H) (hp : H p = none) (r : Reps K cl G ms vs) : Rep K cl (upd G p (.tup vs)) (.tup ms) (.ref p) := by
  unfold Rep
  exact ⟨p, vs, rfl, SqT.of upd_same, Reps.same (same_upd (g.free hp)) _ _ r⟩
end

/-! ### names, places, constants -/
def eQ (qa : QX) : EX := fun env Q => qa env fun o => asFro o Q
def qE (fa : EX) : QX := fun env Q => fa env fun m => Q (.fro m)
def eK (m : MV) : EX := fun _ Q => Q m
def qPl (i : Nat) (p : List Nat) : QX := fun env Q => match getP env i p with
  | some o => Q o
  | none => False
def fld38 (p : List Nat) : Bool := p.all fun f => Nat.blt f 38
theorem fld38_out {p : List Nat} (h : fld38 p = true) : ∀ f ∈ p, f < 38 := fun f hf => Nat.le_of_ble_eq_true (List.all_eq_true.mp h f hf)
/-- the path of a place, as the walk goes it -/
def plOf (K : PySem.W.Frag) (i : Nat) (p : List Nat) : TE := fun σ H Q => ∃ v0 w, σ[i]? = some (some v0) ∧ PAt K H v0 p w ∧ Q w H
abbrev MP (X : Cx) (E : Expr) (i : Nat) (p : List Nat) : Prop := PE X E (plOf X.K i p)
theorem PAt_snoc {K : PySem.W.Frag} {H : Hp} {k : Nat} : ∀ {p : List Nat} {v w : V}, PAt K H v (p ++ [k]) w → ∃ u, PAt K H v p u ∧ PAt K H u [k] w
  | [], v, w, h => ⟨v, rfl, h⟩
  | f :: p, v, w, ⟨a, C, dx, fs, u, h1, h2, h5, h3, h4⟩ => by
    obtain ⟨u', q1, q2⟩ := PAt_snoc (p := p) h4
    exact ⟨u', ⟨a, C, dx, fs, u, h1, h2, h5, h3, q1⟩, q2⟩
section
variable {X : Cx} {cl : Nat → Addr} {a b c : Expr} {fa fb fc : EX} {qa qb qc : QX} {ta tb : TX} {pos : Pos}
theorem mp_var (i : Nat) {x : Str} {pos : Pos} (hN : X.N[i]? = some x := by rfl) (hv : Vis X.env.scope x := by first | exact Or.inl rfl | exact Or.inr (Or.inl rfl) | exact Or.inr (Or.inr rfl)) (hd : (x == ("__debug__" : Str)) = false := by decide)
    (hcd : (x == ("__classdict__" : Str)) = false := by decide) : MP X (.Name x pos) i [] :=
  PEmono (pe_var hN hv hd hcd) fun σ H Q ⟨v0, w, h1, h2, h3⟩ => by cases h2; exact ⟨v0, h1, h3⟩
theorem mp_fld {i : Nat} {p : List Nat} (k : Nat) {f : Str} {pos : Pos} (h : MP X a i p) (hf : fn k = f := by rfl) (hb : attributeBase a f X.env (eval a X.env) = eval a X.env := by rfl) : MP X (.Attribute a f pos) i (p ++ [k]) :=
  PEmono (pe_fld h hb) fun σ H Q ⟨v0, w, h1, h2, h3⟩ => by
    obtain ⟨u, q1, a, C, dx, fs, u', e1, e2, e5, e3, e4⟩ := PAt_snoc h2
    subst hf
    exact ⟨v0, u, h1, q1, a, C, dx, fs, u', e1, e2, e5.1, e5.2, e3, by rw [show u' = w from e4]; exact h3⟩
/-- a place that is read -/
theorem mq_pl {i : Nat} {p : List Nat} (h : MP X a i p) (hp : fld38 p = true := by rfl) : MQ X cl a (qPl i p) := by
  refine ⟨fun env Q Q' k q => ?_, PEmono h fun σ H Q ⟨β, G, env, r0, q⟩ => ?_⟩
  · unfold qPl at q ⊢
    cases e : getP env i p with
    | none => rw [e] at q; exact q
    | some o => rw [e] at q; exact k o q
  · unfold qPl at q
    cases e : getP env i p with
    | none => rw [e] at q; exact q.elim
    | some o =>
      rw [e] at q
      obtain ⟨v0, w, h1, h2, h3⟩ := r0.rd (fld38_out hp) e
      exact ⟨v0, w, h1, h2, q w H G (Ext.refl r0.gh) h3⟩
theorem me_q (h : MQ X cl a qa) : ME X cl a (eQ qa) := by
  refine ⟨fun env Q Q' k q => h.mo _ _ _ (fun o z => asFro_mo k z) q, PEmono h.pe fun σ H Q ⟨β, G, env, r0, q⟩ => ?_⟩
  refine ⟨β, G, env, r0, h.mo _ _ _ (fun o z v H' G' e rb => ?_) q⟩
  cases o with
  | fro m =>
    unfold RepB at rb
    exact z v H' G' e rb
  | _ => exact z.elim
theorem mq_e (h : ME X cl a fa) : MQ X cl a (qE fa) := by
  refine ⟨fun env Q Q' k q => h.mo _ _ _ (fun o z => k _ z) q, PEmono h.pe fun σ H Q ⟨β, G, env, r0, q⟩ => ?_⟩
  exact ⟨β, G, env, r0, h.mo _ _ _ (fun m z v H' G' e rb => z v H' G' e (by unfold RepB; exact rb)) q⟩
theorem m_int {i : Int} {j} : ME X cl (.Constant (.int i) j pos) (eK (.int i)) :=
  ⟨fun _ _ _ k q => k _ q, PEmono pe_int fun σ H Q ⟨β, G, env, r0, q⟩ => q _ H G (Ext.refl r0.gh) (by unfold Rep; rfl)⟩
theorem m_bl {i : Bool} {j} : ME X cl (.Constant (.bool i) j pos) (eK (.bl i)) :=
  ⟨fun _ _ _ k q => k _ q, PEmono pe_bl fun σ H Q ⟨β, G, env, r0, q⟩ => q _ H G (Ext.refl r0.gh) (by unfold Rep; rfl)⟩
theorem m_non {j} : ME X cl (.Constant .none j pos) (eK .non) :=
  ⟨fun _ _ _ k q => k _ q, PEmono pe_non fun σ H Q ⟨β, G, env, r0, q⟩ => q _ H G (Ext.refl r0.gh) (by unfold Rep; rfl)⟩
theorem m_str {x : Str} {j} : ME X cl (.Constant (.str x) j pos) (eK (.str x)) :=
  ⟨fun _ _ _ k q => k _ q, PEmono pe_str fun σ H Q ⟨β, G, env, r0, q⟩ => q _ H G (Ext.refl r0.gh) (by unfold Rep; rfl)⟩

/-! ### two operands -/
theorem m_bin {op : Operator} {r : R2} (ho : OpR X (binaryOp op) r) (g : OV → OV → (MV → Prop) → Prop) (gm : ∀ m n Q Q', (∀ k, Q k → Q' k) → g m n Q → g m n Q')
    (h : ∀ m n x y H G (Q : VK), Same G H → RepB X.K cl H G m x → RepB X.K cl H G n y → g m n (fun k => ∀ v H' G', Ext H G H' G' → Rep X.K cl G' k v → Q v H') → r x y H Q)
    (ha : MQ X cl a qa) (hb : MQ X cl b qb) : ME X cl (.BinOp a op b pos) (fun env Q => qa env fun m => qb env fun n => g m n Q) := by
  refine ⟨fun env Q Q' k q => ha.mo _ _ _ (fun m z => hb.mo _ _ _ (fun n z' => gm m n _ _ k z') z) q, PEmono (pe_op ho ha.pe hb.pe) fun σ H Q ⟨β, G, env, r0, q⟩ => ?_⟩
  refine ⟨β, G, env, r0, ha.mo _ _ _ (fun m q1 v H' G' e1 rv => ?_) q⟩
  refine ⟨β, G', env, r0.ext e1, hb.mo _ _ _ (fun n q2 w H2 G2 e2 rw => ?_) q1⟩
  exact h m n v w H2 G2 Q e2.gh (Same.repB rv e2) rw (gm _ _ _ _ (fun k q3 z H3 G3 e3 rz => q3 z H3 G3 ((e1.trans e2).trans e3) rz) q2)
def gI (C : Int → Int → Prop) (g : Int → Int → MV) (m n : OV) (Q : MV → Prop) : Prop := asFro m fun m => asFro n fun n => asInt m fun i => asInt n fun j => C i j ∧ Q (g i j)
theorem gI_mo {C : Int → Int → Prop} {g : Int → Int → MV} : ∀ m n (Q Q' : MV → Prop), (∀ k, Q k → Q' k) → gI C g m n Q → gI C g m n Q' := fun m n Q Q' k q =>
  asFro_mo (fun _ q => asFro_mo (fun _ q => asInt_mo (fun _ q => asInt_mo (fun _ q => ⟨q.1, k _ q.2⟩) q) q) q) q
theorem gI_out {C : Int → Int → Prop} {g : Int → Int → MV} {K : PySem.W.Frag} {H G : Hp} {m n : OV} {x y : V} {Q : MV → Prop} (rx : RepB K cl H G m x) (ry : RepB K cl H G n y) (q : gI C g m n Q) : ∃ i j, x = .int i ∧ y = .int j ∧ C i j ∧ Q (g i j) := by
  unfold gI at q
  cases m with
  | fro m =>
    cases n with
    | fro n =>
      unfold RepB at rx ry
      obtain ⟨i, rfl, rfl, q⟩ := asInt_rep (show asInt m _ from q) rx
      obtain ⟨j, rfl, rfl, q⟩ := asInt_rep q ry
      exact ⟨i, j, rfl, rfl, q⟩
    | _ => exact (asFro_mo (Q' := fun _ => False) (fun _ z => z) q).elim
  | _ => exact q.elim
def MulOk (i j : Int) : Prop := i.natAbs < 2 ^ 64 ∨ j.natAbs < 2 ^ 64 ∨ i.natAbs.log2 + j.natAbs.log2 < 1000000
theorem op_mulX : OpR X (binaryOp .Mult) (rI MulOk fun i j => .int (i * j)) := opI fun i j _ _ _ _ _ hc q => mul_int q (by
  rcases hc with h | h | h
  · exact CMul.ok (.inl ⟨by omega, by omega⟩)
  · exact CMul.ok (.inr ⟨by omega, by omega⟩)
  · exact CMulW.ok h)
theorem iop_mulX : OpR X (inplaceOp .Mult) (rI MulOk fun i j => .int (i * j)) := opI fun i j _ _ _ _ _ hc q => imul_int q (by
  rcases hc with h | h | h
  · exact CMul.ok (.inl ⟨by omega, by omega⟩)
  · exact CMul.ok (.inr ⟨by omega, by omega⟩)
  · exact CMulW.ok h)
theorem iop_fdivW : OpR X (inplaceOp .FloorDiv) (rI CDivW fun i j => .int (i / j)) := opI fun i j _ _ _ _ _ hc q => by
  have h1 : (0 : Int) < j := hc.1
  exact ifloordiv_int (by omega) (by rw [Int.fdiv_eq_ediv_of_nonneg i (by omega)]; exact q) (.inl (PyProof.noPylong_of_log2 hc.2))
def gI0 (g : Int → Int → MV) (m n : OV) (Q : MV → Prop) : Prop := asFro m fun m => asFro n fun n => asInt m fun i => asInt n fun j => Q (g i j)
theorem gI0_mo {g : Int → Int → MV} : ∀ m n (Q Q' : MV → Prop), (∀ k, Q k → Q' k) → gI0 g m n Q → gI0 g m n Q' := fun m n Q Q' k q =>
  asFro_mo (fun _ q => asFro_mo (fun _ q => asInt_mo (fun _ q => asInt_mo (fun _ q => k _ q) q) q) q) q
theorem gI0_out {g : Int → Int → MV} {K : PySem.W.Frag} {H G : Hp} {m n : OV} {x y : V} {Q : MV → Prop} (rx : RepB K cl H G m x) (ry : RepB K cl H G n y) (q : gI0 g m n Q) : ∃ i j, x = .int i ∧ y = .int j ∧ Q (g i j) := by
  unfold gI0 at q
  cases m with
  | fro m =>
    cases n with
    | fro n =>
      unfold RepB at rx ry
      obtain ⟨i, rfl, rfl, q⟩ := asInt_rep (show asInt m _ from q) rx
      obtain ⟨j, rfl, rfl, q⟩ := asInt_rep q ry
      exact ⟨i, j, rfl, rfl, q⟩
    | _ => exact (asFro_mo (Q' := fun _ => False) (fun _ z => z) q).elim
  | _ => exact q.elim
def gSubI := gI0 fun i j => .int (i - j)
def gMulI := gI MulOk fun i j => .int (i * j)
def gDivI := gI CDivW fun i j => .int (i / j)
def gModI := gI (fun _ j => 0 < j) fun i j => .int (i % j)
def gPowI := gI CPow fun i j => .int (i ^ j.toNat)
def eBin (g : OV → OV → (MV → Prop) → Prop) (qa qb : QX) : EX := fun env Q => qa env fun m => qb env fun n => g m n Q
theorem rep_int {K : PySem.W.Frag} {G : Hp} {i : Int} : Rep K cl G (.int i) (.int i) := by unfold Rep; rfl
theorem rep_bl {K : PySem.W.Frag} {G : Hp} {i : Bool} : Rep K cl G (.bl i) (.bl i) := by unfold Rep; rfl
theorem rep_str {K : PySem.W.Frag} {G : Hp} {i : Str} : Rep K cl G (.str i) (.str i) := by unfold Rep; rfl
theorem rep_non {K : PySem.W.Frag} {G : Hp} : Rep K cl G .non .non := by unfold Rep; rfl
theorem m_subI (ha : MQ X cl a qa) (hb : MQ X cl b qb) : ME X cl (.BinOp a .Sub b pos) (eBin gSubI qa qb) :=
  m_bin op_sub gSubI gI0_mo (fun m n x y H G Q g rx ry q => by obtain ⟨i, j, rfl, rfl, q⟩ := gI0_out rx ry q; exact ⟨i, j, rfl, rfl, q _ H G (Ext.refl g) rep_int⟩) ha hb
theorem m_mulI (ha : MQ X cl a qa) (hb : MQ X cl b qb) : ME X cl (.BinOp a .Mult b pos) (eBin gMulI qa qb) :=
  m_bin op_mulX gMulI gI_mo (fun m n x y H G Q g rx ry q => by obtain ⟨i, j, rfl, rfl, c, q⟩ := gI_out rx ry q; exact ⟨i, j, rfl, rfl, c, q _ H G (Ext.refl g) rep_int⟩) ha hb
theorem m_divI (ha : MQ X cl a qa) (hb : MQ X cl b qb) : ME X cl (.BinOp a .FloorDiv b pos) (eBin gDivI qa qb) :=
  m_bin op_fdivW gDivI gI_mo (fun m n x y H G Q g rx ry q => by obtain ⟨i, j, rfl, rfl, c, q⟩ := gI_out rx ry q; exact ⟨i, j, rfl, rfl, c, q _ H G (Ext.refl g) rep_int⟩) ha hb
theorem m_modI (ha : MQ X cl a qa) (hb : MQ X cl b qb) : ME X cl (.BinOp a .Mod b pos) (eBin gModI qa qb) :=
  m_bin op_mod gModI gI_mo (fun m n x y H G Q g rx ry q => by obtain ⟨i, j, rfl, rfl, c, q⟩ := gI_out rx ry q; exact ⟨i, j, rfl, rfl, c, q _ H G (Ext.refl g) rep_int⟩) ha hb
theorem m_powI (ha : MQ X cl a qa) (hb : MQ X cl b qb) : ME X cl (.BinOp a .Pow b pos) (eBin gPowI qa qb) :=
  m_bin op_pow gPowI gI_mo (fun m n x y H G Q g rx ry q => by obtain ⟨i, j, rfl, rfl, c, q⟩ := gI_out rx ry q; exact ⟨i, j, rfl, rfl, c, q _ H G (Ext.refl g) rep_int⟩) ha hb
/-- + of whatever can be added -/
def gAdd (m n : OV) (Q : MV → Prop) : Prop := match m, n with
  | .fro (.int i), .fro (.int j) => Q (.int (i + j))
  | .fro (.str x), .fro (.str y) => x.length + y.length ≤ sizeLine ∧ Q (.str (x ++ y))
  | .fro (.tup xs), .fro (.tup ys) => (xs ≠ [] ∧ ys ≠ [] ∧ xs.length + ys.length ≤ sizeLine) ∧ Q (.tup (xs ++ ys))
  | m, n => asL m fun xs => asL n fun ys => xs.length + ys.length ≤ sizeLine ∧ Q (.lst (xs ++ ys))
end
end C
namespace C
open PySem PySem.Spec PyProof.Rows L2
/-! data as the library's == takes it -/
mutual
def toD : MV → Option PyData
  | .non => some .none
  | .bl b => some (.bool b)
  | .int i => some (.int i)
  | .str x => some (.str x)
  | .lst ms => match toDs ms with
    | some ds => some (.list ds)
    | none => none
  | .tup ms => match toDs ms with
    | some ds => some (.tuple ds)
    | none => none
  | .obj _ _ => none
def toDs : List MV → Option (List PyData)
  | [] => some []
  | m :: ms => match toD m with
    | some d => match toDs ms with
      | some ds => some (d :: ds)
      | none => none
    | none => none
end
def toDO : OV → Option PyData
  | .fro m => toD m
  | .lst ms => toD (.lst ms)
  | _ => none
section
variable {K : PySem.W.Frag} {cl : Nat → Addr} {H H' G G' : Hp}
mutual
theorem Rep.dp (g : Same G H) : ∀ (m : MV) (v : V) (d : PyData), Rep K cl G m v → toD m = some d → Dp K H v d
  | .non, v, d, h, e => by
    unfold toD at e; cases e
    unfold Rep at h; subst h
    exact .non
  | .bl b, v, d, h, e => by
    unfold toD at e; cases e
    unfold Rep at h; subst h
    exact .bl b
  | .int b, v, d, h, e => by
    unfold toD at e; cases e
    unfold Rep at h; subst h
    exact .int b
  | .str b, v, d, h, e => by
    unfold toD at e; cases e
    unfold Rep at h; subst h
    exact .str b
  | .lst ms, v, d, h, e => by
    unfold toD at e
    cases q : toDs ms with
    | none => rw [q] at e; cases e
    | some ds =>
      rw [q] at e; cases e
      unfold Rep at h
      obtain ⟨a, vs, rfl, h2, h3⟩ := h
      exact .lst (SqL.of (g _ _ h2)) (Reps.dp g ms vs ds h3 q)
  | .tup ms, v, d, h, e => by
    unfold toD at e
    cases q : toDs ms with
    | none => rw [q] at e; cases e
    | some ds =>
      rw [q] at e; cases e
      unfold Rep at h
      obtain ⟨a, vs, rfl, h2, h3⟩ := h
      exact .tup (sqT_same g h2) (Reps.dp g ms vs ds h3 q)
  | .obj _ _, v, d, h, e => by unfold toD at e; cases e
theorem Reps.dp (g : Same G H) : ∀ (ms : List MV) (vs : List V) (ds : List PyData), Reps K cl G ms vs → toDs ms = some ds → DpAll K H vs ds
  | [], vs, ds, h, e => by
    unfold toDs at e; cases e
    unfold Reps at h; subst h
    exact .nil
  | m :: ms, vs, ds, h, e => by
    unfold toDs at e
    cases q : toD m with
    | none => rw [q] at e; cases e
    | some d =>
      rw [q] at e
      cases q' : toDs ms with
      | none => simp only [q'] at e; cases e
      | some ds' =>
        simp only [q'] at e; cases e
        unfold Reps at h
        obtain ⟨v, ws, rfl, h2, h3⟩ := h
        exact .cons (Rep.dp g m v d h2 q) (Reps.dp g ms ws ds' h3 q')
end
theorem RepB.dp {o : OV} {v : V} {d : PyData} (g : Same G H) (h : RepB K cl H G o v) (e : toDO o = some d) : Dp K H v d := by
  cases o with
  | fro m =>
    unfold RepB at h
    exact Rep.dp g m v d h e
  | lst ms =>
    unfold RepB at h
    obtain ⟨a, vs, rfl, h2, h3⟩ := h
    have e' : toD (.lst ms) = some d := e
    unfold toD at e'
    cases q : toDs ms with
    | none => rw [q] at e'; cases e'
    | some ds =>
      rw [q] at e'; cases e'
      exact .lst (SqL.of h2) (Reps.dp g ms vs ds h3 q)
  | _ => cases e
end
/-! ### comparisons -/
section
variable {X : Cx} {cl : Nat → Addr} {a b c : Expr} {fa fb fc : EX} {qa qb qc : QX} {ta tb : TX} {pos : Pos}
/-- a test's answer, never unfolded -/
@[irreducible] noncomputable def dB (p : Prop) : Bool := @decide p (Classical.propDecidable p)
theorem dB_eq {p : Prop} [Decidable p] : dB p = decide p := by
  unfold dB
  congr
def eqQ (neg : Bool) (p : Prop) (Q : Bool → Prop) : Prop := match neg with
  | true => Q (dB (¬ p))
  | false => Q (dB p)
theorem eqQ_eq {neg : Bool} {p : Prop} [Decidable p] {Q : Bool → Prop} (q : eqQ neg p Q) : Q (neg ^^ decide p) := by
  cases neg
  · have q' : Q (dB p) := q
    rw [dB_eq] at q'
    simpa using q'
  · have q' : Q (dB (¬ p)) := q
    rw [dB_eq] at q'
    simpa using q'
theorem eqQ_mo {neg : Bool} {p : Prop} {Q Q' : Bool → Prop} (k : ∀ b, Q b → Q' b) (q : eqQ neg p Q) : eqQ neg p Q' := by
  cases neg
  · exact k _ q
  · exact k _ q
abbrev GR := OV → OV → (Bool → Prop) → Prop
/-- a comparison, by values -/
structure GC (X : Cx) (cl : Nat → Addr) (op : CmpOp) (g : GR) : Prop where
  mo : ∀ m n (Q Q' : Bool → Prop), (∀ k, Q k → Q' k) → g m n Q → g m n Q'
  ex : ∃ r : R2, OpR X (compareOp op) r ∧ ∀ m n x y H G (Q : VK), Same G H → RepB X.K cl H G m x → RepB X.K cl H G n y → g m n (fun k => Q (.bl k) H) → r x y H Q
noncomputable def gLt : GR := fun m n Q => asFro m fun m => asFro n fun n => asInt m fun i => asInt n fun j => Q (dB (i < j))
noncomputable def gLe : GR := fun m n Q => asFro m fun m => asFro n fun n => asInt m fun i => asInt n fun j => Q (dB (i ≤ j))
noncomputable def gGt : GR := fun m n Q => asFro m fun m => asFro n fun n => asInt m fun i => asInt n fun j => Q (dB (j < i))
noncomputable def gGe : GR := fun m n Q => asFro m fun m => asFro n fun n => asInt m fun i => asInt n fun j => Q (dB (j ≤ i))
theorem g2_mo {p : Int → Int → Bool} : ∀ m n (Q Q' : Bool → Prop), (∀ k, Q k → Q' k) → (asFro m fun m => asFro n fun n => asInt m fun i => asInt n fun j => Q (p i j)) → (asFro m fun m => asFro n fun n => asInt m fun i => asInt n fun j => Q' (p i j)) :=
  fun m n Q Q' k q => asFro_mo (fun _ q => asFro_mo (fun _ q => asInt_mo (fun _ q => asInt_mo (fun _ q => k _ q) q) q) q) q
theorem g2_out {p : Int → Int → Bool} {K : PySem.W.Frag} {H G : Hp} {m n : OV} {x y : V} {Q : Bool → Prop} (rx : RepB K cl H G m x) (ry : RepB K cl H G n y) (q : asFro m fun m => asFro n fun n => asInt m fun i => asInt n fun j => Q (p i j)) : ∃ i j, x = .int i ∧ y = .int j ∧ Q (p i j) := by
  cases m with
  | fro m =>
    cases n with
    | fro n =>
      unfold RepB at rx ry
      obtain ⟨i, rfl, rfl, q⟩ := asInt_rep (show asInt m _ from q) rx
      obtain ⟨j, rfl, rfl, q⟩ := asInt_rep q ry
      exact ⟨i, j, rfl, rfl, q⟩
    | _ => exact (asFro_mo (Q' := fun _ => False) (fun _ z => z) q).elim
  | _ => exact q.elim
theorem gc_lt : GC X cl .Lt gLt := ⟨g2_mo, _, op_lt, fun m n x y H G Q g rx ry q => by obtain ⟨i, j, rfl, rfl, q⟩ := g2_out (p := fun i j => dB (i < j)) (Q := fun k => Q (.bl k) H) rx ry q; exact ⟨i, j, rfl, rfl, by rw [dB_eq] at q; exact q⟩⟩
theorem gc_le : GC X cl .LtE gLe := ⟨g2_mo, _, op_le, fun m n x y H G Q g rx ry q => by obtain ⟨i, j, rfl, rfl, q⟩ := g2_out (p := fun i j => dB (i ≤ j)) (Q := fun k => Q (.bl k) H) rx ry q; exact ⟨i, j, rfl, rfl, by rw [dB_eq] at q; exact q⟩⟩
theorem gc_gt : GC X cl .Gt gGt := ⟨g2_mo, _, op_gt, fun m n x y H G Q g rx ry q => by obtain ⟨i, j, rfl, rfl, q⟩ := g2_out (p := fun i j => dB (j < i)) (Q := fun k => Q (.bl k) H) rx ry q; exact ⟨i, j, rfl, rfl, by rw [dB_eq] at q; exact q⟩⟩
theorem gc_ge : GC X cl .GtE gGe := ⟨g2_mo, _, op_ge, fun m n x y H G Q g rx ry q => by obtain ⟨i, j, rfl, rfl, q⟩ := g2_out (p := fun i j => dB (j ≤ i)) (Q := fun k => Q (.bl k) H) rx ry q; exact ⟨i, j, rfl, rfl, by rw [dB_eq] at q; exact q⟩⟩
/-- == of nested data: not unfolded by itself -/
inductive gEqD (neg : Bool) (m n : OV) (Q : Bool → Prop) : Prop where
  | mk (d e : PyData) (h1 : toDO m = some d) (h2 : toDO n = some e) (h3 : SeqAt.shaped d = true ∧ SeqAt.shaped e = true) (q : eqQ neg (PyData.eqv d e = true) Q) : gEqD neg m n Q
/-- == : the answer p of the library's answer -/
def gEqP (neg : Bool) : GR := fun m n Q => match m, n with
  | .fro (.int i), .fro (.int j) => eqQ neg (i = j) Q
  | .fro (.str i), .fro (.str j) => eqQ neg (i = j) Q
  | .fro (.bl i), .fro (.bl j) => eqQ neg (i = j) Q
  | m, n => gEqD neg m n Q
abbrev gEq : GR := gEqP false
abbrev gNe : GR := gEqP true
theorem gEqP_cases {neg : Bool} {m n : OV} {Q : Bool → Prop} (q : gEqP neg m n Q) : (∃ i j, m = .fro (.int i) ∧ n = .fro (.int j) ∧ Q (neg ^^ decide (i = j))) ∨ (∃ i j, m = .fro (.str i) ∧ n = .fro (.str j) ∧ Q (neg ^^ decide (i = j))) ∨
    (∃ i j, m = .fro (.bl i) ∧ n = .fro (.bl j) ∧ Q (neg ^^ decide (i = j))) ∨ ∃ d e, toDO m = some d ∧ toDO n = some e ∧ SeqAt.shaped d = true ∧ SeqAt.shaped e = true ∧ Q (neg ^^ PyData.eqv d e) := by
  unfold gEqP at q
  split at q
  · exact .inl ⟨_, _, rfl, rfl, eqQ_eq q⟩
  · exact .inr (.inl ⟨_, _, rfl, rfl, eqQ_eq q⟩)
  · exact .inr (.inr (.inl ⟨_, _, rfl, rfl, eqQ_eq q⟩))
  · obtain ⟨d, e, h1, h2, h3, q⟩ := q
    exact .inr (.inr (.inr ⟨_, _, h1, h2, h3.1, h3.2, by have := eqQ_eq q; simpa using this⟩))
theorem gEqP_mo {neg : Bool} : ∀ m n (Q Q' : Bool → Prop), (∀ k, Q k → Q' k) → gEqP neg m n Q → gEqP neg m n Q' := by
  intro m n Q Q' k q
  unfold gEqP at q ⊢
  split at q
  · exact eqQ_mo k q
  · exact eqQ_mo k q
  · exact eqQ_mo k q
  · obtain ⟨d, e, h1, h2, h3, q⟩ := q
    exact .mk d e h1 h2 h3 (eqQ_mo k q)
theorem gc_eq (hu : X.A.units + 64 < cLine) : GC X cl .Eq gEq := by
  refine ⟨gEqP_mo, _, op_eq.or (op_eqD hu), fun m n x y H G Q g rx ry q => ?_⟩
  rcases gEqP_cases q with ⟨i, j, rfl, rfl, q1⟩ | ⟨i, j, rfl, rfl, q1⟩ | ⟨i, j, rfl, rfl, q1⟩ | ⟨d, e, h1, h2, h3, h4, q1⟩
  · unfold RepB Rep at rx ry; subst rx; subst ry
    refine .inl ⟨rfl, ?_⟩
    have e : (decide (V.int i = V.int j)) = (false ^^ decide (i = j)) := by simp
    rw [e]
    exact q1
  · unfold RepB Rep at rx ry; subst rx; subst ry
    refine .inl ⟨rfl, ?_⟩
    have e : (decide (V.str i = V.str j)) = (false ^^ decide (i = j)) := by simp
    rw [e]
    exact q1
  · unfold RepB Rep at rx ry; subst rx; subst ry
    refine .inl ⟨rfl, ?_⟩
    have e : (decide (V.bl i = V.bl j)) = (false ^^ decide (i = j)) := by simp
    rw [e]
    exact q1
  · exact .inr ⟨d, e, rx.dp g h1, ry.dp g h2, h3, h4, by simpa using q1⟩
theorem gc_ne (hu : X.A.units + 64 < cLine) : GC X cl .NotEq gNe := by
  refine ⟨gEqP_mo, _, op_ne.or (op_neD hu), fun m n x y H G Q g rx ry q => ?_⟩
  rcases gEqP_cases q with ⟨i, j, rfl, rfl, q1⟩ | ⟨i, j, rfl, rfl, q1⟩ | ⟨i, j, rfl, rfl, q1⟩ | ⟨d, e, h1, h2, h3, h4, q1⟩
  · unfold RepB Rep at rx ry; subst rx; subst ry
    refine .inl ⟨rfl, ?_⟩
    have e : (!decide (V.int i = V.int j)) = (true ^^ decide (i = j)) := by simp
    rw [e]
    exact q1
  · unfold RepB Rep at rx ry; subst rx; subst ry
    refine .inl ⟨rfl, ?_⟩
    have e : (!decide (V.str i = V.str j)) = (true ^^ decide (i = j)) := by simp
    rw [e]
    exact q1
  · unfold RepB Rep at rx ry; subst rx; subst ry
    refine .inl ⟨rfl, ?_⟩
    have e : (!decide (V.bl i = V.bl j)) = (true ^^ decide (i = j)) := by simp
    rw [e]
    exact q1
  · exact .inr ⟨d, e, rx.dp g h1, ry.dp g h2, h3, h4, by simpa using q1⟩
/-- is, is not: None or a truth value on the right -/
def isNon : OV → Bool
  | .fro .non => true
  | _ => false
def gIsP (neg : Bool) : GR := fun m n Q => match n with
  | .fro .non => Q (neg ^^ isNon m)
  | .fro (.bl j) => asFro m fun m => asBl m fun i => Q (neg ^^ (i == j))
  | _ => False
theorem gIsP_mo {neg : Bool} : ∀ m n (Q Q' : Bool → Prop), (∀ k, Q k → Q' k) → gIsP neg m n Q → gIsP neg m n Q' := by
  intro m n Q Q' k q
  unfold gIsP at q ⊢
  split at q
  · exact k _ q
  · exact asFro_mo (fun _ q => asBl_mo (fun _ q => k _ q) q) q
  · exact q.elim
theorem isNon_rep {K : PySem.W.Frag} {H G : Hp} {m : OV} {x : V} (r : RepB K cl H G m x) : decide (x = .non) = isNon m := by
  cases m with
  | fro m =>
    cases m with
    | non => unfold RepB Rep at r; subst r; rfl
    | tup ms => unfold RepB Rep at r; obtain ⟨a, vs, rfl, _⟩ := r; rfl
    | lst ms => unfold RepB Rep at r; obtain ⟨a, vs, rfl, _⟩ := r; rfl
    | obj c ms => unfold RepB Rep at r; obtain ⟨a, dx, vs, rfl, _⟩ := r; rfl
    | _ => unfold RepB Rep at r; subst r; rfl
  | lst ms => unfold RepB at r; obtain ⟨a, vs, rfl, _⟩ := r; rfl
  | scr ms => unfold RepB at r; obtain ⟨a, vs, rfl, _⟩ := r; rfl
  | dct ms => unfold RepB at r; obtain ⟨a, vs, rfl, _⟩ := r; rfl
  | obj c ms => unfold RepB at r; obtain ⟨a, dx, vs, rfl, _⟩ := r; rfl
theorem op_is_bl : OpR X (compareOp .Is) (fun x y H Q => ∃ i j, x = .bl i ∧ y = .bl j ∧ Q (.bl (i == j)) H) := by
  intro pins s σ H x y v u Q I rx ry h
  obtain ⟨i, j, rfl, rfl, q⟩ := h
  cases rx; cases ry
  exact PyProof.Rows.is_bool (fin_bl I q rfl)
theorem op_isnot_bl : OpR X (compareOp .IsNot) (fun x y H Q => ∃ i j, x = .bl i ∧ y = .bl j ∧ Q (.bl (!(i == j))) H) := by
  intro pins s σ H x y v u Q I rx ry h
  obtain ⟨i, j, rfl, rfl, q⟩ := h
  cases rx; cases ry
  exact PyProof.Rows.isnot_bool (fin_bl I q rfl)
theorem gc_is : GC X cl .Is (gIsP false) := by
  refine ⟨gIsP_mo, _, op_isN.or op_is_bl, fun m n x y H G Q g rx ry q => ?_⟩
  unfold gIsP at q
  split at q
  · unfold RepB Rep at ry; subst ry
    exact .inl ⟨rfl, by rw [isNon_rep rx]; simpa using q⟩
  · unfold RepB Rep at ry; subst ry
    cases m with
    | fro m =>
      unfold RepB at rx
      obtain ⟨i, rfl, rfl, q⟩ := asBl_rep (show asBl m _ from q) rx
      exact .inr ⟨i, _, rfl, rfl, by simpa using q⟩
    | _ => exact q.elim
  · exact q.elim
theorem gc_isnot : GC X cl .IsNot (gIsP true) := by
  refine ⟨gIsP_mo, _, op_notN.or op_isnot_bl, fun m n x y H G Q g rx ry q => ?_⟩
  unfold gIsP at q
  split at q
  · unfold RepB Rep at ry; subst ry
    exact .inl ⟨rfl, by rw [isNon_rep rx]; simpa using q⟩
  · unfold RepB Rep at ry; subst ry
    cases m with
    | fro m =>
      unfold RepB at rx
      obtain ⟨i, rfl, rfl, q⟩ := asBl_rep (show asBl m _ from q) rx
      exact .inr ⟨i, _, rfl, rfl, by simpa using q⟩
    | _ => exact q.elim
  · exact q.elim
def tCmp (g : GR) (qa qb : QX) : TX := fun env Q => qa env fun m => qb env fun n => g m n Q
def eB (t : TX) : EX := fun env Q => t env fun k => Q (.bl k)
theorem tCmp_mo {op : CmpOp} {g : GR} (hg : GC X cl op g) (ha : MQ X cl a qa) (hb : MQ X cl b qb) (env : Env) (Q Q' : Bool → Prop) (k : ∀ m, Q m → Q' m) : tCmp g qa qb env Q → tCmp g qa qb env Q' := fun q =>
  ha.mo _ _ _ (fun m z => hb.mo _ _ _ (fun n z' => hg.mo m n _ _ k z') z) q
theorem tCmp_run {op : CmpOp} {g : GR} {r : R2} (hg : GC X cl op g) (h : ∀ m n x y H G (Q : VK), Same G H → RepB X.K cl H G m x → RepB X.K cl H G n y → g m n (fun k => Q (.bl k) H) → r x y H Q) (ha : MQ X cl a qa) (hb : MQ X cl b qb)
    {β : Bs} {σ : L2.St} {H G : Hp} {env : Env} {Q : VK} (r0 : R X.K cl β σ H G env []) (q : tCmp g qa qb env fun k => ∀ H' G', Ext H G H' G' → Q (.bl k) H') : tOp r (qOf X.K cl qa) (qOf X.K cl qb) σ H Q := by
  refine ⟨β, G, env, r0, ha.mo _ _ _ (fun m q1 v H' G' e1 rv => ?_) q⟩
  refine ⟨β, G', env, r0.ext e1, hb.mo _ _ _ (fun n q2 w H2 G2 e2 rw => ?_) q1⟩
  exact h m n v w H2 G2 Q e2.gh (Same.repB rv e2) rw (hg.mo _ _ _ _ (fun k q3 => q3 H2 G2 (e1.trans e2)) q2)
theorem m_cmp {op : CmpOp} {g : GR} (hg : GC X cl op g) (ha : MQ X cl a qa) (hb : MQ X cl b qb) (hm : behindInMarks op b = false := by rfl) : ME X cl (.Compare a [op] [b] pos) (eB (tCmp g qa qb)) := by
  obtain ⟨r, ho, h⟩ := hg.ex
  refine ⟨fun env Q Q' k q => tCmp_mo hg ha hb env _ _ (fun b z => k _ z) q, PEmono (pe_cmpR ho ha.pe hb.pe hm) fun σ H Q ⟨β, G, env, r0, q⟩ => ?_⟩
  exact tCmp_run hg h ha hb r0 (tCmp_mo hg ha hb env _ _ (fun k z H' G' e => z _ H' G' e (by unfold Rep; rfl)) q)
theorem t_cmp {op : CmpOp} {g : GR} (hg : GC X cl op g) (ha : MQ X cl a qa) (hb : MQ X cl b qb) (hm : behindInMarks op b = false := by rfl) : MT X cl (.Compare a [op] [b] pos) (tCmp g qa qb) := by
  obtain ⟨r, ho, h⟩ := hg.ex
  refine ⟨fun env Q Q' k q => tCmp_mo hg ha hb env _ _ k q, PTmono (pt_cmpR ho ha.pe hb.pe hm) fun σ H Q ⟨β, G, env, r0, q⟩ => ?_⟩
  exact tCmp_run (Q := fun x H' => ∃ k, x = .bl k ∧ Q k H') hg h ha hb r0 (tCmp_mo hg ha hb env _ _ (fun k z H' G' e => ⟨k, rfl, z H' G' e⟩) q)
end
end C
namespace C
open PySem PySem.Spec PyProof.Rows L2
section
variable {X : Cx} {cl : Nat → Addr} {a b c : Expr} {fa fb fc : EX} {qa qb qc : QX} {ta tb : TX} {pos : Pos}
/-! ### chains of comparisons -/
abbrev CH := Env → OV → (Bool → Prop) → Prop
def chL (g : GR) (qb : QX) : CH := fun env m Q => qb env fun n => g m n Q
def chK (g : GR) (qb : QX) (t : CH) : CH := fun env m Q => qb env fun n => g m n fun k => match k with
  | true => t env n Q
  | false => Q false
structure MC (X : Cx) (cl : Nat → Addr) (ops : List CmpOp) (rs : List Expr) (t : CH) : Prop where
  mo : ∀ env m (Q Q' : Bool → Prop), (∀ k, Q k → Q' k) → t env m Q → t env m Q'
  val : ∀ (pos : Pos) (pins : List (Addr × Obj)) (s : Shared) (σ : L2.St) (H G : Hp) (β : Bs) (env : Env) (m : OV) (x : V) (v : Value) (Q : VK), Inv X pins σ H s → RelV x v → RepB X.K cl H G m x → R X.K cl β σ H G env [] →
    t env m (fun k => ∀ H' G', Ext H G H' G' → Q (.bl k) H') → wpAny (model X.prog X.w) X.A (compareChain pos v ops (evalEach rs X.env)) (EP X pins σ Q) X.xe s
  tst : ∀ (pos : Pos) (pins : List (Addr × Obj)) (s : Shared) (σ : L2.St) (H G : Hp) (β : Bs) (env : Env) (m : OV) (x : V) (v : Value) (Q : Bool → Hp → Prop), Inv X pins σ H s → RelV x v → RepB X.K cl H G m x → R X.K cl β σ H G env [] →
    t env m (fun k => ∀ H' G', Ext H G H' G' → Q k H') → wpAny (model X.prog X.w) X.A (testChain pos v ops (evalEach rs X.env)) (TP X pins σ Q) X.xe s
theorem mc_last {op : CmpOp} {g : GR} (hg : GC X cl op g) (hb : MQ X cl b qb) : MC X cl [op] [b] (chL g qb) := by
  obtain ⟨r, ho, h⟩ := hg.ex
  have mo : ∀ env m (Q Q' : Bool → Prop), (∀ k, Q k → Q' k) → chL g qb env m Q → chL g qb env m Q' := fun env m Q Q' k q => hb.mo _ _ _ (fun n z => hg.mo _ _ _ _ k z) q
  refine ⟨mo, fun pos pins s σ H G β env m x v Q I rx rb r0 q => ?_, fun pos pins s σ H G β env m x v Q I rx rb r0 q => ?_⟩
  · refine chain_last (thn (hb.pe.run pins s σ H (fun y H2 => r x y H2 Q) I ⟨β, G, env, r0, hb.mo _ _ _ (fun n z y H2 G2 e2 ry => ?_) q⟩) fun u s1 ⟨y, H1, I1, r1, q1⟩ => ho pins s1 σ H1 x y v u Q I1 rx r1 q1)
    exact h m n x y H2 G2 Q e2.gh (Same.repB rb e2) ry (hg.mo _ _ _ _ (fun k w => w H2 G2 e2) z)
  · refine test_last (thn (hb.pe.run pins s σ H (fun y H2 => r x y H2 fun z H' => ∃ k, z = .bl k ∧ Q k H') I ⟨β, G, env, r0, hb.mo _ _ _ (fun n z y H2 G2 e2 ry => ?_) q⟩) fun u s1 ⟨y, H1, I1, r1, q1⟩ => thn (ho pins s1 σ H1 x y v u _ I1 rx r1 q1) fun d s2 ⟨z, H2, I2, r2, k, e, q2⟩ => ?_)
    · exact h m n x y H2 G2 _ e2.gh (Same.repB rb e2) ry (hg.mo _ _ _ _ (fun k w => ⟨k, rfl, w H2 G2 e2⟩) z)
    · subst e
      cases r2
      exact wpAny_truthy_bool ⟨H2, I2, q2⟩
theorem mc_link {op op' : CmpOp} {ops : List CmpOp} {c : Expr} {rs : List Expr} {g : GR} {t : CH} (hg : GC X cl op g) (hb : MQ X cl b qb) (ht : MC X cl (op' :: ops) (c :: rs) t) : MC X cl (op :: op' :: ops) (b :: c :: rs) (chK g qb t) := by
  obtain ⟨r, ho, h⟩ := hg.ex
  have mo : ∀ env m (Q Q' : Bool → Prop), (∀ k, Q k → Q' k) → chK g qb t env m Q → chK g qb t env m Q' := fun env m Q Q' k q => hb.mo _ _ _ (fun n z => hg.mo _ _ _ _ (fun b' w => by
    cases b' with
    | true => exact ht.mo _ _ _ _ k w
    | false => exact k _ w) z) q
  refine ⟨mo, fun pos pins s σ H G β env m x v Q I rx rb r0 q => ?_, fun pos pins s σ H G β env m x v Q I rx rb r0 q => ?_⟩
  · refine chain_link (thn (hb.pe.run pins s σ H (fun y H2 => r x y H2 fun z H' => ∃ k, z = .bl k ∧ ∃ G' n, Ext H G H' G' ∧ RepB X.K cl H' G' n y ∧ (match k with
      | true => t env n (fun k => ∀ H2 G2, Ext H G H2 G2 → Q (.bl k) H2)
      | false => ∀ H2 G2, Ext H G H2 G2 → Q (.bl false) H2)) I ⟨β, G, env, r0, hb.mo _ _ _ (fun n z y H2 G2 e2 ry => ?_) q⟩) fun u s1 ⟨y, H1, I1, r1, q1⟩ => thn (ho pins s1 σ H1 x y v u _ I1 rx r1 q1) fun d s2 ⟨z, H2, I2, r2, k, e, G', n, e2, rn, q2⟩ => ?_)
    · exact h m n x y H2 G2 _ e2.gh (Same.repB rb e2) ry (hg.mo _ _ _ _ (fun k w => ⟨k, rfl, G2, n, e2, ry, w⟩) z)
    · subst e
      cases r2
      refine wpAny_truthy_bool ?_
      cases k with
      | false => exact ite_ff ⟨.bl false, H2, I2, rfl, q2 H2 G' e2⟩
      | true => exact ite_tt (ht.val pos pins s2 σ H2 G' β env n y u Q I2 r1 rn (r0.ext e2) (ht.mo _ _ _ _ (fun k w H3 G3 e3 => w H3 G3 (e2.trans e3)) q2))
  · refine test_link (thn (hb.pe.run pins s σ H (fun y H2 => r x y H2 fun z H' => ∃ k, z = .bl k ∧ ∃ G' n, Ext H G H' G' ∧ RepB X.K cl H' G' n y ∧ (match k with
      | true => t env n (fun k => ∀ H2 G2, Ext H G H2 G2 → Q k H2)
      | false => ∀ H2 G2, Ext H G H2 G2 → Q false H2)) I ⟨β, G, env, r0, hb.mo _ _ _ (fun n z y H2 G2 e2 ry => ?_) q⟩) fun u s1 ⟨y, H1, I1, r1, q1⟩ => thn (ho pins s1 σ H1 x y v u _ I1 rx r1 q1) fun d s2 ⟨z, H2, I2, r2, k, e, G', n, e2, rn, q2⟩ => ?_)
    · exact h m n x y H2 G2 _ e2.gh (Same.repB rb e2) ry (hg.mo _ _ _ _ (fun k w => ⟨k, rfl, G2, n, e2, ry, w⟩) z)
    · subst e
      cases r2
      refine wpAny_truthy_bool ?_
      cases k with
      | false => exact ite_ff ⟨H2, I2, q2 H2 G' e2⟩
      | true => exact ite_tt (ht.tst pos pins s2 σ H2 G' β env n y u Q I2 r1 rn (r0.ext e2) (ht.mo _ _ _ _ (fun k w H3 G3 e3 => w H3 G3 (e2.trans e3)) q2))
def tChain (qa : QX) (t : CH) : TX := fun env Q => qa env fun m => t env m Q
theorem m_chain {op op' : CmpOp} {ops : List CmpOp} {rs : List Expr} {t : CH} (ha : MQ X cl a qa) (ht : MC X cl (op :: op' :: ops) (b :: c :: rs) t) (hm : lastMarks (op :: op' :: ops) (b :: c :: rs) = false := by with_unfolding_all rfl) :
    ME X cl (.Compare a (op :: op' :: ops) (b :: c :: rs) pos) (eB (tChain qa t)) := by
  refine ⟨fun env Q Q' k q => ha.mo _ _ _ (fun m z => ht.mo _ _ _ _ (fun b' w => k _ w) z) q, ⟨fun pins s σ H Q I ⟨β, G, env, r0, q⟩ => ?_⟩⟩
  refine Compare_chain (thn (ha.pe.run pins s σ H (fun y H2 => ∃ G' m, Ext H G H2 G' ∧ RepB X.K cl H2 G' m y ∧ t env m fun k => ∀ H' G', Ext H G H' G' → Q (.bl k) H') I ⟨β, G, env, r0, ha.mo _ _ _ (fun m z y H2 G2 e2 ry => ⟨G2, m, e2, ry, ht.mo _ _ _ _ (fun k w H' G' e => w _ H' G' e (by unfold Rep; rfl)) z⟩) q⟩) fun u s1 ⟨y, H1, I1, r1, G', m, e1, rm, q1⟩ => ?_) hm
  exact ht.val pos pins s1 σ H1 G' β env m y u Q I1 r1 rm (r0.ext e1) (ht.mo _ _ _ _ (fun k w H3 G3 e3 => w H3 G3 (e1.trans e3)) q1)
theorem t_chain {op op' : CmpOp} {ops : List CmpOp} {rs : List Expr} {t : CH} (ha : MQ X cl a qa) (ht : MC X cl (op :: op' :: ops) (b :: c :: rs) t) (hm : lastMarks (op :: op' :: ops) (b :: c :: rs) = false := by with_unfolding_all rfl) :
    MT X cl (.Compare a (op :: op' :: ops) (b :: c :: rs) pos) (tChain qa t) := by
  refine ⟨fun env Q Q' k q => ha.mo _ _ _ (fun m z => ht.mo _ _ _ _ (fun b' w => k _ w) z) q, ⟨fun pins s σ H Q I ⟨β, G, env, r0, q⟩ => ?_⟩⟩
  refine isTrue_chain (thn (ha.pe.run pins s σ H (fun y H2 => ∃ G' m, Ext H G H2 G' ∧ RepB X.K cl H2 G' m y ∧ t env m fun k => ∀ H' G', Ext H G H' G' → Q k H') I ⟨β, G, env, r0, ha.mo _ _ _ (fun m z y H2 G2 e2 ry => ⟨G2, m, e2, ry, z⟩) q⟩) fun u s1 ⟨y, H1, I1, r1, G', m, e1, rm, q1⟩ => ?_) hm
  exact ht.tst pos pins s1 σ H1 G' β env m y u Q I1 r1 rm (r0.ext e1) (ht.mo _ _ _ _ (fun k w H3 G3 e3 => w H3 G3 (e1.trans e3)) q1)

/-! ### truth -/
def truQ (o : OV) (Q : Bool → Prop) : Prop := match o with
  | .fro .non => Q false
  | .fro (.bl b) => Q b
  | .fro (.int i) => Q (i != 0)
  | .fro (.str x) => x.length ≤ sizeLine ∧ Q ((x.length : Int) != 0)
  | .fro (.tup ms) => Q (!ms.isEmpty)
  | .fro (.lst ms) => Q (!ms.isEmpty)
  | .lst ms => Q (!ms.isEmpty)
  | .scr ms => Q (!ms.isEmpty)
  | .dct kvs => Q (!kvs.isEmpty)
  | _ => False
theorem truQ_mo {o : OV} {Q Q' : Bool → Prop} (k : ∀ b, Q b → Q' b) : truQ o Q → truQ o Q' := by
  intro q
  unfold truQ at q ⊢
  split at q <;> first | exact k _ q | exact ⟨q.1, k _ q.2⟩ | exact q.elim
theorem reps_empty {K : PySem.W.Frag} {G : Hp} {ms : List MV} {vs : List V} (r : Reps K cl G ms vs) : (!vs.isEmpty) = !ms.isEmpty := by
  have := Reps.len _ _ r
  cases ms <;> cases vs <;> simp_all
theorem truQ_rep {K : PySem.W.Frag} {H G : Hp} {o : OV} {v : V} {Q : Bool → Prop} (g : Same G H) (q : truQ o Q) (r : RepB K cl H G o v) : ∃ k, TruV K v H k ∧ Q k := by
  unfold truQ at q
  split at q
  · unfold RepB Rep at r; subst r; exact ⟨_, rfl, q⟩
  · unfold RepB Rep at r; subst r; exact ⟨_, rfl, q⟩
  · unfold RepB Rep at r; subst r; exact ⟨_, rfl, q⟩
  · unfold RepB Rep at r; subst r; exact ⟨_, ⟨q.1, rfl⟩, q.2⟩
  · unfold RepB Rep at r; obtain ⟨p, vs, rfl, h2, h3⟩ := r
    exact ⟨_, .inr (.inl ⟨vs, sqT_same g h2, (reps_empty h3).symm⟩), q⟩
  · unfold RepB Rep at r; obtain ⟨p, vs, rfl, h2, h3⟩ := r
    exact ⟨_, .inl ⟨vs, SqL.of (g _ _ h2), (reps_empty h3).symm⟩, q⟩
  · unfold RepB at r; obtain ⟨p, vs, rfl, h2, h3⟩ := r
    exact ⟨_, .inl ⟨vs, SqL.of h2, (reps_empty h3).symm⟩, q⟩
  · unfold RepB at r; obtain ⟨p, vs, rfl, h2, h3⟩ := r
    exact ⟨_, .inl ⟨vs, h2, (reps_empty h3).symm⟩, q⟩
  · unfold RepB at r; obtain ⟨p, vs, rfl, h2, h4, h3⟩ := r
    refine ⟨_, .inr (.inr ⟨vs, h2, rfl⟩), ?_⟩
    rename_i kvs
    have : vs.isEmpty = kvs.isEmpty := by
      have := congrArg List.length h4
      cases vs <;> cases kvs <;> simp_all
    rw [this]; exact q
  · exact q.elim
def tTru (qa : QX) : TX := fun env Q => qa env fun m => truQ m Q
theorem t_tru (ha : MQ X cl a qa) (he : ∀ whole, isTrue a X.env whole = (do let v ← whole; standAt a.pos; holding [v] (truthy v)) := by intro _; rfl) : MT X cl a (tTru qa) := by
  refine ⟨fun env Q Q' k q => ha.mo _ _ _ (fun m z => truQ_mo k z) q, PTmono (pt_truth ha.pe he) fun σ H Q ⟨β, G, env, r0, q⟩ => ?_⟩
  refine ⟨β, G, env, r0, ha.mo _ _ _ (fun m z v H' G' e rv => ?_) q⟩
  obtain ⟨k, h1, h2⟩ := truQ_rep e.gh z rv
  exact ⟨k, h1, h2 H' G' e⟩
def tNot (ta : TX) : TX := fun env Q => ta env fun k => Q (!k)
theorem t_not (ha : MT X cl a ta) : MT X cl (.UnaryOp .Not a pos) (tNot ta) :=
  ⟨fun env Q Q' k q => ha.mo _ _ _ (fun m z => k _ z) q, PTmono (pt_not ha.pt) fun σ H Q ⟨β, G, env, r0, q⟩ => ⟨β, G, env, r0, ha.mo _ _ _ (fun k z H' G' e => z H' G' e) q⟩⟩
theorem m_not (ha : MQ X cl a qa) : ME X cl (.UnaryOp .Not a pos) (eB (tNot (tTru qa))) := by
  refine ⟨fun env Q Q' k q => ha.mo _ _ _ (fun m z => truQ_mo (fun b w => k _ w) z) q, PEmono (pe_notT ha.pe) fun σ H Q ⟨β, G, env, r0, q⟩ => ?_⟩
  refine ⟨β, G, env, r0, ha.mo _ _ _ (fun m z v H' G' e rv => ?_) q⟩
  obtain ⟨k, h1, h2⟩ := truQ_rep e.gh z rv
  exact ⟨k, h1, h2 _ H' G' e (by unfold Rep; rfl)⟩
/-! and, or -/
def tAnd (t u : TX) : TX := fun env Q => t env fun k => match k with
  | true => u env Q
  | false => Q false
def tOr (t u : TX) : TX := fun env Q => t env fun k => match k with
  | true => Q true
  | false => u env Q
structure MW (X : Cx) (cl : Nat → Addr) (E : Expr) (f : TX) : Prop where
  mo : ∀ env (Q Q' : Bool → Prop), (∀ m, Q m → Q' m) → f env Q → f env Q'
  pw : PW X E (tOf X.K cl f)
theorem PWmono {X : Cx} {e : Expr} {t t' : TT} (h : PW X e t) (k : ∀ σ H Q, t' σ H Q → t σ H Q) : PW X e t' := ⟨fun wh pins s σ H Q I q => h.run wh pins s σ H Q I (k σ H Q q)⟩
variable {rest : List Expr}
theorem w_and1 (ha : MT X cl a ta) : MW X cl (.BoolOp .And [a] pos) ta := ⟨ha.mo, pw_and1 ha.pt⟩
theorem w_or1 (ha : MT X cl a ta) : MW X cl (.BoolOp .Or [a] pos) ta := ⟨ha.mo, pw_or1 ha.pt⟩
theorem tAnd_mo {t u : TX} (ht : ∀ env (Q Q' : Bool → Prop), (∀ m, Q m → Q' m) → t env Q → t env Q') (hu : ∀ env (Q Q' : Bool → Prop), (∀ m, Q m → Q' m) → u env Q → u env Q') : ∀ env (Q Q' : Bool → Prop), (∀ m, Q m → Q' m) → tAnd t u env Q → tAnd t u env Q' :=
  fun env Q Q' k q => ht _ _ _ (fun b z => by
    cases b with
    | true => exact hu _ _ _ k z
    | false => exact k _ z) q
theorem tOr_mo {t u : TX} (ht : ∀ env (Q Q' : Bool → Prop), (∀ m, Q m → Q' m) → t env Q → t env Q') (hu : ∀ env (Q Q' : Bool → Prop), (∀ m, Q m → Q' m) → u env Q → u env Q') : ∀ env (Q Q' : Bool → Prop), (∀ m, Q m → Q' m) → tOr t u env Q → tOr t u env Q' :=
  fun env Q Q' k q => ht _ _ _ (fun b z => by
    cases b with
    | false => exact hu _ _ _ k z
    | true => exact k _ z) q
theorem w_and (ha : MT X cl a ta) (hb : MW X cl (.BoolOp .And (b :: rest) pos) tb) : MW X cl (.BoolOp .And (a :: b :: rest) pos) (tAnd ta tb) := by
  refine ⟨tAnd_mo ha.mo hb.mo, PWmono (pw_and ha.pt hb.pw) fun σ H Q ⟨β, G, env, r0, q⟩ => ?_⟩
  refine ⟨β, G, env, r0, ha.mo _ _ _ (fun k z H' G' e => ?_) q⟩
  cases k with
  | true => rw [if_pos rfl]; exact ⟨β, G', env, r0.ext e, hb.mo _ _ _ (fun k w H2 G2 e2 => w H2 G2 (e.trans e2)) z⟩
  | false => rw [if_neg Bool.false_ne_true]; exact z H' G' e
theorem w_or (ha : MT X cl a ta) (hb : MW X cl (.BoolOp .Or (b :: rest) pos) tb) : MW X cl (.BoolOp .Or (a :: b :: rest) pos) (tOr ta tb) := by
  refine ⟨tOr_mo ha.mo hb.mo, PWmono (pw_or ha.pt hb.pw) fun σ H Q ⟨β, G, env, r0, q⟩ => ?_⟩
  refine ⟨β, G, env, r0, ha.mo _ _ _ (fun k z H' G' e => ?_) q⟩
  cases k with
  | true => rw [if_pos rfl]; exact z H' G' e
  | false => rw [if_neg Bool.false_ne_true]; exact ⟨β, G', env, r0.ext e, hb.mo _ _ _ (fun k w H2 G2 e2 => w H2 G2 (e.trans e2)) z⟩
theorem t_w (h : MW X cl a ta) : MT X cl a ta := ⟨h.mo, h.pw.pt⟩
def eAnd (qa : QX) (fb : EX) : EX := fun env Q => qa env fun m => truQ m fun k => match k with
  | true => fb env Q
  | false => asFro m Q
def eOr (qa : QX) (fb : EX) : EX := fun env Q => qa env fun m => truQ m fun k => match k with
  | true => asFro m Q
  | false => fb env Q
theorem m_one {op} (ha : ME X cl a fa) : ME X cl (.BoolOp op [a] pos) fa := ⟨ha.mo, pe_one ha.pe⟩
theorem truQ_and {o : OV} {Q : Bool → Prop} {v : V} {K : PySem.W.Frag} {H G : Hp} (g : Same G H) (q : truQ o Q) (r : RepB K cl H G o v) : ∃ k, TruV K v H k ∧ Q k := truQ_rep g q r
theorem m_and (ha : MQ X cl a qa) (hb : ME X cl (.BoolOp .And (b :: rest) pos) fb) : ME X cl (.BoolOp .And (a :: b :: rest) pos) (eAnd qa fb) := by
  refine ⟨fun env Q Q' k q => ha.mo _ _ _ (fun m z => truQ_mo (fun b w => ?_) z) q, PEmono (pe_andT ha.pe hb.pe) fun σ H Q ⟨β, G, env, r0, q⟩ => ?_⟩
  · cases b with
    | true => exact hb.mo _ _ _ k w
    | false => exact asFro_mo k w
  · refine ⟨β, G, env, r0, ha.mo _ _ _ (fun m z v H' G' e rv => ?_) q⟩
    obtain ⟨k, h1, h2⟩ := truQ_rep e.gh z rv
    refine ⟨k, h1, ?_⟩
    cases k with
    | true => rw [if_pos rfl]; exact ⟨β, G', env, r0.ext e, hb.mo _ _ _ (fun k w v H2 G2 e2 => w v H2 G2 (e.trans e2)) h2⟩
    | false =>
      rw [if_neg Bool.false_ne_true]
      cases m with
      | fro m => unfold RepB at rv; exact h2 v H' G' e rv
      | _ => exact h2.elim
theorem m_or (ha : MQ X cl a qa) (hb : ME X cl (.BoolOp .Or (b :: rest) pos) fb) : ME X cl (.BoolOp .Or (a :: b :: rest) pos) (eOr qa fb) := by
  refine ⟨fun env Q Q' k q => ha.mo _ _ _ (fun m z => truQ_mo (fun b w => ?_) z) q, PEmono (pe_orT ha.pe hb.pe) fun σ H Q ⟨β, G, env, r0, q⟩ => ?_⟩
  · cases b with
    | false => exact hb.mo _ _ _ k w
    | true => exact asFro_mo k w
  · refine ⟨β, G, env, r0, ha.mo _ _ _ (fun m z v H' G' e rv => ?_) q⟩
    obtain ⟨k, h1, h2⟩ := truQ_rep e.gh z rv
    refine ⟨k, h1, ?_⟩
    cases k with
    | false => rw [if_neg Bool.false_ne_true]; exact ⟨β, G', env, r0.ext e, hb.mo _ _ _ (fun k w v H2 G2 e2 => w v H2 G2 (e.trans e2)) h2⟩
    | true =>
      rw [if_pos rfl]
      cases m with
      | fro m => unfold RepB at rv; exact h2 v H' G' e rv
      | _ => exact h2.elim
def eIf (t : TX) (fa fb : EX) : EX := fun env Q => t env fun k => match k with
  | true => fa env Q
  | false => fb env Q
theorem m_if {t : TX} (hc : MT X cl c t) (ha : ME X cl a fa) (hb : ME X cl b fb) : ME X cl (.IfExp c a b pos) (eIf t fa fb) := by
  refine ⟨fun env Q Q' k q => hc.mo _ _ _ (fun b w => ?_) q, PEmono (pe_ifExp hc.pt ha.pe hb.pe) fun σ H Q ⟨β, G, env, r0, q⟩ => ?_⟩
  · cases b with
    | true => exact ha.mo _ _ _ k w
    | false => exact hb.mo _ _ _ k w
  · refine ⟨β, G, env, r0, hc.mo _ _ _ (fun k z H' G' e => ?_) q⟩
    cases k with
    | true => rw [if_pos rfl]; exact ⟨β, G', env, r0.ext e, ha.mo _ _ _ (fun k w v H2 G2 e2 => w v H2 G2 (e.trans e2)) z⟩
    | false => rw [if_neg Bool.false_ne_true]; exact ⟨β, G', env, r0.ext e, hb.mo _ _ _ (fun k w v H2 G2 e2 => w v H2 G2 (e.trans e2)) z⟩
end
end C
namespace C
open PySem PySem.Spec PyProof.Rows L2
section
variable {K : PySem.W.Frag} {cl : Nat → Addr} {H H' G G' : Hp} {σ : L2.St}
theorem ArRep.ext (e : Ext H G H' G') {a : Ar} {v : V} (h : ArRep K cl σ H G a v) : ArRep K cl σ H' G' a v := by
  cases a with
  | v m => exact Rep.same e.gg _ _ h
  | mu i p => obtain ⟨v0, h1, h2⟩ : ∃ v0, σ[i]? = some (some v0) ∧ PAt K H v0 p v := h; exact ⟨v0, h1, PAt.same e.hh h2⟩
  | br i p => obtain ⟨v0, h1, h2⟩ : ∃ v0, σ[i]? = some (some v0) ∧ PAt K H v0 p v := h; exact ⟨v0, h1, PAt.same e.hh h2⟩
def arVs : List Ar → Option (List MV)
  | [] => some []
  | .v m :: as => match arVs as with
    | some ms => some (m :: ms)
    | none => none
  | _ :: _ => none
theorem arVs_rep : ∀ {as : List Ar} {ms : List MV} {vs : List V}, arVs as = some ms → ArReps K cl σ H G as vs → Reps K cl G ms vs
  | [], ms, vs, e, h => by cases e; unfold ArReps at h; subst h; exact Reps.nil
  | .v m :: as, ms, vs, e, h => by
    unfold arVs at e
    cases q : arVs as with
    | none => rw [q] at e; cases e
    | some ms' =>
      rw [q] at e; cases e
      unfold ArReps at h
      obtain ⟨v, ws, rfl, h2, h3⟩ := h
      exact Reps.cons h2 (arVs_rep q h3)
  | .mu i p :: as, ms, vs, e, h => by cases e
  | .br i p :: as, ms, vs, e, h => by cases e
end
section
variable {X : Cx} {cl : Nat → Addr} {a b c e : Expr} {es : List Expr} {fa fb fc : EX} {qa qb qc : QX} {ta tb : TX} {ga : AX} {pos : Pos}
def aN : AX := fun _ Q => Q []
def aV (fa : EX) (ga : AX) : AX := fun env Q => fa env fun m => ga env fun as => Q (.v m :: as)
theorem ma_nil : MA X cl [] aN :=
  ⟨fun _ _ _ k q => k _ q, PAmono pa_nil fun σ H Q ⟨β, G, env, r0, q⟩ => q [] H G (Ext.refl r0.gh) rfl⟩
theorem ma_v (ha : ME X cl e fa) (hr : MA X cl es ga) (hs : starEach (e :: es) X.env = (false, eval e X.env) :: starEach es X.env := by rfl) : MA X cl (e :: es) (aV fa ga) := by
  refine ⟨fun env Q Q' k q => ha.mo _ _ _ (fun m z => hr.mo _ _ _ (fun as w => k _ w) z) q, PAmono (pa_cons ha.pe hr.pa hs) fun σ H Q ⟨β, G, env, r0, q⟩ => ?_⟩
  refine ⟨β, G, env, r0, ha.mo _ _ _ (fun m z v H' G' e1 rv => ?_) q⟩
  exact ⟨β, G', env, r0.ext e1, hr.mo _ _ _ (fun as w vs H2 G2 e2 rs => w _ H2 G2 (e1.trans e2) ⟨v, vs, rfl, Rep.same e2.gg _ _ rv, rs⟩) z⟩
def arPl (mk : Ar) (i : Nat) (p : List Nat) (ga : AX) : AX := fun env Q => match getP env i p with
  | some _ => ga env fun as => Q (mk :: as)
  | none => False
theorem ma_pl {i : Nat} {p : List Nat} (mk : Ar) (hmk : mk = .mu i p ∨ mk = .br i p) (ha : MP X e i p) (hp : fld38 p = true) (hr : MA X cl es ga) (hs : starEach (e :: es) X.env = (false, eval e X.env) :: starEach es X.env) : MA X cl (e :: es) (arPl mk i p ga) := by
  refine ⟨fun env Q Q' k q => ?_, PAmono (pa_cons ha hr.pa hs) fun σ H Q ⟨β, G, env, r0, q⟩ => ?_⟩
  · unfold arPl at q ⊢
    cases h : getP env i p with
    | none => rw [h] at q; exact q
    | some o => rw [h] at q; exact hr.mo _ _ _ (fun as w => k _ w) q
  · unfold arPl at q
    cases h : getP env i p with
    | none => rw [h] at q; exact q.elim
    | some o =>
      rw [h] at q
      obtain ⟨v0, w, h1, h2, _⟩ := r0.rd (fld38_out hp) h
      refine ⟨v0, w, h1, h2, β, G, env, r0, hr.mo _ _ _ (fun as z vs H2 G2 e2 rs => z _ H2 G2 e2 ⟨w, vs, rfl, ?_, rs⟩) q⟩
      rcases hmk with rfl | rfl
      · exact ⟨v0, h1, PAt.same e2.hh h2⟩
      · exact ⟨v0, h1, PAt.same e2.hh h2⟩
theorem ma_mu {i : Nat} {p : List Nat} (ha : MP X e i p) (hr : MA X cl es ga) (hp : fld38 p = true := by rfl) (hs : starEach (e :: es) X.env = (false, eval e X.env) :: starEach es X.env := by rfl) : MA X cl (e :: es) (arPl (.mu i p) i p ga) := ma_pl _ (.inl rfl) ha hp hr hs
theorem ma_br {i : Nat} {p : List Nat} (ha : MP X e i p) (hr : MA X cl es ga) (hp : fld38 p = true := by rfl) (hs : starEach (e :: es) X.env = (false, eval e X.env) :: starEach es X.env := by rfl) : MA X cl (e :: es) (arPl (.br i p) i p ga) := ma_pl _ (.inr rfl) ha hp hr hs
/-! displays -/
def eTup (ga : AX) : EX := fun env Q => ga env fun as => match arVs as with
  | some ms => ms.length ≤ sizeLine ∧ Q (.tup ms)
  | none => False
def eLst (ga : AX) : EX := fun env Q => ga env fun as => match arVs as with
  | some ms => ms.length ≤ sizeLine ∧ Q (.lst ms)
  | none => False
theorem m_tup {x1} (h : MA X cl es ga) : ME X cl (.Tuple es x1 pos) (eTup ga) := by
  refine ⟨fun env Q Q' k q => h.mo _ _ _ (fun as z => ?_) q, PEmono (pe_tup h.pa) fun σ H Q ⟨β, G, env, r0, q⟩ => ⟨β, G, env, r0, h.mo _ _ _ (fun as z vs H' G' e rs => ?_) q⟩⟩
  · cases e : arVs as with
    | none => rw [e] at z; exact z
    | some ms => rw [e] at z; exact ⟨z.1, k _ z.2⟩
  · cases q : arVs as with
    | none => rw [q] at z; exact z.elim
    | some ms =>
      rw [q] at z
      have rr := arVs_rep q rs
      refine ⟨by rw [Reps.len _ _ rr]; exact z.1, fun p hp => z.2 _ _ _ (e.trans (Ext.new e.gh hp)) (new_tup e.gh hp rr)⟩
theorem m_lst (h : MA X cl es ga) : ME X cl (.List es pos) (eLst ga) := by
  refine ⟨fun env Q Q' k q => h.mo _ _ _ (fun as z => ?_) q, PEmono (pe_lst h.pa) fun σ H Q ⟨β, G, env, r0, q⟩ => ⟨β, G, env, r0, h.mo _ _ _ (fun as z vs H' G' e rs => ?_) q⟩⟩
  · cases e : arVs as with
    | none => rw [e] at z; exact z
    | some ms => rw [e] at z; exact ⟨z.1, k _ z.2⟩
  · cases q : arVs as with
    | none => rw [q] at z; exact z.elim
    | some ms =>
      rw [q] at z
      have rr := arVs_rep q rs
      refine ⟨by rw [Reps.len _ _ rr]; exact z.1, fun p hp => z.2 _ _ _ (e.trans (Ext.new e.gh hp)) (new_lst e.gh hp rr)⟩
/-! - x -/
def eNeg (qa : QX) : EX := fun env Q => qa env fun m => asFro m fun m => asInt m fun i => Q (.int (-i))
theorem m_neg (ha : MQ X cl a qa) : ME X cl (.UnaryOp .USub a pos) (eNeg qa) := by
  refine ⟨fun env Q Q' k q => ha.mo _ _ _ (fun m z => asFro_mo (fun _ z => asInt_mo (fun _ z => k _ z) z) z) q, PEmono (pe_un un_neg ha.pe) fun σ H Q ⟨β, G, env, r0, q⟩ => ⟨β, G, env, r0, ha.mo _ _ _ (fun m z v H' G' e rv => ?_) q⟩⟩
  cases m with
  | fro m =>
    unfold RepB at rv
    obtain ⟨i, rfl, rfl, z⟩ := asInt_rep (show asInt m _ from z) rv
    exact ⟨i, rfl, z _ H' G' e rep_int⟩
  | _ => exact z.elim
/-! + of whatever can be added -/
theorem gAdd_cases {m n : OV} {Q : MV → Prop} (q : gAdd m n Q) : (∃ i j, m = .fro (.int i) ∧ n = .fro (.int j) ∧ Q (.int (i + j))) ∨ (∃ x y, m = .fro (.str x) ∧ n = .fro (.str y) ∧ x.length + y.length ≤ sizeLine ∧ Q (.str (x ++ y))) ∨
    (∃ x y, m = .fro (.tup x) ∧ n = .fro (.tup y) ∧ (x ≠ [] ∧ y ≠ [] ∧ x.length + y.length ≤ sizeLine) ∧ Q (.tup (x ++ y))) ∨ (asL m fun xs => asL n fun ys => xs.length + ys.length ≤ sizeLine ∧ Q (.lst (xs ++ ys))) := by
  unfold gAdd at q
  split at q
  · exact .inl ⟨_, _, rfl, rfl, q⟩
  · exact .inr (.inl ⟨_, _, rfl, rfl, q⟩)
  · exact .inr (.inr (.inl ⟨_, _, rfl, rfl, q⟩))
  · exact .inr (.inr (.inr q))
theorem gAdd_mo : ∀ m n (Q Q' : MV → Prop), (∀ k, Q k → Q' k) → gAdd m n Q → gAdd m n Q' := by
  intro m n Q Q' k q
  unfold gAdd at q ⊢
  split at q
  · exact k _ q
  · exact ⟨q.1, k _ q.2⟩
  · exact ⟨q.1, k _ q.2⟩
  · exact asL_mo (fun _ z => asL_mo (fun _ z => ⟨z.1, k _ z.2⟩) z) q
theorem m_add (ha : MQ X cl a qa) (hb : MQ X cl b qb) : ME X cl (.BinOp a .Add b pos) (eBin gAdd qa qb) :=
  m_bin (op_add.or (op_add_str.or (op_catT.or op_cat))) gAdd gAdd_mo (fun m n x y H G Q g rx ry q => by
    rcases gAdd_cases q with ⟨i, j, rfl, rfl, q⟩ | ⟨i, j, rfl, rfl, l, q⟩ | ⟨i, j, rfl, rfl, l, q⟩ | q
    · unfold RepB Rep at rx ry; subst rx; subst ry
      exact .inl ⟨i, j, rfl, rfl, q _ H G (Ext.refl g) rep_int⟩
    · unfold RepB Rep at rx ry; subst rx; subst ry
      exact .inr (.inl ⟨i, j, rfl, rfl, l, q _ H G (Ext.refl g) rep_str⟩)
    · unfold RepB Rep at rx ry
      obtain ⟨pa, vs, rfl, h2, h3⟩ := rx
      obtain ⟨pb, ws, rfl, g2, g3⟩ := ry
      have l1 := Reps.len _ _ h3
      have l2 := Reps.len _ _ g3
      refine .inr (.inr (.inl ⟨pa, pb, vs, ws, rfl, rfl, sqT_same g h2, sqT_same g g2, fun z => l.1 (by subst z; exact List.eq_nil_of_length_eq_zero l1.symm), by omega, fun z => absurd (List.eq_nil_of_length_eq_zero (by subst z; exact l2.symm)) l.2.1, fun _ p hp => ?_⟩))
      exact q _ _ _ (Ext.new g hp) (new_tup g hp (Reps.app _ _ _ _ h3 g3))
    · obtain ⟨xs, pa, vs, rfl, h2, h3, q⟩ := asL_rep g q rx
      obtain ⟨ys, pb, ws, rfl, g2, g3, q⟩ := asL_rep g q ry
      have l1 := Reps.len _ _ h3
      have l2 := Reps.len _ _ g3
      refine .inr (.inr (.inr ⟨pa, pb, vs, ws, rfl, rfl, h2, g2, by omega, fun p hp => ?_⟩))
      exact q.2 _ _ _ (Ext.new g hp) (new_lst g hp (Reps.app _ _ _ _ h3 g3))) ha hb
/-! index -/
/-- an item; a type of its own, so that nothing evaluates it by itself -/
inductive gAt (ms : List MV) (i : Int) (Q : MV → Prop) : Prop where
  | mk (m : MV) (h : atI ms i = some m) (q : Q m) : gAt ms i Q
def gIx (m n : OV) (Q : MV → Prop) : Prop := asFro n fun n => asInt n fun i => match m with
  | .fro (.lst ms) => gAt ms i Q
  | .fro (.tup ms) => gAt ms i Q
  | .lst ms => gAt ms i Q
  | .scr ms => gAt ms i Q
  | .fro (.str x) => x.length ≤ sizeLine ∧ match atI x.cps.toList i with
    | some ch => Q (.str ⟨#[ch]⟩)
    | none => False
  | _ => False
theorem gAt_mo {ms : List MV} {i : Int} {Q Q' : MV → Prop} (k : ∀ m, Q m → Q' m) : gAt ms i Q → gAt ms i Q'
  | .mk m h q => .mk m h (k m q)
theorem gIx_mo : ∀ m n (Q Q' : MV → Prop), (∀ k, Q k → Q' k) → gIx m n Q → gIx m n Q' := by
  intro m n Q Q' k q
  refine asFro_mo (fun n z => asInt_mo (fun i z => ?_) z) q
  split at z
  · exact gAt_mo k z
  · exact gAt_mo k z
  · exact gAt_mo k z
  · exact gAt_mo k z
  · refine ⟨z.1, ?_⟩
    have z2 := z.2
    split at z2
    · exact k _ z2
    · exact z2
  · exact z
theorem gAt_rep {K : PySem.W.Frag} {G : Hp} {ms : List MV} {vs : List V} {i : Int} {Q : MV → Prop} (q : gAt ms i Q) (r : Reps K cl G ms vs) : ∃ v m, atI vs i = some v ∧ Rep K cl G m v ∧ Q m := by
  obtain ⟨m, e, q⟩ := q
  unfold atI at e
  cases e1 : ixN ms.length i with
  | none => rw [e1] at e; cases e
  | some j =>
    rw [e1] at e
    obtain ⟨v, h1, h2⟩ := Reps.get _ _ j m r e
    refine ⟨v, m, ?_, h2, q⟩
    unfold atI
    rw [Reps.len _ _ r, e1]
    exact h1
theorem m_ix (ha : MQ X cl a qa) (hb : MQ X cl b qb) (hs : PlainIx b := by exact fun _ _ => rfl) : ME X cl (.Subscript a b pos) (eBin gIx qa qb) := by
  refine ⟨fun env Q Q' k q => ha.mo _ _ _ (fun m z => hb.mo _ _ _ (fun n z' => gIx_mo m n _ _ k z') z) q, PEmono (pe_ix ix_seq ha.pe hb.pe hs) fun σ H Q ⟨β, G, env, r0, q⟩ => ?_⟩
  refine ⟨β, G, env, r0, ha.mo _ _ _ (fun m q1 v H' G' e1 rv => ?_) q⟩
  refine ⟨β, G', env, r0.ext e1, hb.mo _ _ _ (fun n q2 w H2 G2 e2 rw => ?_) q1⟩
  have rv' := Same.repB rv e2
  have g := e2.gh
  have ee := e1.trans e2
  cases n with
  | fro n =>
    unfold RepB at rw
    obtain ⟨i, rfl, rfl, q3⟩ := asInt_rep (show asInt n _ from q2) rw
    split at q3
    · unfold RepB Rep at rv'
      obtain ⟨p, vs, rfl, h2, h3⟩ := rv'
      obtain ⟨x, m, y1, y2, y3⟩ := gAt_rep q3 h3
      exact .inl ⟨p, vs, i, x, rfl, rfl, SqL.of (g _ _ h2), y1, y3 x H2 G2 ee y2⟩
    · unfold RepB Rep at rv'
      obtain ⟨p, vs, rfl, h2, h3⟩ := rv'
      obtain ⟨x, m, y1, y2, y3⟩ := gAt_rep q3 h3
      exact .inr (.inl ⟨p, vs, i, x, rfl, rfl, sqT_same g h2, y1, y3 x H2 G2 ee y2⟩)
    · unfold RepB at rv'
      obtain ⟨p, vs, rfl, h2, h3⟩ := rv'
      obtain ⟨x, m, y1, y2, y3⟩ := gAt_rep q3 h3
      exact .inl ⟨p, vs, i, x, rfl, rfl, SqL.of h2, y1, y3 x H2 G2 ee y2⟩
    · unfold RepB at rv'
      obtain ⟨p, vs, rfl, h2, h3⟩ := rv'
      obtain ⟨x, m, y1, y2, y3⟩ := gAt_rep q3 h3
      exact .inl ⟨p, vs, i, x, rfl, rfl, h2, y1, y3 x H2 G2 ee y2⟩
    · rename_i x
      unfold RepB Rep at rv'; subst rv'
      have z2 := q3.2
      cases ec : atI x.cps.toList i with
      | none => rw [ec] at z2; exact z2.elim
      | some ch => rw [ec] at z2; exact .inr (.inr ⟨x, i, ch, rfl, rfl, q3.1, ec, z2 _ H2 G2 ee rep_str⟩)
    · exact q3.elim
  | _ => exact q2.elim
/-! slices of lists -/
def cutM (xs : List MV) (lo hi : Option Int) : List MV := (xs.drop (HT.sIx xs.length 0 lo)).take (HT.sIx xs.length xs.length hi - HT.sIx xs.length 0 lo)
abbrev OX := Env → (Option Int → Prop) → Prop
structure MO (X : Cx) (cl : Nat → Addr) (E : Option Expr) (f : OX) : Prop where
  mo : ∀ env (Q Q' : Option Int → Prop), (∀ m, Q m → Q' m) → f env Q → f env Q'
  po : PO X E fun σ H Q => ∃ β G env, R X.K cl β σ H G env [] ∧ f env fun o => ∀ H' G', Ext H G H' G' → Q o H'
theorem POmono {X : Cx} {e : Option Expr} {t t' : TO} (h : PO X e t) (k : ∀ σ H Q, t' σ H Q → t σ H Q) : PO X e t' := ⟨fun pins s σ H Q I q => h.run pins s σ H Q I (k σ H Q q)⟩
def oN : OX := fun _ Q => Q none
def oS (qa : QX) : OX := fun env Q => qa env fun m => asFro m fun m => asInt m fun i => Q (some i)
theorem mo_none : MO X cl none oN := ⟨fun _ _ _ k q => k _ q, POmono po_none fun σ H Q ⟨β, G, env, r0, q⟩ => q H G (Ext.refl r0.gh)⟩
theorem mo_some (h : MQ X cl a qa) : MO X cl (some a) (oS qa) := by
  refine ⟨fun env Q Q' k q => h.mo _ _ _ (fun m z => asFro_mo (fun _ z => asInt_mo (fun _ z => k _ z) z) z) q, POmono (po_some h.pe) fun σ H Q ⟨β, G, env, r0, q⟩ => ⟨β, G, env, r0, h.mo _ _ _ (fun m z v H' G' e rv => ?_) q⟩⟩
  cases m with
  | fro m =>
    unfold RepB at rv
    obtain ⟨i, rfl, rfl, z⟩ := asInt_rep (show asInt m _ from z) rv
    exact ⟨i, rfl, z H' G' e⟩
  | _ => exact z.elim
def eSl (qa : QX) (l h : OX) : EX := fun env Q => qa env fun m => l env fun lo => h env fun hi => asL m fun ms => Q (.lst (cutM ms lo hi))
theorem cutM_rep {K : PySem.W.Frag} {G : Hp} {ms : List MV} {vs : List V} {lo hi : Option Int} (r : Reps K cl G ms vs) : Reps K cl G (cutM ms lo hi) (cutV vs lo hi) := by
  unfold cutM cutV
  rw [Reps.len _ _ r]
  exact Reps.take _ _ _ (Reps.drop _ _ _ r)
theorem m_sl {lo hi : Option Expr} {l h : OX} {p2 : Pos} (ha : MQ X cl a qa) (hl : MO X cl lo l) (hh : MO X cl hi h) : ME X cl (.Subscript a (.Slice lo hi none p2) pos) (eSl qa l h) := by
  refine ⟨fun env Q Q' k q => ha.mo _ _ _ (fun m z => hl.mo _ _ _ (fun _ z => hh.mo _ _ _ (fun _ z => asL_mo (fun _ z => k _ z) z) z) z) q, PEmono (pe_slice sl_list ha.pe hl.po hh.po) fun σ H Q ⟨β, G, env, r0, q⟩ => ?_⟩
  refine ⟨β, G, env, r0, ha.mo _ _ _ (fun m z v H' G' e rv => ?_) q⟩
  refine ⟨β, G', env, r0.ext e, hl.mo _ _ _ (fun lo z H2 G2 e2 => ?_) z⟩
  refine ⟨β, G2, env, (r0.ext e).ext e2, hh.mo _ _ _ (fun hi z H3 G3 e3 => ?_) z⟩
  have e23 := e2.trans e3
  obtain ⟨ms, p, vs, rfl, h2, h3, z⟩ := asL_rep e3.gh z (Same.repB rv e23)
  exact ⟨p, vs, rfl, SqL.of h2, fun q hq => z _ _ _ ((e.trans e23).trans (Ext.new e3.gh hq)) (new_lst e3.gh hq (cutM_rep h3))⟩
/-! e.f of a value -/
def gFld (k : Nat) (m : MV) (Q : MV → Prop) : Prop := match getO (.fro m) [k] with
  | some o => asFro o Q
  | none => False
def eFld (k : Nat) (fa : EX) : EX := fun env Q => fa env fun m => gFld k m Q
theorem m_fld (k : Nat) {f : Str} (ha : ME X cl a fa) (hf : fn k = f := by rfl) (hk : Nat.blt k 38 = true := by rfl) (hb : attributeBase a f X.env (eval a X.env) = eval a X.env := by rfl) : ME X cl (.Attribute a f pos) (eFld k fa) := by
  refine ⟨fun env Q Q' kk q => ha.mo _ _ _ (fun m z => ?_) q, PEmono (pe_fld ha.pe hb) fun σ H Q ⟨β, G, env, r0, q⟩ => ⟨β, G, env, r0, ha.mo _ _ _ (fun m z v H' G' e rv => ?_) q⟩⟩
  · unfold gFld at z ⊢
    split at z
    · exact asFro_mo kk z
    · exact z
  · unfold gFld at z
    cases h : getO (.fro m) [k] with
    | none => rw [h] at z; exact z.elim
    | some o =>
      rw [h] at z
      subst hf
      obtain ⟨w, h1, h2⟩ := RepB.place (H := H') e.gh (p := [k]) (fun f hf => by simp at hf; subst hf; exact Nat.le_of_ble_eq_true hk) (show RepB X.K cl H' G' (.fro m) v by unfold RepB; exact rv) h
      obtain ⟨a, C, dx, fs, u, y1, y2, y5, y3, y4⟩ := h1
      cases o with
      | fro m' =>
        unfold RepB at h2
        have y4' : u = w := y4
        subst y4'
        exact ⟨a, C, dx, fs, u, y1, y2, y5.1, y5.2, y3, z u H' G' e h2⟩
      | _ => exact z.elim
/-! ### calls of what is built in -/
/-- by one value, by two -/
structure GB (X : Cx) (cl : Nat → Addr) (f : Value) (g : OV → (MV → Prop) → Prop) : Prop where
  mo : ∀ m (Q Q' : MV → Prop), (∀ k, Q k → Q' k) → g m Q → g m Q'
  ex : ∃ r, CallR X f r ∧ ∀ m x H G (Q : VK), Same G H → RepB X.K cl H G m x → g m (fun k => ∀ v H' G', Ext H G H' G' → Rep X.K cl G' k v → Q v H') → r [x] H Q
structure GB2 (X : Cx) (cl : Nat → Addr) (f : Value) (g : OV → OV → (MV → Prop) → Prop) : Prop where
  mo : ∀ m n (Q Q' : MV → Prop), (∀ k, Q k → Q' k) → g m n Q → g m n Q'
  ex : ∃ r, CallR X f r ∧ ∀ m n x y H G (Q : VK), Same G H → RepB X.K cl H G m x → RepB X.K cl H G n y → g m n (fun k => ∀ v H' G', Ext H G H' G' → Rep X.K cl G' k v → Q v H') → r [x, y] H Q
def e1 (g : OV → (MV → Prop) → Prop) (qa : QX) : EX := fun env Q => qa env fun m => g m Q
variable {x : Str} {p : Pos} {id T : String} {g : OV → (MV → Prop) → Prop} {g2 : OV → OV → (MV → Prop) → Prop}
theorem one_run {f : Value} (hg : GB X cl f g) (ha : MQ X cl a qa) : ∃ r, CallR X f r ∧ ∀ σ H Q, eOf X.K cl (e1 g qa) σ H Q → tCB r (tCons (qOf X.K cl qa) tNil) σ H Q := by
  obtain ⟨r, hc, h⟩ := hg.ex
  refine ⟨r, hc, fun σ H Q ⟨β, G, env, r0, q⟩ => ⟨β, G, env, r0, ha.mo _ _ _ (fun m z v H' G' e rv => ?_) q⟩⟩
  exact h m v H' G' Q e.gh rv (hg.mo _ _ _ (fun k w v' H2 G2 e2 rk => w v' H2 G2 (e.trans e2) rk) z)
theorem m_callB (hg : GB X cl (.builtin id) g) (gl : Gl X x) (hm : X.mg x = none) (hv : bootBuiltins x = some (.builtin id)) (ha : MQ X cl a qa) (hn : x ≠ "__name__" := by decide) (hdb : (x == ("__debug__" : Str)) = false := by decide)
    (he : starEach [a] X.env = (false, eval a X.env) :: starEach [] X.env := by rfl) : ME X cl (.Call (.Name x p) [a] [] pos) (e1 g qa) := by
  obtain ⟨r, hc, h⟩ := one_run hg ha
  exact ⟨fun env Q Q' k q => ha.mo _ _ _ (fun m z => hg.mo _ _ _ k z) q, PEmono (pe_callB hc gl hm hv (pa_cons ha.pe pa_nil he) hn hdb he rfl) h⟩
theorem m_callT (hg : GB X cl (.type T) g) (gl : Gl X x) (hm : X.mg x = none) (hv : bootBuiltins x = some (.type T)) (ha : MQ X cl a qa) (hn : x ≠ "__name__" := by decide) (hdb : (x == ("__debug__" : Str)) = false := by decide)
    (he : starEach [a] X.env = (false, eval a X.env) :: starEach [] X.env := by rfl) : ME X cl (.Call (.Name x p) [a] [] pos) (e1 g qa) := by
  obtain ⟨r, hc, h⟩ := one_run hg ha
  exact ⟨fun env Q Q' k q => ha.mo _ _ _ (fun m z => hg.mo _ _ _ k z) q, PEmono (pe_callTy hc gl hm hv (pa_cons ha.pe pa_nil he) hn hdb he rfl) h⟩
theorem m_callB2 (hg : GB2 X cl (.builtin id) g2) (gl : Gl X x) (hm : X.mg x = none) (hv : bootBuiltins x = some (.builtin id)) (ha : MQ X cl a qa) (hb : MQ X cl b qb) (hn : x ≠ "__name__" := by decide) (hdb : (x == ("__debug__" : Str)) = false := by decide)
    (he : starEach [a, b] X.env = (false, eval a X.env) :: starEach [b] X.env := by rfl) (he2 : starEach [b] X.env = (false, eval b X.env) :: starEach [] X.env := by rfl) (hpl : (backTo pos (starEach [b] X.env)).any (·.1) = false := by rfl) : ME X cl (.Call (.Name x p) [a, b] [] pos) (eBin g2 qa qb) := by
  obtain ⟨r, hc, h⟩ := hg.ex
  refine ⟨fun env Q Q' k q => ha.mo _ _ _ (fun m z => hb.mo _ _ _ (fun n z => hg.mo _ _ _ _ k z) z) q, PEmono (pe_callB hc gl hm hv (pa_cons ha.pe (pa_cons hb.pe pa_nil he2) he) hn hdb he hpl) fun σ H Q ⟨β, G, env, r0, q⟩ => ?_⟩
  refine ⟨β, G, env, r0, ha.mo _ _ _ (fun m z v H' G' e rv => ?_) q⟩
  refine ⟨β, G', env, r0.ext e, hb.mo _ _ _ (fun n z w H2 G2 e2 rw => ?_) z⟩
  exact h m n v w H2 G2 Q e2.gh (Same.repB rv e2) rw (hg.mo _ _ _ _ (fun k w v' H3 G3 e3 rk => w v' H3 G3 ((e.trans e2).trans e3) rk) z)
end
end C
namespace C
open PySem PySem.Spec PyProof.Rows L2
/-! ### functions -/
abbrev FX := Env → (OV → Env → Prop) → (Int → Prop) → Prop
def FMono (F : FX) : Prop := ∀ ss (Q Q' : OV → Env → Prop) (E E' : Int → Prop), (∀ o e, Q o e → Q' o e) → (∀ n, E n → E' n) → F ss Q E → F ss Q' E'
def sp0 (K : PySem.W.Frag) (cl : Nat → Addr) (n : Nat) (F : FX) : Sp := fun vs H Q _ => vs.length = n ∧ ∃ G Fl ss, R K cl ⟨H, G, Fl, vs.map some⟩ (vs.map some) H G ss [] ∧
  F ss (fun o env' => ∀ v σ' H' G' X, R K cl ⟨H, G, Fl, vs.map some⟩ σ' H' G' env' X → RepO K cl H' G' o v X → Q v H') (fun _ => False)
/-- a def that is ready to be called, at level k -/
structure FB (P : Program) (w : World) (K : PySem.W.Frag) (mg : Str → Option Value) (base : Heap) (cl : Nat → Addr) (k n : Nat) (f : Addr) (F : FX) : Prop where
  ex : ∃ fd ps, FnOk P w K mg base CX0 k f fd ps (sp0 K cl n F) ∧ Binds K fd ps []
  mo : ∀ A : Around, Room k A → FMono F
def noMu : List Ar → Bool
  | [] => true
  | .mu _ _ :: _ => false
  | _ :: as => noMu as
theorem noMu_iff : ∀ {as : List Ar}, noMu as = true → ∀ i p, Ar.mu i p ∉ as
  | [], _, i, p, h => by cases h
  | .v m :: as, e, i, p, h => noMu_iff (as := as) (by simpa [noMu] using e) i p (by simpa using h)
  | .br j q :: as, e, i, p, h => noMu_iff (as := as) (by simpa [noMu] using e) i p (by simpa using h)
  | .mu j q :: as, e, i, p, h => by simp [noMu] at e
/-- a call that lends nothing to be changed; the answer is new or frozen -/
abbrev NX := Env → (OV → Prop) → Prop
def nCall (n : Nat) (F : FX) (ga : AX) : NX := fun env Q => ga env fun as => match arSlots env as with
  | some ss => ((arOk (muS as) as && noMu as) && Nat.beq as.length n) = true ∧ F ss (fun o _ => Q o) (fun _ => False)
  | none => False
section
variable (K : PySem.W.Frag) (cl : Nat → Addr)
def nOf (f : NX) : TE := fun σ H Q => ∃ β G env, R K cl β σ H G env [] ∧ f env fun o => ∀ v H' G' X, Ext H G H' G' → RepO K cl H' G' o v X → (∀ b ∈ X, H b = none ∧ G' b = none ∧ H' b ≠ none) → Q v H'
end
structure MN (X : Cx) (cl : Nat → Addr) (E : Expr) (f : NX) : Prop where
  mo : ∀ env (Q Q' : OV → Prop), (∀ m, Q m → Q' m) → f env Q → f env Q'
  pe : PE X E (nOf X.K cl f)
section
variable {X : Cx} {cl : Nat → Addr} {a b c e : Expr} {es : List Expr} {fa fb fc : EX} {qa qb qc : QX} {ta tb : TX} {ga : AX} {na : NX} {pos : Pos}
theorem frz_rep {K : PySem.W.Frag} {H G : Hp} {o : OV} {v : V} {X : List Addr} {m : MV} (h : RepO K cl H G o v X) (n : ∀ b ∈ X, G b = none) (e : frz o = some m) : Rep K cl (frzG H G X) m v :=
  RepO.frz (frzG_same n) o v X m (fun b hb u hu => by unfold frzG; rw [if_pos hb]; exact hu) h e
/-- a new thing is frozen -/
def eFrz (na : NX) : EX := fun env Q => na env fun o => match frz o with
  | some m => Q m
  | none => False
theorem me_n (h : MN X cl a na) : ME X cl a (eFrz na) := by
  refine ⟨fun env Q Q' k q => h.mo _ _ _ (fun o z => ?_) q, PEmono h.pe fun σ H Q ⟨β, G, env, r0, q⟩ => ⟨β, G, env, r0, h.mo _ _ _ (fun o z v H' G' X e ro hX => ?_) q⟩⟩
  · cases q : frz o with
    | none => rw [q] at z; exact z
    | some m => rw [q] at z; exact k _ z
  · cases q : frz o with
    | none => rw [q] at z; exact z.elim
    | some m =>
      rw [q] at z
      exact z v H' _ (e.frz (fun b hb => (hX b hb).1) fun b hb => (hX b hb).2.1) (frz_rep ro (fun b hb => (hX b hb).2.1) q)
def nE (fa : EX) : NX := fun env Q => fa env fun m => Q (.fro m)
theorem mn_e (h : ME X cl a fa) : MN X cl a (nE fa) := by
  refine ⟨fun env Q Q' k q => h.mo _ _ _ (fun o z => k _ z) q, PEmono h.pe fun σ H Q ⟨β, G, env, r0, q⟩ => ⟨β, G, env, r0, h.mo _ _ _ (fun m z v H' G' e r => ?_) q⟩⟩
  exact z v H' G' [] e (by unfold RepO; exact ⟨rfl, r⟩) (fun b hb => by cases hb)
/-- a list just displayed -/
def nLst (ga : AX) : NX := fun env Q => ga env fun as => match arVs as with
  | some ms => ms.length ≤ sizeLine ∧ Q (.lst ms)
  | none => False
theorem mn_lst (h : MA X cl es ga) : MN X cl (.List es pos) (nLst ga) := by
  refine ⟨fun env Q Q' k q => h.mo _ _ _ (fun as z => ?_) q, PEmono (pe_lst h.pa) fun σ H Q ⟨β, G, env, r0, q⟩ => ⟨β, G, env, r0, h.mo _ _ _ (fun as z vs H' G' e rs => ?_) q⟩⟩
  · cases e : arVs as with
    | none => rw [e] at z; exact z
    | some ms => rw [e] at z; exact ⟨z.1, k _ z.2⟩
  · cases q : arVs as with
    | none => rw [q] at z; exact z.elim
    | some ms =>
      rw [q] at z
      have rr := arVs_rep q rs
      refine ⟨by rw [Reps.len _ _ rr]; exact z.1, fun p hp => z.2 _ _ G' [p] (e.trans (Ext.new0 e.gh hp)) ?_ fun b hb => ?_⟩
      · unfold RepO
        exact ⟨p, vs, rfl, rfl, upd_same, rr⟩
      · have : b = p := by simpa using hb
        subst this
        refine ⟨e.hh.free hp, e.gh.free hp, by rw [upd_same]; simp⟩
/-! ### calls of defs -/
theorem call_in {n : Nat} {F : FX} (mo : FMono F) {σ : L2.St} {β : Bs} {H G : Hp} {env : Env} {as : List Ar} {vs : List V} {ss : Env} {Q : VK} (r0 : R X.K cl β σ H G env []) (ra : ArReps X.K cl σ H G as vs) (hs : arSlots env as = some ss)
    (ok : (arOk (muS as) as && noMu as) = true) (hn : as.length = n) (q : F ss (fun o _ => ∀ v H' G' X', Ext H G H' G' → RepO X.K cl H' G' o v X' → (∀ b ∈ X', H b = none ∧ G' b = none ∧ H' b ≠ none) → Q v H') (fun _ => False)) : sp0 X.K cl n F vs H Q E0 := by
  rw [Bool.and_eq_true] at ok
  obtain ⟨Fl, r1, _, hFl⟩ := r0.callF ra hs ok.1
  have nF : ∀ b, ¬ Fl b := fun b z => by
    obtain ⟨i, p, h⟩ := hFl b z
    exact noMu_iff ok.2 i p h
  refine ⟨by rw [ra.len, hn], G, Fl, ss, r1, mo _ _ _ _ _ (fun o env' z v σ' H' G' X' r2 ro => ?_) (fun _ z => z) q⟩
  obtain ⟨fp, _, _, _, s4⟩ := r2.sl
  refine z v H' G' X' ⟨fun b u h => r2.hk b u h (nF b), r2.g0, r2.gh, fun b hb hg => r2.gk b hb (nF b) hg⟩ ro fun b hb => ?_
  obtain ⟨h1, h2, h3, _⟩ := s4 b hb
  exact ⟨h3.elim id fun z => (nF b z).elim, h2, h1⟩
end
end C
namespace C
open PySem PySem.Spec PyProof.Rows L2
section
variable {X : Cx} {cl : Nat → Addr} {a b c e : Expr} {es : List Expr} {fa fb fc : EX} {qa qb qc : QX} {ta tb : TX} {ga : AX} {na : NX} {pos p : Pos} {x : Str}
theorem nCall_mo {n : Nat} {F : FX} {ga : AX} (hg : ∀ env (Q Q' : List Ar → Prop), (∀ m, Q m → Q' m) → ga env Q → ga env Q') (hF : FMono F) : ∀ env (Q Q' : OV → Prop), (∀ m, Q m → Q' m) → nCall n F ga env Q → nCall n F ga env Q' := fun env Q Q' k q => hg _ _ _ (fun as z => by
  cases h : arSlots env as with
  | none => rw [h] at z; exact z
  | some ss => rw [h] at z; exact ⟨z.1, hF _ _ _ _ _ (fun o e w => k o w) (fun _ w => w) z.2⟩) q
theorem nCall_in {n : Nat} {F : FX} (mo : FMono F) {σ : L2.St} {β : Bs} {H G H' G' : Hp} {env : Env} {as : List Ar} {vs : List V} {Q : VK} (r0 : R X.K cl β σ H G env []) (e : Ext H G H' G') (rs : ArReps X.K cl σ H' G' as vs)
    (z : match arSlots env as with
      | some ss => ((arOk (muS as) as && noMu as) && Nat.beq as.length n) = true ∧ F ss (fun o _ => ∀ v H' G' X, Ext H G H' G' → RepO X_K cl H' G' o v X → (∀ b ∈ X, H b = none ∧ G' b = none ∧ H' b ≠ none) → Q v H') (fun _ => False)
      | none => False) (hK : X_K = X.K) : sp0 X.K cl n F vs H' Q E0 := by
  subst hK
  cases h : arSlots env as with
  | none => rw [h] at z; exact z.elim
  | some ss =>
    rw [h] at z
    have z1 := z.1
    rw [Bool.and_eq_true] at z1
    exact call_in mo (r0.ext e) rs h z1.1 (Nat.eq_of_beq_eq_true z1.2) (mo _ _ _ _ _ (fun o _ w v H2 G2 X2 e2 ro hX => w v H2 G2 X2 (e.trans e2) ro fun b hb => ⟨e.hh.free (hX b hb).1, (hX b hb).2⟩) (fun _ w => w) z.2)
theorem mn_call {k n : Nat} {f : Addr} {F : FX} (hF : FB X.prog X.w X.K X.mg X.base cl k n f F) (hr : Room k X.A) (gl : Gl X x) (hm : X.mg x = some (.ref f)) (hk : PySem.W.keepIn X.K (.ref f) = true) (ha : MA X cl (e :: es) ga) (hdb : (x == ("__debug__" : Str)) = false := by decide)
    (he : starEach (e :: es) X.env = (false, eval e X.env) :: starEach es X.env := by rfl) (hpl : (backTo pos (starEach es X.env)).any (·.1) = false := by rfl) : MN X cl (.Call (.Name x p) (e :: es) [] pos) (nCall n F ga) := by
  obtain ⟨fd, ps, F0, hb⟩ := hF.ex
  refine ⟨nCall_mo ha.mo (hF.mo X.A hr), PEmono (pe_call (E := E0) F0 hr gl hm hk hb .nil pass0 ha.pa hdb he hpl) fun σ H Q ⟨β, G, env, r0, q⟩ => ?_⟩
  refine ⟨β, G, env, r0, ha.mo _ _ _ (fun as z vs H' G' e rs => ?_) q⟩
  simp only [List.append_nil]
  exact nCall_in (hF.mo X.A hr) r0 e rs z rfl
/-! methods: the receiver is the first argument -/
abbrev RX := Env → (Ar → Prop) → Prop
structure MR (X : Cx) (cl : Nat → Addr) (E : Expr) (f : RX) : Prop where
  mo : ∀ env (Q Q' : Ar → Prop), (∀ m, Q m → Q' m) → f env Q → f env Q'
  pe : PE X E fun σ H Q => ∃ β G env, R X.K cl β σ H G env [] ∧ f env fun a => ∀ v H' G', Ext H G H' G' → ArRep X.K cl σ H' G' a v → Q v H'
def rE (fa : EX) : RX := fun env Q => fa env fun m => Q (.v m)
theorem mr_e (h : ME X cl a fa) : MR X cl a (rE fa) := ⟨fun env Q Q' k q => h.mo _ _ _ (fun m z => k _ z) q, PEmono h.pe fun σ H Q ⟨β, G, env, r0, q⟩ => ⟨β, G, env, r0, h.mo _ _ _ (fun m z v H' G' e r => z v H' G' e r) q⟩⟩
def rPl (mk : Ar) (i : Nat) (p : List Nat) : RX := fun env Q => match getP env i p with
  | some _ => Q mk
  | none => False
theorem mr_pl {i : Nat} {p : List Nat} (mk : Ar) (hmk : mk = .mu i p ∨ mk = .br i p) (ha : MP X a i p) (hp : fld38 p = true) : MR X cl a (rPl mk i p) := by
  refine ⟨fun env Q Q' k q => ?_, PEmono ha fun σ H Q ⟨β, G, env, r0, q⟩ => ?_⟩
  · unfold rPl at q ⊢
    cases h : getP env i p with
    | none => rw [h] at q; exact q
    | some o => rw [h] at q; exact k _ q
  · unfold rPl at q
    cases h : getP env i p with
    | none => rw [h] at q; exact q.elim
    | some o =>
      rw [h] at q
      obtain ⟨v0, w, h1, h2, _⟩ := r0.rd (fld38_out hp) h
      refine ⟨v0, w, h1, h2, q w H G (Ext.refl r0.gh) ?_⟩
      rcases hmk with rfl | rfl
      · exact ⟨v0, h1, h2⟩
      · exact ⟨v0, h1, h2⟩
theorem mr_mu {i : Nat} {p : List Nat} (ha : MP X a i p) (hp : fld38 p = true := by rfl) : MR X cl a (rPl (.mu i p) i p) := mr_pl _ (.inl rfl) ha hp
theorem mr_br {i : Nat} {p : List Nat} (ha : MP X a i p) (hp : fld38 p = true := by rfl) : MR X cl a (rPl (.br i p) i p) := mr_pl _ (.inr rfl) ha hp
/-- the class of what is lent -/
def arCls (env : Env) : Ar → Option Nat
  | .v (.obj c _) => some c
  | .mu i p => match getP env i p with
    | some (.obj c _) => some c
    | some (.fro (.obj c _)) => some c
    | _ => none
  | .br i p => match getP env i p with
    | some (.obj c _) => some c
    | some (.fro (.obj c _)) => some c
    | _ => none
  | _ => none
def isC (o : Option Nat) (c : Nat) : Bool := match o with
  | some d => Nat.beq d c
  | none => false
def rcG (c : Nat) (rx : RX) (ga : AX) : AX := fun env Q => rx env fun r => (isC (arCls env r) c && p38 r) = true ∧ ga env fun as => Q (r :: as)
where p38 : Ar → Bool
  | .v _ => true
  | .mu _ p => fld38 p
  | .br _ p => fld38 p
theorem nf_none {c : Nat} {m : Str} {vs : List V} (h : ∀ f ∈ fsOf c, fn f ≠ m) : (nf c vs).lookup m = none := by
  unfold nf
  have : ∀ (l : List Nat) (vs : List V), (∀ f ∈ l, fn f ≠ m) → ((l.map fn).zip vs).lookup m = none := by
    intro l
    induction l with
    | nil => intro vs _; simp
    | cons g r ih =>
      intro vs hl
      cases vs with
      | nil => simp
      | cons v vs =>
        have hb : (m == fn g) = false := beq_eq_false_iff_ne.mpr fun z => hl g List.mem_cons_self z.symm
        simp only [List.map_cons, List.zip_cons_cons, List.lookup_cons, hb]
        exact ih vs fun f hf => hl f (List.mem_cons_of_mem _ hf)
  exact this _ _ h
theorem arCls_rep {K : PySem.W.Frag} {β : Bs} {σ : L2.St} {H G : Hp} {env : Env} {r : Ar} {v : V} {c : Nat} (r0 : R K cl β σ H G env []) (hr : ArRep K cl σ H G r v) (h : (isC (arCls env r) c && rcG.p38 r) = true) : ∃ p dx vs, v = .ref p ∧ H p = some (.ins (cl c) dx (nf c vs)) := by
  rw [Bool.and_eq_true] at h
  have hc : arCls env r = some c := by
    have h1 := h.1
    cases e : arCls env r with
    | none => rw [e] at h1; cases h1
    | some d => rw [e] at h1; rw [Nat.eq_of_beq_eq_true h1]
  have plc : ∀ i p, (∃ v0, σ[i]? = some (some v0) ∧ PAt K H v0 p v) → fld38 p = true → (match getP env i p with
    | some (.obj c _) => some c
    | some (.fro (.obj c _)) => some c
    | _ => none) = some c → ∃ p dx vs, v = .ref p ∧ H p = some (.ins (cl c) dx (nf c vs)) := fun i p ⟨v0, h1, h2⟩ hp hm => by
    cases e : getP env i p with
    | none => rw [e] at hm; cases hm
    | some o =>
      rw [e] at hm
      obtain ⟨v1, w, y1, y2, y3⟩ := r0.rd (fld38_out hp) e
      rw [h1] at y1; cases y1
      have := PAt.uniq h2 y2
      subst this
      cases o with
      | obj c' os =>
        cases hm
        unfold RepB at y3
        obtain ⟨q, dx, vs, rfl, z, _⟩ := y3
        exact ⟨q, dx, vs, rfl, z⟩
      | fro m =>
        cases m with
        | obj c' ms =>
          cases hm
          unfold RepB Rep at y3
          obtain ⟨q, dx, vs, rfl, z, _⟩ := y3
          exact ⟨q, dx, vs, rfl, r0.gh _ _ z⟩
        | _ => cases hm
      | _ => cases hm
  cases r with
  | v m =>
    cases m with
    | obj c' ms =>
      have : c' = c := by simpa [arCls] using hc
      subst this
      have hr' : Rep K cl G (.obj c' ms) v := hr
      unfold Rep at hr'
      obtain ⟨q, dx, vs, rfl, z, _⟩ := hr'
      exact ⟨q, dx, vs, rfl, r0.gh _ _ z⟩
    | _ => simp [arCls] at hc
  | mu i p => exact plc i p hr h.2 hc
  | br i p => exact plc i p hr h.2 hc
theorem rcG_mo {c : Nat} {rx : RX} {ga : AX} (hx : ∀ env (Q Q' : Ar → Prop), (∀ m, Q m → Q' m) → rx env Q → rx env Q') (hg : ∀ env (Q Q' : List Ar → Prop), (∀ m, Q m → Q' m) → ga env Q → ga env Q') : ∀ env (Q Q' : List Ar → Prop), (∀ m, Q m → Q' m) → rcG c rx ga env Q → rcG c rx ga env Q' :=
  fun env Q Q' k q => hx _ _ _ (fun r z => ⟨z.1, hg _ _ _ (fun as w => k _ w) z.2⟩) q
theorem meth_in {c n : Nat} {rx : RX} {o : Expr} {m : Str} {sp : Sp} {E : XK} (hx : MR X cl o rx) (ha : MA X cl es ga) (hno : ∀ f ∈ fsOf c, fn f ≠ m) {σ : L2.St} {H : Hp} {Q : VK} {β : Bs} {G : Hp} {env : Env} (r0 : R X.K cl β σ H G env [])
    (q : rcG c rx ga env fun as => ∀ vs H' G', Ext H G H' G' → ArReps X.K cl σ H' G' as vs → sp vs H' Q E) :
    tMeth (cl c) m sp [] E (fun σ H Q => ∃ β G env, R X.K cl β σ H G env [] ∧ rx env fun a => ∀ v H' G', Ext H G H' G' → ArRep X.K cl σ H' G' a v → Q v H') (aOf X.K cl ga) σ H Q := by
  refine ⟨β, G, env, r0, hx.mo _ _ _ (fun r z v H' G' e rr => ?_) q⟩
  obtain ⟨p, dx, vs, rfl, h2⟩ := arCls_rep (r0.ext e) rr z.1
  refine ⟨p, dx, _, rfl, h2, nf_none hno, β, G', env, r0.ext e, ha.mo _ _ _ (fun as w vs2 H2 G2 e2 rs => ?_) z.2⟩
  simp only [List.append_nil]
  exact w _ H2 G2 (e.trans e2) ⟨_, vs2, rfl, rr.ext e2, rs⟩
/-- o.m(e, ..) that changes nothing -/
theorem mn_meth {k n : Nat} {f : Addr} {F : FX} {rx : RX} {o : Expr} {m : Str} {apos : Pos} {pl : Sem Bool} (c : Nat) (hF : FB X.prog X.w X.K X.mg X.base cl k n f F) (hr : Room k X.A) (hx : MR X cl o rx) (hC : Cls X.K (cl c)) (hM : Meth X.K (cl c) m f) (hno : ∀ f ∈ fsOf c, fn f ≠ m) (ha : MA X cl (e :: es) ga)
    (hst : starEach (e :: es) X.env = (false, eval e X.env) :: starEach es X.env := by rfl) (hpl : (backTo pos (starEach es X.env)).any (·.1) = false := by rfl)
    (ht : eval (.Call (.Attribute o m apos) (e :: es) [] pos) X.env = (do
      let ov ← eval o X.env
      standAt apos.atName
      let (f, first) ← holding [ov] (getMethod ov m pl)
      callWith pos f first (backTo pos (starEach (e :: es) X.env)) (backToKw pos (keywordEach [] X.env))) := by rfl) : MN X cl (.Call (.Attribute o m apos) (e :: es) [] pos) (nCall n F (rcG c rx ga)) := by
  obtain ⟨fd, ps, F0, hb⟩ := hF.ex
  refine ⟨nCall_mo (rcG_mo hx.mo ha.mo) (hF.mo X.A hr), PEmono (pe_meth (E := E0) hx.pe hC hM F0 hr hb .nil pass0 ha.pa hst hpl ht) fun σ H Q ⟨β, G, env, r0, q⟩ => ?_⟩
  exact meth_in (n := n) hx ha hno r0 (rcG_mo hx.mo ha.mo _ _ _ (fun as z vs H' G' e rs => nCall_in (hF.mo X.A hr) r0 e rs z rfl) q)
theorem mn_meth0 {k n : Nat} {f : Addr} {F : FX} {rx : RX} {o : Expr} {m : Str} {apos : Pos} {pl : Sem Bool} (c : Nat) (hF : FB X.prog X.w X.K X.mg X.base cl k n f F) (hr : Room k X.A) (hx : MR X cl o rx) (hC : Cls X.K (cl c)) (hM : Meth X.K (cl c) m f) (hno : ∀ f ∈ fsOf c, fn f ≠ m)
    (ht : eval (.Call (.Attribute o m apos) [] [] pos) X.env = (do
      let ov ← eval o X.env
      standAt apos.atName
      let (f, first) ← holding [ov] (getMethod ov m pl)
      callWith pos f first (backTo pos (starEach [] X.env)) (backToKw pos (keywordEach [] X.env))) := by rfl) : MN X cl (.Call (.Attribute o m apos) [] [] pos) (nCall n F (rcG c rx aN)) := by
  obtain ⟨fd, ps, F0, hb⟩ := hF.ex
  have ha : MA X cl [] aN := ma_nil
  refine ⟨nCall_mo (rcG_mo hx.mo ha.mo) (hF.mo X.A hr), PEmono (pe_meth0 (E := E0) hx.pe hC hM F0 hr hb .nil pass0 ht) fun σ H Q ⟨β, G, env, r0, q⟩ => ?_⟩
  obtain ⟨β', G', env', r1, q1⟩ := meth_in (n := n) (sp := sp0 X.K cl n F) (E := E0) hx ha hno r0 (rcG_mo hx.mo ha.mo _ _ _ (fun as z vs H' G' e rs => nCall_in (hF.mo X.A hr) r0 e rs z rfl) q)
  refine ⟨β', G', env', r1, hx.mo _ _ _ (fun r z v H2 G2 e2 rr => ?_) q1⟩
  obtain ⟨a, dx, fs, h1, h2, h3, β3, G3, env3, r3, h4⟩ := z v H2 G2 e2 rr
  exact ⟨a, dx, fs, h1, h2, h3, h4 [] H2 G3 (Ext.refl r3.gh) rfl⟩
/-! new instances -/
theorem R.consNew {K : PySem.W.Frag} {H H2 G : Hp} {F0 : Addr → Prop} {σ : L2.St} {ss : Env} {o : OV} {v : V} {fp : List Addr} (r : R K cl ⟨H, G, F0, σ⟩ σ H G ss []) (nF : ∀ b, ¬ F0 b) (hs : Same H H2) (hn : ∀ b ∈ fp, H b = none) (ho : RepO K cl H2 G o v fp) :
    R K cl ⟨H2, G, fun b => b ∈ fp, some v :: σ⟩ (some v :: σ) H2 G (.rf o :: ss) [] := by
  obtain ⟨f, s1, s2, s3, s4⟩ := r.sl
  have emp : ∀ i, i < ss.length → f i = [] := fun i hi => by
    cases e : f i with
    | nil => rfl
    | cons b t =>
      have hb : b ∈ f i := by rw [e]; exact List.mem_cons_self
      rcases (s2 i b hi hb).2 with y | y
      · exact absurd y ((s1 i ss[i] (by simp [hi])).there b hb)
      · exact (nF b y).elim
  refine ⟨by simp [r.len], Same.refl _, r.gh.trans hs, fun b u h _ => h, fun b _ _ h => h, fun i => match i with | 0 => fp | _ + 1 => [], fun i s hi => ?_, fun i b hi hb => ?_, fun i j b hi hj h1 h2 => ?_, fun b hb => by cases hb⟩
  · cases i with
    | zero =>
      simp at hi; subst hi
      unfold SRep
      exact ⟨v, rfl, rfl, ho⟩
    | succ i =>
      have hi' : ss[i]? = some s := by simpa using hi
      have hl := (List.getElem?_eq_some_iff.mp hi').1
      have q := s1 i s hi'
      rw [emp i hl] at q
      have e1 : (some v :: σ).getD (i + 1) none = σ.getD i none := rfl
      show SRep K cl _ H2 G (i + 1) ((some v :: σ).getD (i + 1) none) s []
      rw [e1]
      cases s with
      | un => unfold SRep at q ⊢; exact q
      | ow o' => unfold SRep at q ⊢; obtain ⟨w, q1, q2⟩ := q; exact ⟨w, q1, RepO.frame (Same.refl _) _ _ _ (fun b hb => by cases hb) q2⟩
      | rf o' => unfold SRep at q ⊢; obtain ⟨w, q1, q2, q3⟩ := q; exact ⟨w, q1, by simpa using q2, RepO.frame (Same.refl _) _ _ _ (fun b hb => by cases hb) q3⟩
      | bo o' =>
        unfold SRep at q ⊢
        obtain ⟨_, w, q1, q2, Hb, hb, q3⟩ := q
        exact ⟨rfl, w, q1, by simpa using q2, Hb, fun b u h => ⟨hs _ _ (hb b u h).1, fun z => by have y : H b = some u := (hb b u h).1; rw [hn b z] at y; cases y⟩, q3⟩
  · cases i with
    | zero =>
      have hb' : b ∈ fp := hb
      exact ⟨r.gh.free (hn b hb'), .inr hb'⟩
    | succ i => cases hb
  · cases i with
    | zero => cases j with
      | zero => rfl
      | succ j => cases h2
    | succ i => cases h1
def nMake (c n : Nat) (F : FX) (ga : AX) : NX := fun env Q => ga env fun as => match arSlots env as with
  | some ss => ((arOk (muS as) as && noMu as) && Nat.beq (as.length + 1) n) = true ∧ F (.rf (.obj c []) :: ss) (fun o env' => isNon o = true ∧ match env' with
    | .rf o' :: _ => Q o'
    | _ => False) (fun _ => False)
  | none => False
theorem make_in {n c : Nat} {F : FX} (mo : FMono F) (hC : COk X.K cl c 0) {σ : L2.St} {β : Bs} {H G : Hp} {env : Env} {as : List Ar} {vs : List V} {Q : VK} (r0 : R X.K cl β σ H G env []) (rs : ArReps X.K cl σ H G as vs)
    (z : match arSlots env as with
      | some ss => ((arOk (muS as) as && noMu as) && Nat.beq (as.length + 1) n) = true ∧ F (.rf (.obj c []) :: ss) (fun o env' => isNon o = true ∧ match env' with
        | .rf o' :: _ => ∀ v H' G' X_, Ext H G H' G' → RepO X.K cl H' G' o' v X_ → (∀ b ∈ X_, H b = none ∧ G' b = none ∧ H' b ≠ none) → Q v H'
        | _ => False) (fun _ => False)
      | none => False) (xx dx : Addr) (hx : H xx = none) (hdx : H dx = none) (hne : dx ≠ xx) : sp0 X.K cl n F (.ref xx :: vs) (upd (upd H dx (.own xx)) xx (.ins (cl c) dx [])) (fun v H2 => v = .non ∧ Q (.ref xx) H2) E0 := by
  cases h : arSlots env as with
  | none => rw [h] at z; exact z.elim
  | some ss =>
    rw [h] at z
    have z1 := z.1
    rw [Bool.and_eq_true, Bool.and_eq_true] at z1
    obtain ⟨Fl, r1, _, hFl⟩ := r0.callF rs h z1.1.1
    have nF : ∀ b, ¬ Fl b := fun b y => by
      obtain ⟨i, p, hh⟩ := hFl b y
      exact noMu_iff z1.1.2 i p hh
    have hx2 : (upd H dx (.own xx)) xx = none := by rw [upd_ne (Ne.symm hne)]; exact hx
    have hs : Same H (upd (upd H dx (.own xx)) xx (.ins (cl c) dx [])) := (same_upd hdx).trans (same_upd hx2)
    have r2 := R.consNew (fp := [xx]) (o := .obj c []) (v := .ref xx) r1 nF hs (fun b hb => by have y : b = xx := (by simpa using hb); rw [y]; exact hx) (by
      unfold RepO
      exact ⟨xx, dx, [], [], rfl, rfl, by rw [upd_same]; unfold nf; simp, hC, by unfold RepOs; exact ⟨rfl, rfl⟩, by simp⟩)
    refine ⟨by have := Nat.eq_of_beq_eq_true z1.2; rw [List.length_cons, rs.len]; exact this, G, _, _, r2, mo _ _ _ _ _ (fun o env' w v σ' H' G' X' r3 ro => ?_) (fun _ w => w) z.2⟩
    obtain ⟨w1, w2⟩ := w
    refine ⟨?_, ?_⟩
    · cases o with
      | fro m =>
        cases m with
        | non => unfold RepO Rep at ro; exact ro.2
        | _ => cases w1
      | _ => cases w1
    · cases env' with
      | nil => exact w2.elim
      | cons s0 rest =>
        cases s0 with
        | rf o' =>
          obtain ⟨fp, t1, t2, t3, t4⟩ := r3.sl
          have q := t1 0 (.rf o') rfl
          unfold SRep at q
          obtain ⟨v', q1, q2, q3⟩ := q
          have q2' : (some v' : Option V) = some (.ref xx) := by
            have : (some (V.ref xx) :: List.map some vs)[0]? = some (some v') := q2
            simpa using this.symm
          cases q2'
          have hk : ∀ b u, H b = some u → H' b = some u := fun b u hb => r3.hk b u (hs b u hb) fun y => by
            have : b = xx := by simpa using y
            rw [this, hx] at hb; cases hb
          refine w2 (.ref xx) H' G' (fp 0) ⟨hk, r3.g0, r3.gh, fun b hb hg => ?_⟩ q3 fun b hb => ?_
          · obtain ⟨u, hu⟩ := Option.ne_none_iff_exists'.mp hb
            refine r3.gk b (by show (upd (upd H dx (.own xx)) xx (.ins (cl c) dx [])) b ≠ none; rw [hs b u hu]; simp) (fun y => ?_) hg
            have : b = xx := by simpa using y
            rw [this, hx] at hu; cases hu
          · obtain ⟨y1, y2⟩ := t2 0 b (by simp) hb
            refine ⟨?_, y1, RepO.there _ _ _ q3 b hb⟩
            rcases y2 with y | y
            · exact hs.free y
            · have : b = xx := by simpa using y
              rw [this]; exact hx
        | _ => exact w2.elim
theorem nMake_mo {c n : Nat} {F : FX} {ga : AX} (hg : ∀ env (Q Q' : List Ar → Prop), (∀ m, Q m → Q' m) → ga env Q → ga env Q') (hF : FMono F) : ∀ env (Q Q' : OV → Prop), (∀ m, Q m → Q' m) → nMake c n F ga env Q → nMake c n F ga env Q' := fun env Q Q' k q => hg _ _ _ (fun as z => by
  cases h : arSlots env as with
  | none => rw [h] at z; exact z
  | some ss =>
    rw [h] at z
    refine ⟨z.1, hF _ _ _ _ _ (fun o e w => ⟨w.1, ?_⟩) (fun _ w => w) z.2⟩
    have w2 := w.2
    split at w2
    · exact k _ w2
    · exact w2.elim) q
theorem mn_make {k n : Nat} {f : Addr} {F : FX} (c : Nat) (hF : FB X.prog X.w X.K X.mg X.base cl k n f F) (hr : Room (k + 1) X.A) (hM : Mk X.K (cl c) f) (hC : COk X.K cl c 0) (gl : Gl X x) (hm : X.mg x = some (.ref (cl c))) (ha : MA X cl (e :: es) ga) (hdb : (x == ("__debug__" : Str)) = false := by decide)
    (he : starEach (e :: es) X.env = (false, eval e X.env) :: starEach es X.env := by rfl) (hpl : (backTo pos (starEach es X.env)).any (·.1) = false := by rfl) : MN X cl (.Call (.Name x p) (e :: es) [] pos) (nMake c n F ga) := by
  obtain ⟨fd, ps, F0, hb⟩ := hF.ex
  refine ⟨nMake_mo ha.mo (hF.mo X.A (hr.mono (Nat.le_succ k))), PEmono (pe_make (E := E0) hM F0 hr gl hm hb .nil pass0 ha.pa hdb he hpl) fun σ H Q ⟨β, G, env, r0, q⟩ => ?_⟩
  refine ⟨β, G, env, r0, ha.mo _ _ _ (fun as z vs H' G' e rs xx dx hx hdx hne => ?_) q⟩
  rw [List.append_nil]
  refine make_in (hF.mo X.A (hr.mono (Nat.le_succ k))) hC (r0.ext e) rs ?_ xx dx hx hdx hne
  cases h : arSlots env as with
  | none => rw [h] at z; exact z
  | some ss =>
    rw [h] at z
    refine ⟨z.1, hF.mo X.A (hr.mono (Nat.le_succ k)) _ _ _ _ _ (fun o e' w => ⟨w.1, ?_⟩) (fun _ w => w) z.2⟩
    have w2 := w.2
    split at w2
    · exact fun v H2 G2 X2 e2 ro hX => w2 v H2 G2 X2 (e.trans e2) ro fun b hb => ⟨e.hh.free (hX b hb).1, (hX b hb).2⟩
    · exact w2.elim
theorem mn_make0 {k n : Nat} {f : Addr} {F : FX} (c : Nat) (hF : FB X.prog X.w X.K X.mg X.base cl k n f F) (hr : Room (k + 1) X.A) (hM : Mk X.K (cl c) f) (hC : COk X.K cl c 0) (gl : Gl X x) (hm : X.mg x = some (.ref (cl c))) (hdb : (x == ("__debug__" : Str)) = false := by decide) : MN X cl (.Call (.Name x p) [] [] pos) (nMake c n F aN) := by
  obtain ⟨fd, ps, F0, hb⟩ := hF.ex
  refine ⟨nMake_mo (fun _ _ _ k q => k _ q) (hF.mo X.A (hr.mono (Nat.le_succ k))), PEmono (pe_make0 (E := E0) hM F0 hr gl hm hb .nil pass0 hdb) fun σ H Q ⟨β, G, env, r0, q⟩ => ?_⟩
  intro xx dx hx hdx hne
  exact make_in (hF.mo X.A (hr.mono (Nat.le_succ k))) hC r0 (as := []) (vs := []) rfl q xx dx hx hdx hne
end
end C
namespace C
open PySem PySem.Spec PyProof.Rows L2
abbrev XX := Env → (OV → Env → Prop) → (Int → Prop) → Prop
structure KK where
  nx : Env → Prop
  rt : OV → Env → Prop
  bk : Env → Prop
  ct : Env → Prop
  ex : Int → Prop
structure KLe (k k' : KK) : Prop where
  nx : ∀ e, k.nx e → k'.nx e
  rt : ∀ o e, k.rt o e → k'.rt o e
  bk : ∀ e, k.bk e → k'.bk e
  ct : ∀ e, k.ct e → k'.ct e
  ex : ∀ n, k.ex n → k'.ex n
abbrev SX := Env → KK → Prop
/-- the wish of exceptions, by the base -/
abbrev WX := Bs → Int → Prop
section
variable (K : PySem.W.Frag) (cl : Nat → Addr) (W : WX)
def xOf (f : XX) : TE := fun σ H Q => ∃ β G env, R K cl β σ H G env [] ∧ f env (fun o env2 => ∀ v H' G' X, R K cl β σ H' G' env2 X → Same G G' → RepO K cl H' G' o v X → Q v H') (W β)
def kOf (β : Bs) (g : Hp) (D : Ends) : KK where
  nx := fun env => ∀ σ H G, R K cl β σ H G env [] → Same g G → D.nx σ H
  rt := fun o env => ∀ σ H G v X, R K cl β σ H G env X → Same g G → RepO K cl H G o v X → D.rt v H
  bk := fun env => ∀ σ H G, R K cl β σ H G env [] → Same g G → D.bk σ H
  ct := fun env => ∀ σ H G, R K cl β σ H G env [] → Same g G → D.ct σ H
  ex := W β
def sOf (s : SX) : TS := fun D σ H => ∃ β G env, R K cl β σ H G env [] ∧ s env (kOf K cl W β G D)
end
structure MX (X : Cx) (cl : Nat → Addr) (W : WX) (E : Expr) (f : XX) : Prop where
  mo : ∀ env (Q Q' : OV → Env → Prop) (E E' : Int → Prop), (∀ o e, Q o e → Q' o e) → (∀ n, E n → E' n) → f env Q E → f env Q' E'
  pe : PE X E (xOf X.K cl W f)
structure MS (X : Cx) (cl : Nat → Addr) (W : WX) (st : Stmt) (s : SX) : Prop where
  mo : ∀ env k k', KLe k k' → s env k → s env k'
  ps : PS X st (sOf X.K cl W s)
structure MSs (X : Cx) (cl : Nat → Addr) (W : WX) (st : List Stmt) (s : SX) : Prop where
  mo : ∀ env k k', KLe k k' → s env k → s env k'
  ps : PSs X st (sOf X.K cl W s)
theorem kOf_le {K : PySem.W.Frag} {cl : Nat → Addr} {W : WX} {β : Bs} {g g' : Hp} {D : Ends} (h : Same g g') : KLe (kOf K cl W β g D) (kOf K cl W β g' D) :=
  ⟨fun e z σ H G r s => z σ H G r (h.trans s), fun o e z σ H G v X r s => z σ H G v X r (h.trans s), fun e z σ H G r s => z σ H G r (h.trans s), fun e z σ H G r s => z σ H G r (h.trans s), fun n z => z⟩
theorem PSmono {X : Cx} {e : Stmt} {t t' : TS} (h : PS X e t) (k : ∀ D σ H, t' D σ H → t D σ H) : PS X e t' := ⟨fun pins s σ H Q I q => h.run pins s σ H Q I (k Q σ H q)⟩
theorem PSsmono {X : Cx} {e : List Stmt} {t t' : TS} (h : PSs X e t) (k : ∀ D σ H, t' D σ H → t D σ H) : PSs X e t' := ⟨fun pins s σ H Q I q => h.run pins s σ H Q I (k Q σ H q)⟩
section
variable {K : PySem.W.Frag} {cl : Nat → Addr} {H H' G G' : Hp} {β : Bs} {σ : L2.St} {env : Env} {Z : List Addr}
theorem R.extX (r : R K cl β σ H G env []) (e : Ext H G H' G') (hz : ∀ b ∈ Z, H b = none ∧ G' b = none ∧ H' b ≠ none) : R K cl β σ H' G' env Z := by
  have r' := r.ext e
  obtain ⟨fp, s1, s2, s3, _⟩ := r.sl
  obtain ⟨fp', t1, t2, t3, _⟩ := r'.sl
  -- the old footprints serve
  refine ⟨r'.len, r'.g0, r'.gh, r'.hk, r'.gk, fp, fun i s hs => (s1 i s hs).frame e.gg fun b _ u h => e.hh b u h, fun i b hi hb => ?_, s3, fun b hb => ?_⟩
  · have hs : env[i]? = some env[i] := by simp [hi]
    exact ⟨e.gn b ((s1 i _ hs).there b hb) (s2 i b hi hb).1, (s2 i b hi hb).2⟩
  · obtain ⟨h1, h2, h3⟩ := hz b hb
    refine ⟨h3, h2, ?_, fun i hi z => (s1 i env[i] (by simp [hi])).there b z h1⟩
    by_cases n : β.F b
    · exact .inr n
    · left
      cases q : β.H b with
      | none => rfl
      | some u => rw [r.hk b u q n] at h1; cases h1
end
section
variable {X : Cx} {cl : Nat → Addr} {W : WX} {a b c e : Expr} {es : List Expr} {fa fb fc : EX} {qa qb qc : QX} {ta tb : TX} {ga : AX} {na : NX} {xa : XX} {pos p : Pos} {x : Str} {st : Stmt} {sts sts2 : List Stmt} {s t : SX}
def xN (na : NX) : XX := fun env Q _ => na env fun o => Q o env
theorem mx_n (h : MN X cl a na) : MX X cl W a (xN na) := by
  refine ⟨fun env Q Q' E E' k _ q => h.mo _ _ _ (fun o z => k _ _ z) q, PEmono h.pe fun σ H Q ⟨β, G, env, r0, q⟩ => ⟨β, G, env, r0, h.mo _ _ _ (fun o z v H' G' X' e ro hX => ?_) q⟩⟩
  exact z v H' G' X' (r0.extX e hX) e.gg ro
def xE (fa : EX) : XX := fun env Q _ => fa env fun m => Q (.fro m) env
theorem mx_e (h : ME X cl a fa) : MX X cl W a (xE fa) := mx_n (mn_e h)
/-! blocks -/
def skip : SX := fun env k => k.nx env
def sq (s t : SX) : SX := fun env k => s env { k with nx := fun env' => t env' k }
theorem mss_nil : MSs X cl W [] skip := ⟨fun env k k' l q => l.nx _ q, PSsmono pss_nil fun D σ H ⟨β, G, env, r0, q⟩ => q σ H G r0 (Same.refl _)⟩
theorem KLe.sq {t : SX} (ht : ∀ env k k', KLe k k' → t env k → t env k') {k k' : KK} (l : KLe k k') : KLe { k with nx := fun env' => t env' k } { k' with nx := fun env' => t env' k' } := ⟨fun e z => ht _ _ _ l z, l.rt, l.bk, l.ct, l.ex⟩
theorem mss_cons (h1 : MS X cl W st s) (h2 : MSs X cl W sts t) : MSs X cl W (st :: sts) (sq s t) := by
  refine ⟨fun env k k' l q => h1.mo _ _ _ (l.sq h2.mo) q, PSsmono (pss_cons h1.ps h2.ps) fun D σ H ⟨β, G, env, r0, q⟩ => ?_⟩
  exact ⟨β, G, env, r0, h1.mo env { kOf X.K cl W β G D with nx := fun env' => t env' (kOf X.K cl W β G D) } _ ⟨fun e z σ' H' G' r' g => ⟨β, G', e, r', h2.mo _ _ _ (kOf_le g) z⟩, fun o e z => z, fun e z => z, fun e z => z, fun n z => z⟩ q⟩
theorem mss_one (h1 : MS X cl W st s) : MSs X cl W [st] s := ⟨h1.mo, pss_one h1.ps⟩
theorem ms_pass : MS X cl W (.Pass pos) skip := ⟨fun env k k' l q => l.nx _ q, PSmono ps_pass fun D σ H ⟨β, G, env, r0, q⟩ => q σ H G r0 (Same.refl _)⟩
theorem ms_doc {x : Str} {j} {pos' : Pos} : MS X cl W (.Expr (.Constant (.str x) j pos) pos') skip := ⟨fun env k k' l q => l.nx _ q, PSmono ps_doc fun D σ H ⟨β, G, env, r0, q⟩ => q σ H G r0 (Same.refl _)⟩
def brk : SX := fun env k => k.bk env
theorem ms_break : MS X cl W (.Break pos) brk := ⟨fun env k k' l q => l.bk _ q, PSmono ps_break fun D σ H ⟨β, G, env, r0, q⟩ => q σ H G r0 (Same.refl _)⟩
def drop (xa : XX) : SX := fun env k => xa env (fun _ env2 => k.nx env2) k.ex
theorem ms_expr (h : MX X cl W a xa) (hs : swapsWith a none pos.line X.env = pure false := by rfl) : MS X cl W (.Expr a pos) (drop xa) :=
  ⟨fun env k k' l q => h.mo _ _ _ _ _ (fun o e z => l.nx _ z) l.ex q, PSmono (ps_expr h.pe hs) fun D σ H ⟨β, G, env, r0, q⟩ => ⟨β, G, env, r0, h.mo _ _ _ _ _ (fun o e z v H' G' X' r' g _ => z σ H' G' r'.drop g) (fun _ z => z) q⟩⟩
def ret (xa : XX) : SX := fun env k => xa env k.rt k.ex
theorem ms_ret (h : MX X cl W a xa) : MS X cl W (.Return (some a) pos) (ret xa) :=
  ⟨fun env k k' l q => h.mo _ _ _ _ _ l.rt l.ex q, PSmono (ps_ret h.pe) fun D σ H ⟨β, G, env, r0, q⟩ => ⟨β, G, env, r0, h.mo _ _ _ _ _ (fun o e z v H' G' X' r' g ro => z σ H' G' v X' r' g ro) (fun _ z => z) q⟩⟩
def retN : SX := fun env k => k.rt (.fro .non) env
theorem ms_retN : MS X cl W (.Return none pos) retN :=
  ⟨fun env k k' l q => l.rt _ _ q, PSmono ps_retN fun D σ H ⟨β, G, env, r0, q⟩ => q σ H G .non [] r0 (Same.refl _) (by unfold RepO Rep; exact ⟨rfl, rfl⟩)⟩
def isRf : Slot → Bool
  | .rf _ => true
  | _ => false
def setE (env : Env) (i : Nat) (o : OV) : Option Env := match env[i]? with
  | some s => match isRf s with
    | true => none
    | false => some (env.set i (.ow o))
  | none => none
theorem setE_out {env env' : Env} {i : Nat} {o : OV} (h : setE env i o = some env') : i < env.length ∧ env' = env.set i (.ow o) := by
  unfold setE at h
  split at h
  · rename_i s e
    split at h
    · cases h
    · cases h
      exact ⟨(List.getElem?_eq_some_iff.mp e).1, rfl⟩
  · cases h
/-- a slot that may be written -/
theorem setE_go {s : Slot} {E : Env} {P : Env → Prop} (h : isRf s = false) (q : P E) : (match (match isRf s with | true => none | false => some E : Option Env) with | some e => P e | none => False) := by
  rw [h]
  exact q
def set (i : Nat) (xa : XX) : SX := fun env k => xa env (fun o env2 => match setE env2 i o with
  | some env3 => k.nx env3
  | none => False) k.ex
theorem set_mo {i : Nat} (h : MX X cl W a xa) : ∀ env k k', KLe k k' → set i xa env k → set i xa env k' := fun env k k' l q => h.mo _ _ _ _ _ (fun o e z => by
  split at z
  · exact l.nx _ z
  · exact z.elim) l.ex q
theorem ms_set (i : Nat) {pos' : Pos} (hN : X.N.Nodup) (h : MX X cl W e xa) (hi : X.N[i]? = some x := by rfl) (hx : Loc X.env.scope x := by first | exact Or.inl rfl | exact Or.inr rfl) (hs : swapsWith e (some (.Name x pos')) pos.line X.env = pure false := by rfl)
    (hf : X.fn x = true ∨ X.env.scope.names.lookup x = some .local := by first | exact .inl rfl | exact .inr rfl | assumption) : MS X cl W (.Assign [.Name x pos'] e pos) (set i xa) := by
  refine ⟨set_mo h, PSmono (ps_set hN hi hx h.pe hs hf) fun D σ H ⟨β, G, env, r0, q⟩ => ⟨β, G, env, r0, h.mo _ _ _ _ _ (fun o e z v H' G' X' r' gg ro => ?_) (fun _ z => z) q⟩⟩
  cases g : setE e i o with
  | none => rw [g] at z; exact z.elim
  | some e3 =>
    rw [g] at z
    obtain ⟨h1, rfl⟩ := setE_out g
    exact z _ H' G' (r'.setv h1 ro) gg
/-! if, while -/
abbrev UX := Env → (Bool → Env → Prop) → (Int → Prop) → Prop
structure MU (X : Cx) (cl : Nat → Addr) (W : WX) (E : Expr) (f : UX) : Prop where
  mo : ∀ env (Q Q' : Bool → Env → Prop) (E E' : Int → Prop), (∀ o e, Q o e → Q' o e) → (∀ n, E n → E' n) → f env Q E → f env Q' E'
  pt : PT X E fun σ H Q => ∃ β G env, R X.K cl β σ H G env [] ∧ f env (fun k env2 => ∀ H' G', R X.K cl β σ H' G' env2 [] → Same G G' → Q k H') (W β)
def uT (t : TX) : UX := fun env Q _ => t env fun k => Q k env
theorem mu_t (h : MT X cl a ta) : MU X cl W a (uT ta) := ⟨fun env Q Q' E E' k _ q => h.mo _ _ _ (fun b z => k _ _ z) q, PTmono h.pt fun σ H Q ⟨β, G, env, r0, q⟩ => ⟨β, G, env, r0, h.mo _ _ _ (fun k z H' G' e => z H' G' (r0.ext e) e.gg) q⟩⟩
def ifS (t : UX) (s u : SX) : SX := fun env k => t env (fun b env2 => match b with
  | true => s env2 k
  | false => u env2 k) k.ex
theorem ms_if {t : UX} {s u : SX} (hc : MU X cl W c t) (h1 : MSs X cl W sts s) (h2 : MSs X cl W sts2 u) : MS X cl W (.If c sts sts2 pos) (ifS t s u) := by
  refine ⟨fun env k k' l q => hc.mo _ _ _ _ _ (fun b e z => ?_) l.ex q, PSmono (ps_if hc.pt h1.ps h2.ps) fun D σ H ⟨β, G, env, r0, q⟩ => ⟨β, G, env, r0, hc.mo _ _ _ _ _ (fun b e z H' G' r' g => ?_) (fun _ z => z) q⟩⟩
  · cases b with
    | true => exact h1.mo _ _ _ l z
    | false => exact h2.mo _ _ _ l z
  · cases b with
    | true => rw [if_pos rfl]; exact ⟨β, G', e, r', h1.mo _ _ _ (kOf_le g) z⟩
    | false => rw [if_neg Bool.false_ne_true]; exact ⟨β, G', e, r', h2.mo _ _ _ (kOf_le g) z⟩
def whileN (t : TX) (s : SX) : Nat → SX
  | 0 => fun _ _ => False
  | n + 1 => fun env k => t env fun b => match b with
    | true => s env { k with nx := fun e => whileN t s n e k, ct := fun e => whileN t s n e k, bk := k.nx }
    | false => k.nx env
def whileS (t : TX) (s : SX) : SX := fun env k => ∃ n, whileN t s n env k
theorem whileN_mo {t : TX} {s : SX} (ht : ∀ env (Q Q' : Bool → Prop), (∀ m, Q m → Q' m) → t env Q → t env Q') (hs : ∀ env k k', KLe k k' → s env k → s env k') : ∀ n env k k', KLe k k' → whileN t s n env k → whileN t s n env k'
  | 0, _, _, _, _, q => q
  | n + 1, env, k, k', l, q => ht _ _ _ (fun b z => by
    cases b with
    | true => exact hs env { k with nx := fun e => whileN t s n e k, ct := fun e => whileN t s n e k, bk := k.nx } _ ⟨fun e w => whileN_mo ht hs n e k k' l w, l.rt, l.nx, fun e w => whileN_mo ht hs n e k k' l w, l.ex⟩ z
    | false => exact l.nx _ z) q
theorem ms_while (hc : MT X cl c ta) (hb : MSs X cl W sts s) (hp : PassesOwn (model X.prog X.w) X.A X.env X.xe) : MS X cl W (.While c sts [] pos) (whileS ta s) := by
  refine ⟨fun env k k' l ⟨n, q⟩ => ⟨n, whileN_mo hc.mo hb.mo n _ _ _ l q⟩, PSmono (ps_while hp hc.pt hb.ps) fun D σ H ⟨β, G, env, r0, n, q⟩ => ?_⟩
  refine ⟨fun m σ H => ∃ G2 env, R X.K cl β σ H G2 env [] ∧ Same G G2 ∧ whileN ta s m env (kOf X.K cl W β G D), ⟨n, G, env, r0, Same.refl _, q⟩, ?_⟩
  rintro m σ H ⟨G2, env, r0, g0, q⟩
  cases m with
  | zero => exact q.elim
  | succ m =>
    refine ⟨β, G2, env, r0, hc.mo _ _ _ (fun b z H' G' e => ?_) q⟩
    cases b with
    | true =>
      refine ⟨fun σ' H' => ∃ G2 env, R X.K cl β σ' H' G2 env [] ∧ Same G G2 ∧ whileN ta s m env (kOf X.K cl W β G D), fun σ' H' h => ⟨m, Nat.lt_succ_self _, h⟩, β, G', env, r0.ext e, hb.mo env { kOf X.K cl W β G D with nx := fun e => whileN ta s m e (kOf X.K cl W β G D), ct := fun e => whileN ta s m e (kOf X.K cl W β G D), bk := (kOf X.K cl W β G D).nx } _ ⟨fun e' w σ' H2 G3 r2 g => ⟨G3, e', r2, (g0.trans e.gg).trans g, w⟩, fun o e' w σ' H2 G3 v X r2 g => w σ' H2 G3 v X r2 ((g0.trans e.gg).trans g), fun e' w σ' H2 G3 r2 g => w σ' H2 G3 r2 ((g0.trans e.gg).trans g), fun e' w σ' H2 G3 r2 g => ⟨G3, e', r2, (g0.trans e.gg).trans g, w⟩, fun n w => w⟩ z⟩
    | false => exact z σ H' G' (r0.ext e) (g0.trans e.gg)
end
end C
namespace C
open PySem PySem.Spec PyProof.Rows L2
/-! ### targets -/
abbrev GX := MV → Env → (Env → Prop) → Prop
abbrev GXs := List MV → Env → (Env → Prop) → Prop
section
variable (K : PySem.W.Frag) (cl : Nat → Addr)
/-- only slots of vs are stored -/
def Agr (vs : List Nat) (σ σ' : L2.St) : Prop := σ'.length = σ.length ∧ ∀ j, j ∉ vs → σ'[j]? = σ[j]?
def gOf (g : GX) (vs : List Nat) : TG := fun v σ H Q => ∃ β G env m, R K cl β σ H G env [] ∧ Rep K cl G m v ∧ g m env fun env' => ∀ σ', R K cl β σ' H G env' [] → Agr vs σ σ' → Q σ' H
def gsOf (g : GXs) (is : List Nat) : TGs := fun vs σ H Q => ∃ β G env ms, R K cl β σ H G env [] ∧ Reps K cl G ms vs ∧ g ms env fun env' => ∀ σ', R K cl β σ' H G env' [] → Agr is σ σ' → Q σ' H
end
structure MG (X : Cx) (cl : Nat → Addr) (E : Expr) (g : GX) (vs : List Nat) : Prop where
  mo : ∀ m env (Q Q' : Env → Prop), (∀ e, Q e → Q' e) → g m env Q → g m env Q'
  pg : PG X E (gOf X.K cl g vs)
structure MGs (X : Cx) (cl : Nat → Addr) (E : List Expr) (g : GXs) (vs : List Nat) : Prop where
  mo : ∀ m env (Q Q' : Env → Prop), (∀ e, Q e → Q' e) → g m env Q → g m env Q'
  pg : PGs X E (gsOf X.K cl g vs)
theorem PGmono {X : Cx} {e : Expr} {t t' : TG} (h : PG X e t) (k : ∀ v σ H Q, t' v σ H Q → t v σ H Q) : PG X e t' := ⟨fun pins s σ H v u Q I r q => h.run pins s σ H v u Q I r (k v σ H Q q)⟩
theorem PGsmono {X : Cx} {e : List Expr} {t t' : TGs} (h : PGs X e t) (k : ∀ v σ H Q, t' v σ H Q → t v σ H Q) : PGs X e t' := ⟨fun pins s σ H v u Q I r q => h.run pins s σ H v u Q I r (k v σ H Q q)⟩
section
variable {X : Cx} {cl : Nat → Addr} {W : WX} {a b c e : Expr} {es : List Expr} {fa fb fc : EX} {qa qb qc : QX} {ta tb : TX} {ga : AX} {na : NX} {xa : XX} {pos p : Pos} {x : Str} {st : Stmt} {sts sts2 : List Stmt} {s t : SX} {g : GX} {gs : GXs} {vs us : List Nat}
theorem Agr.refl {σ : L2.St} : Agr vs σ σ := ⟨rfl, fun _ _ => rfl⟩
theorem Agr.set {σ : L2.St} {i : Nat} {o : Option V} : Agr [i] σ (σ.set i o) := ⟨List.length_set, fun j hj => List.getElem?_set_ne (by simp at hj; omega)⟩
theorem Agr.trans {σ σ1 σ2 : L2.St} (a : Agr vs σ σ1) (b : Agr us σ1 σ2) : Agr (vs ++ us) σ σ2 := ⟨b.1.trans a.1, fun j hj => (b.2 j fun z => hj (List.mem_append_right _ z)).trans (a.2 j fun z => hj (List.mem_append_left _ z))⟩
def gNm (i : Nat) : GX := fun m env Q => match setE env i (.fro m) with
  | some e => Q e
  | none => False
theorem mg_name (i : Nat) (hN : X.N.Nodup) (hi : X.N[i]? = some x := by rfl) (hx : Loc X.env.scope x := by first | exact Or.inl rfl | exact Or.inr rfl) (hf : X.fn x = true ∨ X.env.scope.names.lookup x = some .local := by first | exact .inl rfl | exact .inr rfl | assumption) : MG X cl (.Name x pos) (gNm i) [i] := by
  refine ⟨fun m env Q Q' k q => ?_, PGmono (pg_name hN hi hx hf) fun v σ H Q ⟨β, G, env, m, r0, rv, q⟩ => ?_⟩
  · unfold gNm at q ⊢
    split at q
    · exact k _ q
    · exact q.elim
  · unfold gNm at q
    cases h : setE env i (.fro m) with
    | none => rw [h] at q; exact q.elim
    | some e =>
      rw [h] at q
      obtain ⟨h1, rfl⟩ := setE_out h
      exact q _ (r0.setv h1 (by unfold RepO; exact ⟨rfl, rv⟩)) Agr.set
def gsNil : GXs := fun ms env Q => match ms with
  | [] => Q env
  | _ => False
def gsCons (g : GX) (gs : GXs) : GXs := fun ms env Q => match ms with
  | m :: ms => g m env fun e => gs ms e Q
  | [] => False
theorem mgs_nil : MGs X cl [] gsNil [] := by
  refine ⟨fun ms env Q Q' k q => ?_, PGsmono pgs_nil fun v σ H Q ⟨β, G, env, ms, r0, rv, q⟩ => ?_⟩
  · cases ms with
    | nil => exact k _ q
    | cons => exact q.elim
  · cases ms with
    | nil => unfold Reps at rv; exact ⟨rv, q σ r0 Agr.refl⟩
    | cons => exact q.elim
theorem mgs_cons (h1 : MG X cl e g vs) (h2 : MGs X cl es gs us) (hs : (assignEach (e :: es) X.env).map (·.2) = assign e X.env :: (assignEach es X.env).map (·.2) := by rfl) : MGs X cl (e :: es) (gsCons g gs) (vs ++ us) := by
  refine ⟨fun ms env Q Q' k q => ?_, PGsmono (pgs_cons h1.pg h2.pg hs) fun v σ H Q ⟨β, G, env, ms, r0, rv, q⟩ => ?_⟩
  · cases ms with
    | nil => exact q.elim
    | cons m ms => exact h1.mo _ _ _ _ (fun e z => h2.mo _ _ _ _ k z) q
  · cases ms with
    | nil => exact q.elim
    | cons m ms =>
      unfold Reps at rv
      obtain ⟨v, ws, rfl, y1, y2⟩ := rv
      exact ⟨v, ws, rfl, β, G, env, m, r0, y1, h1.mo _ _ _ _ (fun e z σ' r' ag => ⟨β, G, e, ms, r', y2, h2.mo _ _ _ _ (fun e2 w σ2 r2 ag2 => w σ2 r2 (ag.trans ag2)) z⟩) q⟩
def gTupX (gs : GXs) : GX := fun m env Q => match m with
  | .tup ms => gs ms env Q
  | _ => False
/-- the number of targets is that of the items -/
def gLen (n : Nat) (gs : GXs) : GXs := fun ms env Q => Nat.beq ms.length n = true ∧ gs ms env Q
theorem mg_tup {k n : Nat} (hc : X.calm = true) (h : MGs X cl es gs vs) (hn : (assignEach es X.env).length = n := by rfl) (hst : (assignEach es X.env).findIdx? (·.1) = none := by rfl) : MG X cl (.Tuple es k pos) (gTupX (gLen n gs)) vs := by
  refine ⟨fun m env Q Q' k q => ?_, PGmono (pg_tup hc h.pg hn hst) fun v σ H Q ⟨β, G, env, m, r0, rv, q⟩ => ?_⟩
  · cases m with
    | tup ms => exact ⟨q.1, h.mo _ _ _ _ k q.2⟩
    | _ => exact q.elim
  · cases m with
    | tup ms =>
      unfold Rep at rv
      obtain ⟨a, vs, rfl, y1, y2⟩ := rv
      exact ⟨a, vs, rfl, sqT_same r0.gh y1, by rw [Reps.len _ _ y2]; exact Nat.eq_of_beq_eq_true q.1, β, G, env, ms, r0, y2, q.2⟩
    | _ => exact q.elim
def asg (g : GX) (xa : XX) : SX := fun env k => xa env (fun o env2 => asFro o fun m => g m env2 k.nx) k.ex
theorem ms_asg {tg : Expr} (h : MX X cl W e xa) (hg : MG X cl tg g vs) (hs : swapsWithSole [tg] e pos.line X.env = pure false := by rfl) (hw : swappedStores [tg] e X.env = pure none := by rfl) (h1 : (assignEach [tg] X.env).map (·.2) = [assign tg X.env] := by rfl) : MS X cl W (.Assign [tg] e pos) (asg g xa) := by
  refine ⟨fun env k k' l q => h.mo _ _ _ _ _ (fun o e z => asFro_mo (fun m z => hg.mo _ _ _ _ l.nx z) z) l.ex q, PSmono (ps_asg h.pe hg.pg hs hw h1) fun D σ H ⟨β, G, env, r0, q⟩ => ⟨β, G, env, r0, h.mo _ _ _ _ _ (fun o e z v H' G' X' r' gg ro => ?_) (fun _ z => z) q⟩⟩
  cases o with
  | fro m =>
    unfold RepO at ro
    exact ⟨β, G', e, m, r'.drop, ro.2, hg.mo _ _ _ _ (fun e2 z σ' r2 _ => z σ' H' G' r2 gg) z⟩
  | _ => exact z.elim
/-- a, b = x, y -/
def par (i j : Nat) (ga : AX) : SX := fun env k => ga env fun as => match as with
  | [.v m, .v n] => match setE env i (.fro m) with
    | some e => match setE e j (.fro n) with
      | some e2 => k.nx e2
      | none => False
    | none => False
  | _ => False
theorem ms_par (i j : Nat) {y : Str} {px py pt : Pos} {kt k2 pt2} (hc : X.calm = true) (hN : X.N.Nodup) (ha : MA X cl [a, b] ga) (hw : swappedStores [.Tuple [.Name x px, .Name y py] kt pt] (.Tuple [a, b] k2 pt2) X.env = pure (some [x, y])) (hi : X.N[i]? = some x := by rfl) (hj : X.N[j]? = some y := by rfl) (hij : i ≠ j := by decide)
    (hx : X.env.scope.names.lookup x = some .local := by rfl) (hy : X.env.scope.names.lookup y = some .local := by rfl)
    (hs : swapsWithSole [.Tuple [.Name x px, .Name y py] kt pt] (.Tuple [a, b] k2 pt2) pos.line X.env = pure false := by rfl) : MS X cl W (.Assign [.Tuple [.Name x px, .Name y py] kt pt] (.Tuple [a, b] k2 pt2) pos) (par i j ga) := by
  refine ⟨fun env k k' l q => ha.mo _ _ _ (fun as z => ?_) q, PSmono (ps_par hc hN hi hj hij hx hy ha.pa hw hs) fun D σ H ⟨β, G, env, r0, q⟩ => ⟨β, G, env, r0, ha.mo _ _ _ (fun as z vs H' G' e rs => ?_) q⟩⟩
  · split at z
    · split at z
      · split at z
        · exact l.nx _ z
        · exact z.elim
      · exact z.elim
    · exact z.elim
  · split at z
    · rename_i m n
      unfold ArReps at rs
      obtain ⟨v, ws, rfl, y1, y2⟩ := rs
      unfold ArReps at y2
      obtain ⟨w, ws, rfl, y3, y4⟩ := y2
      unfold ArReps at y4
      subst y4
      have y1' : Rep X.K cl G' m v := y1
      have y3' : Rep X.K cl G' n w := y3
      refine ⟨v, w, rfl, ?_⟩
      cases h : setE env i (.fro m) with
      | none => rw [h] at z; exact z.elim
      | some e1 =>
        rw [h] at z
        cases h2 : setE e1 j (.fro n) with
        | none => simp only [h2] at z
        | some e2 =>
          simp only [h2] at z
          obtain ⟨t1, rfl⟩ := setE_out h
          obtain ⟨t2, rfl⟩ := setE_out h2
          exact z _ H' G' (((r0.ext e).setv t1 (by unfold RepO; exact ⟨rfl, y1'⟩)).setv t2 (by unfold RepO; exact ⟨rfl, y3'⟩)) e.gg
    · exact z.elim

/-! ### what is walked -/
def ItOk (K : PySem.W.Frag) (cl : Nat → Addr) (J : It) (ms : List MV) (G KH : Hp) : Prop := ∃ Y, Walk J ms.length (fun H => Same KH H) Y ∧
  ∀ i H G1 x H', i < ms.length → Same KH H → Same G G1 → Same G1 H → Y i H x H' → ∃ G2 m, Ext H G1 H' G2 ∧ ms[i]? = some m ∧ Rep K cl G2 m x
abbrev LX := Env → (List MV → Prop) → Prop
/-- by value: what is walked stands frozen -/
structure MI (X : Cx) (cl : Nat → Addr) (tg E : Expr) (f : LX) : Prop where
  mo : ∀ env (Q Q' : List MV → Prop), (∀ m, Q m → Q' m) → f env Q → f env Q'
  pi : PI X tg E fun σ H Q => ∃ β G env, R X.K cl β σ H G env [] ∧ f env fun ms => ∀ J H' G' KH, Ext H G H' G' → Same KH G' → ItOk X.K cl J ms G' KH → Q J H'
/-- for a comprehension: what is walked stands -/
structure MJ (X : Cx) (cl : Nat → Addr) (tg E : Expr) (f : LX) : Prop where
  mo : ∀ env (Q Q' : List MV → Prop), (∀ m, Q m → Q' m) → f env Q → f env Q'
  pi : PI X tg E fun σ H Q => ∃ β G env, R X.K cl β σ H G env [] ∧ f env fun ms => ∀ J H' G' KH, Ext H G H' G' → Same KH H' → ItOk X.K cl J ms G' KH → Q J H'
theorem PImono {X : Cx} {tg e : Expr} {t t' : TI} (h : PI X tg e t) (k : ∀ σ H Q, t' σ H Q → t σ H Q) : PI X tg e t' := ⟨fun pins s σ H Q I q => h.run pins s σ H Q I (k σ H Q q)⟩
theorem mj_i {tg : Expr} {f : LX} (h : MI X cl tg a f) : MJ X cl tg a f :=
  ⟨h.mo, PImono h.pi fun σ H Q ⟨β, G, env, r0, q⟩ => ⟨β, G, env, r0, h.mo _ _ _ (fun ms z J H' G' KH e s i => z J H' G' KH e (s.trans e.gh) i) q⟩⟩
theorem it_list {K : PySem.W.Frag} {G KH : Hp} {p : Addr} {ms : List MV} {vs : List V} (h : KH p = some (.lst vs)) (r : Reps K cl G ms vs) : ItOk K cl (Itl K p) ms G KH := by
  have l := Reps.len _ _ r
  refine ⟨YAt vs, ?_, fun i H G1 x H' hi hk hg hh y => ?_⟩
  · have w := walk_list (K := K) (a := p) (xs := vs)
    rw [l] at w
    exact w.mono (fun H k => SqL.of (k _ _ h)) fun i H x H' _ _ y => y
  · obtain ⟨rfl, y⟩ := y
    obtain ⟨m, hm⟩ : ∃ m, ms[i]? = some m := ⟨ms[i], by simp [hi]⟩
    obtain ⟨v, h1, h2⟩ := Reps.get _ _ i m r hm
    rw [h1] at y; cases y
    exact ⟨G1, m, Ext.refl hh, hm, Rep.same hg _ _ h2⟩
/-- a list's value -/
def lV (fa : EX) : LX := fun env Q => fa env fun m => match m with
  | .lst ms => Q ms
  | _ => False
theorem lV_mo {m : MV} {Q Q' : List MV → Prop} (k : ∀ ms, Q ms → Q' ms) : (match m with | .lst ms => Q ms | _ => False) → (match m with | .lst ms => Q' ms | _ => False) := by
  cases m <;> first | exact k _ | exact fun z => z
theorem mi_list {tg : Expr} (h : ME X cl a fa) : MI X cl tg a (lV fa) := by
  refine ⟨fun env Q Q' k q => h.mo _ _ _ (fun m z => lV_mo k z) q, PImono (pi_list h.pe) fun σ H Q ⟨β, G, env, r0, q⟩ => ⟨β, G, env, r0, h.mo _ _ _ (fun m z v H' G' e rv => ?_) q⟩⟩
  cases m with
  | lst ms =>
    unfold Rep at rv
    obtain ⟨p, vs, rfl, y1, y2⟩ := rv
    exact ⟨p, rfl, ⟨vs, SqL.of (e.gh _ _ y1)⟩, z _ H' G' G' e (Same.refl _) (it_list y1 y2)⟩
  | _ => exact z.elim
/-- any list that is read, for a comprehension -/
def lQ (qa : QX) : LX := fun env Q => qa env fun o => asL o Q
theorem mj_list {tg : Expr} (h : MQ X cl a qa) : MJ X cl tg a (lQ qa) := by
  refine ⟨fun env Q Q' k q => h.mo _ _ _ (fun m z => asL_mo k z) q, PImono (pi_list h.pe) fun σ H Q ⟨β, G, env, r0, q⟩ => ⟨β, G, env, r0, h.mo _ _ _ (fun o z v H' G' e rv => ?_) q⟩⟩
  obtain ⟨ms, p, vs, rfl, y1, y2, z⟩ := asL_rep e.gh z rv
  exact ⟨p, rfl, ⟨vs, SqL.of y1⟩, z _ H' G' H' e (Same.refl _) (it_list y1 y2)⟩
/-- a tuple's value -/
def lT (fa : EX) : LX := fun env Q => fa env fun m => match m with
  | .tup ms => Q ms
  | _ => False
theorem it_tup {K : PySem.W.Frag} {G KH : Hp} {p : Addr} {ms : List MV} {vs : List V} (h : SqT K KH p vs) (r : Reps K cl G ms vs) : ItOk K cl (Itt K p) ms G KH := by
  have l := Reps.len _ _ r
  refine ⟨YAt vs, ?_, fun i H G1 x H' hi hk hg hh y => ?_⟩
  · have w := walk_tup (K := K) (a := p) (xs := vs)
    rw [l] at w
    exact w.mono (fun H k => sqT_same k h) fun i H x H' _ _ y => y
  · obtain ⟨rfl, y⟩ := y
    obtain ⟨m, hm⟩ : ∃ m, ms[i]? = some m := ⟨ms[i], by simp [hi]⟩
    obtain ⟨v, h1, h2⟩ := Reps.get _ _ i m r hm
    rw [h1] at y; cases y
    exact ⟨G1, m, Ext.refl hh, hm, Rep.same hg _ _ h2⟩
theorem mi_tup {tg : Expr} (h : ME X cl a fa) : MI X cl tg a (lT fa) := by
  refine ⟨fun env Q Q' k q => h.mo _ _ _ (fun m z => ?_) q, PImono (pi_tup h.pe) fun σ H Q ⟨β, G, env, r0, q⟩ => ⟨β, G, env, r0, h.mo _ _ _ (fun m z v H' G' e rv => ?_) q⟩⟩
  · cases m <;> first | exact k _ z | exact z
  · cases m with
    | tup ms =>
      unfold Rep at rv
      obtain ⟨p, vs, rfl, y1, y2⟩ := rv
      exact ⟨p, rfl, ⟨vs, sqT_same e.gh y1⟩, z _ H' G' G' e (Same.refl _) (it_tup y1 y2)⟩
    | _ => exact z.elim
/-! range -/
@[irreducible] def rgM (lo : Int) (n : Nat) : List MV := (List.range n).map fun i => .int (lo + (i : Nat))
theorem it_range {K : PySem.W.Frag} {G KH : Hp} {lo : Int} {n : Nat} : ItOk K cl (Itr lo n) (rgM lo n) G KH := by
  have l : (rgM lo n).length = n := by unfold rgM; simp
  refine ⟨YFn fun i => .int (lo + (i : Nat)), ?_, fun i H G1 x H' hi hk hg hh y => ?_⟩
  · rw [l]
    exact (walk_range (lo := lo) (n := n)).mono (fun _ _ => trivial) fun i H x H' _ _ y => y
  · obtain ⟨rfl, y⟩ := y
    subst y
    rw [l] at hi
    exact ⟨G1, .int (lo + (i : Nat)), Ext.refl hh, by unfold rgM; simp [hi], rep_int⟩
def small (i : Int) : Prop := -(2 ^ 62) ≤ i ∧ i < 2 ^ 62
def lR1 (qa : QX) : LX := fun env Q => qa env fun m => asFro m fun m => asInt m fun j => small j ∧ Q (rgM 0 j.toNat)
def lR2 (qa qb : QX) : LX := fun env Q => qa env fun m => qb env fun n => asFro m fun m => asFro n fun n => asInt m fun i => asInt n fun j => (small i ∧ small j) ∧ Q (rgM i (j - i).toNat)
theorem mi_range1 {tg : Expr} (hg : Gl X "range") (hm : X.mg "range" = none) (ha : MQ X cl a qa) (hs : starEach [a] X.env = (false, eval a X.env) :: starEach [] X.env := by rfl) (hs2 : starEach [a] X.env = [(false, eval a X.env)] := by rfl) : MI X cl tg (.Call (.Name "range" p) [a] [] pos) (lR1 qa) := by
  refine ⟨fun env Q Q' k q => ha.mo _ _ _ (fun m z => asFro_mo (fun _ z => asInt_mo (fun _ z => ⟨z.1, k _ z.2⟩) z) z) q, PImono (pi_range1 hg hm (pa_cons ha.pe pa_nil hs) hs2) fun σ H Q ⟨β, G, env, r0, q⟩ => ⟨β, G, env, r0, ha.mo _ _ _ (fun m z v H' G' e rv => ?_) q⟩⟩
  cases m with
  | fro m =>
    unfold RepB at rv
    obtain ⟨j, rfl, rfl, z⟩ := asInt_rep (show asInt m _ from z) rv
    exact ⟨j, rfl, z.1.1, z.1.2, z.2 _ H' G' G' e (Same.refl _) it_range⟩
  | _ => exact z.elim
theorem mi_range2 {tg : Expr} (hg : Gl X "range") (hm : X.mg "range" = none) (ha : MQ X cl a qa) (hb : MQ X cl b qb) (hs : starEach [a, b] X.env = (false, eval a X.env) :: starEach [b] X.env := by rfl) (hsb : starEach [b] X.env = (false, eval b X.env) :: starEach [] X.env := by rfl)
    (hs2 : starEach [a, b] X.env = [(false, eval a X.env), (false, eval b X.env)] := by rfl) (hs3 : starEach [b] X.env = [(false, eval b X.env)] := by rfl) : MI X cl tg (.Call (.Name "range" p) [a, b] [] pos) (lR2 qa qb) := by
  refine ⟨fun env Q Q' k q => ha.mo _ _ _ (fun m z => hb.mo _ _ _ (fun n z => asFro_mo (fun _ z => asFro_mo (fun _ z => asInt_mo (fun _ z => asInt_mo (fun _ z => ⟨z.1, k _ z.2⟩) z) z) z) z) z) q, PImono (pi_range2 hg hm (pa_cons ha.pe (pa_cons hb.pe pa_nil hsb) hs) hs2 hs3) fun σ H Q ⟨β, G, env, r0, q⟩ => ?_⟩
  refine ⟨β, G, env, r0, ha.mo _ _ _ (fun m z v H' G' e rv => ?_) q⟩
  refine ⟨β, G', env, r0.ext e, hb.mo _ _ _ (fun n z w H2 G2 e2 rw => ?_) z⟩
  have rv' := Same.repB rv e2
  cases m with
  | fro m =>
    cases n with
    | fro n =>
      unfold RepB at rv' rw
      obtain ⟨i, rfl, rfl, z⟩ := asInt_rep (show asInt m _ from z) rv'
      obtain ⟨j, rfl, rfl, z⟩ := asInt_rep z rw
      exact ⟨i, j, rfl, ⟨z.1.1.1, z.1.1.2, z.1.2.1, z.1.2.2⟩, z.2 _ H2 G2 G2 (e.trans e2) (Same.refl _) it_range⟩
    | _ => exact (asFro_mo (Q' := fun _ => False) (fun _ z => z) z).elim
  | _ => exact z.elim
/-! enumerate(list) -/
def enM (ms : List MV) : List MV := ms.mapIdx fun i m => .tup [.int (i : Nat), m]
theorem it_enum {K : PySem.W.Frag} {G KH : Hp} {p : Addr} {ms : List MV} {vs : List V} (h : KH p = some (.lst vs)) (r : Reps K cl G ms vs) : ItOk K cl (Ite K p) (enM ms) G KH := by
  have l := Reps.len _ _ r
  have le : (enM ms).length = ms.length := by unfold enM; simp
  refine ⟨fun i H v H' => ∃ T x, v = .ref T ∧ H T = none ∧ H' = upd H T (.tup [.int (i : Nat), x]) ∧ vs[i]? = some x, ?_, fun i H G1 x H' hi hk hg hh y => ?_⟩
  · rw [le, ← l]
    refine ⟨fun i H hi k => ⟨vs, vs[i], SqL.of (k _ _ h), by simp [hi]⟩, fun H k => ⟨vs, SqL.of (k _ _ h), Nat.le_refl _⟩, fun i H x H' hi k y => ?_⟩
    obtain ⟨T, x', y1, y2, y3, y4⟩ := y
    exact ⟨T, x', y1, y2, y3, y4 vs (SqL.of (k _ _ h))⟩
  · obtain ⟨T, x', rfl, y2, rfl, y4⟩ := y
    rw [le] at hi
    obtain ⟨m, hm⟩ : ∃ m, ms[i]? = some m := ⟨ms[i], by simp [hi]⟩
    obtain ⟨v, h1, h2⟩ := Reps.get _ _ i m r hm
    rw [h1] at y4; cases y4
    refine ⟨_, .tup [.int (i : Nat), m], Ext.new hh y2, by unfold enM; simp [List.getElem?_mapIdx, hm], new_tup hh y2 (Reps.cons rep_int (Reps.one (Rep.same hg _ _ h2)))⟩
def lEn (fa : EX) : LX := fun env Q => fa env fun m => match m with
  | .lst ms => Q (enM ms)
  | _ => False
theorem mi_enum {elts : List Expr} {kk : Nat} {tpos : Pos} (hg : Gl X "enumerate") (hm : X.mg "enumerate" = none) (ha : ME X cl a fa) (hs : starEach [a] X.env = (false, eval a X.env) :: starEach [] X.env := by rfl) (hs2 : starEach [a] X.env = [(false, eval a X.env)] := by rfl) : MI X cl (.Tuple elts kk tpos) (.Call (.Name "enumerate" p) [a] [] pos) (lEn fa) := by
  refine ⟨fun env Q Q' k q => ha.mo _ _ _ (fun m z => ?_) q, PImono (pi_enum hg hm (pa_cons ha.pe pa_nil hs) hs2) fun σ H Q ⟨β, G, env, r0, q⟩ => ⟨β, G, env, r0, ha.mo _ _ _ (fun m z v H' G' e rv => ?_) q⟩⟩
  · cases m <;> first | exact k _ z | exact z
  · cases m with
    | lst ms =>
      unfold Rep at rv
      obtain ⟨p, vs, rfl, y1, y2⟩ := rv
      exact ⟨p, vs, rfl, SqL.of (e.gh _ _ y1), z _ H' G' G' e (Same.refl _) (it_enum y1 y2)⟩
    | _ => exact z.elim
def lEnQ (qa : QX) : LX := fun env Q => qa env fun o => asL o fun ms => Q (enM ms)
theorem mj_enum {elts : List Expr} {kk : Nat} {tpos : Pos} (hg : Gl X "enumerate") (hm : X.mg "enumerate" = none) (ha : MQ X cl a qa) (hs : starEach [a] X.env = (false, eval a X.env) :: starEach [] X.env := by rfl) (hs2 : starEach [a] X.env = [(false, eval a X.env)] := by rfl) : MJ X cl (.Tuple elts kk tpos) (.Call (.Name "enumerate" p) [a] [] pos) (lEnQ qa) := by
  refine ⟨fun env Q Q' k q => ha.mo _ _ _ (fun m z => asL_mo (fun _ z => k _ z) z) q, PImono (pi_enum hg hm (pa_cons ha.pe pa_nil hs) hs2) fun σ H Q ⟨β, G, env, r0, q⟩ => ⟨β, G, env, r0, ha.mo _ _ _ (fun o z v H' G' e rv => ?_) q⟩⟩
  obtain ⟨ms, p, vs, rfl, y1, y2, z⟩ := asL_rep e.gh z rv
  exact ⟨p, vs, rfl, SqL.of y1, z _ H' G' H' e (Same.refl _) (it_enum y1 y2)⟩
/-! ### for -/
def forN (g : GX) (s : SX) : List MV → SX
  | [] => fun env k => k.nx env
  | m :: ms => fun env k => g m env fun e => s e { k with nx := fun e => forN g s ms e k, ct := fun e => forN g s ms e k, bk := k.nx }
def forS (f : LX) (g : GX) (s : SX) : SX := fun env k => f env fun ms => forN g s ms env k
theorem forN_mo (hg : ∀ m env (Q Q' : Env → Prop), (∀ e, Q e → Q' e) → g m env Q → g m env Q') (hs : ∀ env k k', KLe k k' → s env k → s env k') : ∀ ms env k k', KLe k k' → forN g s ms env k → forN g s ms env k'
  | [], env, k, k', l, q => l.nx _ q
  | m :: ms, env, k, k', l, q => hg _ _ _ _ (fun e z => hs e { k with nx := fun e => forN g s ms e k, ct := fun e => forN g s ms e k, bk := k.nx } _ ⟨fun e w => forN_mo hg hs ms e k k' l w, l.rt, l.nx, fun e w => forN_mo hg hs ms e k k' l w, l.ex⟩ z) q
/-- the turns of a for over what stands -/
theorem for_turns {tg : Expr} (hg : MG X cl tg g vs) (hb : MSs X cl W sts s) {J : It} {ms : List MV} {G0 KH H1 : Hp} {D : Ends} {σ : L2.St} {β : Bs} {k : KK} {env : Env} (it : ItOk X.K cl J ms G0 KH) (G1 : Hp) (r0 : R X.K cl β σ H1 G1 env []) (g01 : Same G0 G1)
    (keep : ∀ σ H G env, R X.K cl β σ H G env [] → Same G0 G → Same KH H) (hk : KLe k (kOf X.K cl W β G1 D)) (q : forN g s ms env k) :
    ∃ W' : Nat → Nat → L2.St → Hp → Prop, (∃ m, W' 0 m σ H1) ∧ ∀ i m σ H, W' i m σ H → (J.stop i H ∧ D.nx σ H) ∨ (J.go i H ∧ ∃ N : L2.St → Hp → Prop, (∀ σ' H', N σ' H' → ∃ m', m' < m ∧ W' (i + 1) m' σ' H') ∧ ∀ x H', J.yld i H x H' → gOf X.K cl g vs x σ H' fun σ2 H2 => sOf X.K cl W s { D with nx := N, ct := N, bk := D.nx } σ2 H2) := by
  obtain ⟨Y, w, hy⟩ := it
  refine for_it w (fun i σ H => ∃ G env, R X.K cl β σ H G env [] ∧ Same G1 G ∧ forN g s (ms.drop i) env k) ⟨G1, env, r0, Same.refl _, q⟩ (fun i σ H _ ⟨G, env, r, gg, _⟩ => keep σ H G env r (g01.trans gg)) (fun i x σ H H' hi ⟨G, env, r, gg, q⟩ y => ?_) fun σ H ⟨G, env, r, gg, q⟩ => ?_
  · obtain ⟨G2, m, e, hm, rm⟩ := hy i H G x H' hi (keep σ H G env r (g01.trans gg)) (g01.trans gg) r.gh y
    have hd : ms.drop i = m :: ms.drop (i + 1) := by
      rw [List.drop_eq_getElem_cons hi]
      congr 1
      rw [List.getElem?_eq_getElem hi] at hm
      exact Option.some.inj hm
    rw [hd] at q
    refine ⟨β, G2, env, m, r.ext e, rm, hg.mo _ _ _ _ (fun e2 z σ' r' _ => ⟨β, G2, e2, r', ?_⟩) q⟩
    have g2 : Same G1 G2 := gg.trans e.gg
    refine hb.mo e2 { k with nx := fun e => forN g s (ms.drop (i + 1)) e k, ct := fun e => forN g s (ms.drop (i + 1)) e k, bk := k.nx } _ ⟨fun e3 z σ3 H3 G3 r3 g3 => ⟨G3, e3, r3, g2.trans g3, z⟩, fun o e3 z σ3 H3 G3 v X3 r3 g3 => hk.rt _ _ z σ3 H3 G3 v X3 r3 (g2.trans g3), fun e3 z σ3 H3 G3 r3 g3 => hk.nx _ z σ3 H3 G3 r3 (g2.trans g3), fun e3 z σ3 H3 G3 r3 g3 => ⟨G3, e3, r3, g2.trans g3, z⟩, fun n z => hk.ex n z⟩ z
  · rw [List.drop_length] at q
    exact hk.nx _ q σ H G r gg
theorem ms_for {tg : Expr} {f : LX} (hp : PassesOwn (model X.prog X.w) X.A X.env X.xe) (hc : X.calm = true) (hi : MI X cl tg a f) (hg : MG X cl tg g vs) (hb : MSs X cl W sts s) (hs : ∀ x, foldedSetIterable a X.env x = pure x := by intro _; rfl) : MS X cl W (.For tg a sts [] pos) (forS f g s) := by
  refine ⟨fun env k k' l q => hi.mo _ _ _ (fun ms z => forN_mo hg.mo hb.mo ms _ _ _ l z) q, PSmono (ps_for hp hc hi.pi hg.pg hb.ps hs) fun D σ H ⟨β, G, env, r0, q⟩ => ?_⟩
  refine ⟨β, G, env, r0, hi.mo _ _ _ (fun ms z J H' G' KH e hk it => ?_) q⟩
  exact for_turns hg hb it G' (r0.ext e) (Same.refl _) (fun σ H G env r gg => (hk.trans gg).trans r.gh) (kOf_le e.gg) z
end
end C
namespace C
open PySem PySem.Spec PyProof.Rows L2
section
variable {X : Cx} {cl : Nat → Addr} {a b c e : Expr} {es : List Expr} {fa fb fc : EX} {qa qb qc : QX} {pos p : Pos} {x : Str}
/-! ### built-in functions, by values -/
def onInt (f : Int → (MV → Prop) → Prop) (o : OV) (Q : MV → Prop) : Prop := asFro o fun m => asInt m fun i => f i Q
theorem onInt_rep {K : PySem.W.Frag} {H G : Hp} {o : OV} {v : V} {f : Int → (MV → Prop) → Prop} {Q : MV → Prop} (q : onInt f o Q) (r : RepB K cl H G o v) : ∃ i, v = .int i ∧ f i Q := by
  unfold onInt at q
  cases o with
  | fro m =>
    unfold RepB at r
    obtain ⟨i, rfl, rfl, q⟩ := asInt_rep (show asInt m _ from q) r
    exact ⟨i, rfl, q⟩
  | _ => exact q.elim
theorem onInt_mo {f : Int → (MV → Prop) → Prop} (hf : ∀ i (Q Q' : MV → Prop), (∀ k, Q k → Q' k) → f i Q → f i Q') : ∀ o (Q Q' : MV → Prop), (∀ k, Q k → Q' k) → onInt f o Q → onInt f o Q' := fun o Q Q' k q => asFro_mo (fun _ z => asInt_mo (fun _ z => hf _ _ _ k z) z) q
def gAbs : OV → (MV → Prop) → Prop := onInt fun i Q => Q (.int (i.natAbs : Nat))
theorem gb_abs : GB X cl (.builtin "abs") gAbs := by
  refine ⟨onInt_mo fun i Q Q' k q => k _ q, _, call_abs, fun m x H G Q g r q => ?_⟩
  obtain ⟨i, rfl, q⟩ := onInt_rep q r
  refine ⟨i, rfl, ?_⟩
  have e : (if i < 0 then -i else i) = ((i.natAbs : Nat) : Int) := by split <;> omega
  rw [e]
  exact q _ H G (Ext.refl g) rep_int
/-- int(x): an int, a truth value, a text -/
def gInt (o : OV) (Q : MV → Prop) : Prop := match o with
  | .fro (.int i) => Q (.int i)
  | .fro (.bl b) => Q (.int (if b then 1 else 0))
  | .fro (.str x) => x.length ≤ 640 ∧ match PySem.intText? x with
    | some n => Q (.int n)
    | none => False
  | _ => False
theorem gb_int : GB X cl (.type "int") gInt := by
  refine ⟨fun o Q Q' k q => ?_, _, call_int1.or call_int_str, fun m x H G Q g r q => ?_⟩
  · unfold gInt at q ⊢
    split at q
    · exact k _ q
    · exact k _ q
    · refine ⟨q.1, ?_⟩
      have q2 := q.2
      split at q2
      · exact k _ q2
      · exact q2
    · exact q
  · unfold gInt at q
    split at q
    · unfold RepB Rep at r; subst r
      exact .inl (.inl ⟨_, rfl, q _ H G (Ext.refl g) rep_int⟩)
    · unfold RepB Rep at r; subst r
      exact .inl (.inr ⟨_, rfl, q _ H G (Ext.refl g) rep_int⟩)
    · unfold RepB Rep at r; subst r
      have q2 := q.2
      split at q2
      · rename_i n hn
        exact .inr ⟨_, n, rfl, hn, q.1, q2 _ H G (Ext.refl g) rep_int⟩
      · exact q2.elim
    · exact q.elim
def gLenV (o : OV) (Q : MV → Prop) : Prop := match o with
  | .fro (.str x) => x.length ≤ sizeLine ∧ Q (.int x.length)
  | .fro (.tup ms) => Q (.int ms.length)
  | .fro (.lst ms) => Q (.int ms.length)
  | .lst ms => Q (.int ms.length)
  | .scr ms => Q (.int ms.length)
  | _ => False
theorem gb_len : GB X cl (.builtin "len") gLenV := by
  refine ⟨fun o Q Q' k q => ?_, _, call_len, fun m x H G Q g r q => ?_⟩
  · unfold gLenV at q ⊢
    split at q <;> first | exact k _ q | exact ⟨q.1, k _ q.2⟩ | exact q
  · unfold gLenV at q
    split at q
    · unfold RepB Rep at r; subst r
      exact ⟨_, _, rfl, ⟨q.1, rfl⟩, q.2 _ H G (Ext.refl g) rep_int⟩
    · unfold RepB Rep at r; obtain ⟨p, vs, rfl, h2, h3⟩ := r
      exact ⟨_, _, rfl, .inr ⟨vs, sqT_same g h2, (Reps.len _ _ h3).symm⟩, q _ H G (Ext.refl g) rep_int⟩
    · unfold RepB Rep at r; obtain ⟨p, vs, rfl, h2, h3⟩ := r
      exact ⟨_, _, rfl, .inl ⟨vs, SqL.of (g _ _ h2), (Reps.len _ _ h3).symm⟩, q _ H G (Ext.refl g) rep_int⟩
    · unfold RepB at r; obtain ⟨p, vs, rfl, h2, h3⟩ := r
      exact ⟨_, _, rfl, .inl ⟨vs, SqL.of h2, (Reps.len _ _ h3).symm⟩, q _ H G (Ext.refl g) rep_int⟩
    · unfold RepB at r; obtain ⟨p, vs, rfl, h2, h3⟩ := r
      exact ⟨_, _, rfl, .inl ⟨vs, h2, (Reps.len _ _ h3).symm⟩, q _ H G (Ext.refl g) rep_int⟩
    · exact q.elim
/-- list(x) -/
def gList (o : OV) (Q : MV → Prop) : Prop := match o with
  | .fro (.tup ms) => Q (.lst ms)
  | o => asL o fun ms => Q (.lst ms)
theorem gb_list : GB X cl (.type "list") gList := by
  refine ⟨fun o Q Q' k q => ?_, _, call_list_of, fun m x H G Q g r q => ?_⟩
  · unfold gList at q ⊢
    split at q
    · exact k _ q
    · exact asL_mo (fun _ z => k _ z) q
  · unfold gList at q
    split at q
    · unfold RepB Rep at r; obtain ⟨p, vs, rfl, h2, h3⟩ := r
      exact ⟨p, vs, rfl, .inr (sqT_same g h2), fun l hl => q _ _ _ (Ext.new g hl) (new_lst g hl h3)⟩
    · obtain ⟨ms, p, vs, rfl, h2, h3, q⟩ := asL_rep g q r
      exact ⟨p, vs, rfl, .inl (SqL.of h2), fun l hl => q _ _ _ (Ext.new g hl) (new_lst g hl h3)⟩
/-! lists of numbers, of truth values -/
def intsL : List MV → Option (List Int)
  | [] => some []
  | .int i :: ms => match intsL ms with
    | some is => some (i :: is)
    | none => none
  | _ :: _ => none
def boolsL : List MV → Option (List Bool)
  | [] => some []
  | .bl i :: ms => match boolsL ms with
    | some is => some (i :: is)
    | none => none
  | _ :: _ => none
theorem ints_map {α : Type} (f : α → Int) : ∀ l : List α, intsL (l.map fun a => .int (f a)) = some (l.map f)
  | [] => rfl
  | a :: l => by simp [intsL, ints_map f l]
theorem bools_map {α : Type} (f : α → Bool) : ∀ l : List α, boolsL (l.map fun a => .bl (f a)) = some (l.map f)
  | [] => rfl
  | a :: l => by simp [boolsL, bools_map f l]
theorem ints_rep {K : PySem.W.Frag} {G : Hp} : ∀ {ms : List MV} {is : List Int} {vs : List V}, intsL ms = some is → Reps K cl G ms vs → vs = is.map V.int
  | [], is, vs, e, r => by cases e; unfold Reps at r; exact r
  | .int i :: ms, is, vs, e, r => by
    unfold intsL at e
    cases q : intsL ms with
    | none => rw [q] at e; cases e
    | some is' =>
      rw [q] at e; cases e
      unfold Reps at r
      obtain ⟨v, ws, rfl, h1, h2⟩ := r
      unfold Rep at h1
      rw [h1, ints_rep q h2]
      rfl
  | .non :: _, _, _, e, _ | .bl _ :: _, _, _, e, _ | .str _ :: _, _, _, e, _ | .tup _ :: _, _, _, e, _ | .lst _ :: _, _, _, e, _ | .obj _ _ :: _, _, _, e, _ => by cases e
theorem bools_rep {K : PySem.W.Frag} {G : Hp} : ∀ {ms : List MV} {is : List Bool} {vs : List V}, boolsL ms = some is → Reps K cl G ms vs → vs = is.map V.bl
  | [], is, vs, e, r => by cases e; unfold Reps at r; exact r
  | .bl i :: ms, is, vs, e, r => by
    unfold boolsL at e
    cases q : boolsL ms with
    | none => rw [q] at e; cases e
    | some is' =>
      rw [q] at e; cases e
      unfold Reps at r
      obtain ⟨v, ws, rfl, h1, h2⟩ := r
      unfold Rep at h1
      rw [h1, bools_rep q h2]
      rfl
  | .non :: _, _, _, e, _ | .int _ :: _, _, _, e, _ | .str _ :: _, _, _, e, _ | .tup _ :: _, _, _, e, _ | .lst _ :: _, _, _, e, _ | .obj _ _ :: _, _, _, e, _ => by cases e
def onBls (f : List Bool → (MV → Prop) → Prop) (o : OV) (Q : MV → Prop) : Prop := asL o fun ms => match boolsL ms with
  | some bs => f bs Q
  | none => False
def onInts (f : List Int → (MV → Prop) → Prop) (o : OV) (Q : MV → Prop) : Prop := asL o fun ms => match intsL ms with
  | some bs => f bs Q
  | none => False
theorem onBls_mo {f : List Bool → (MV → Prop) → Prop} (hf : ∀ i (Q Q' : MV → Prop), (∀ k, Q k → Q' k) → f i Q → f i Q') : ∀ o (Q Q' : MV → Prop), (∀ k, Q k → Q' k) → onBls f o Q → onBls f o Q' := fun o Q Q' k q => asL_mo (fun ms z => by
  split at z
  · exact hf _ _ _ k z
  · exact z.elim) q
theorem onInts_mo {f : List Int → (MV → Prop) → Prop} (hf : ∀ i (Q Q' : MV → Prop), (∀ k, Q k → Q' k) → f i Q → f i Q') : ∀ o (Q Q' : MV → Prop), (∀ k, Q k → Q' k) → onInts f o Q → onInts f o Q' := fun o Q Q' k q => asL_mo (fun ms z => by
  split at z
  · exact hf _ _ _ k z
  · exact z.elim) q
theorem onBls_rep {K : PySem.W.Frag} {H G : Hp} {o : OV} {v : V} {f : List Bool → (MV → Prop) → Prop} {Q : MV → Prop} (g : Same G H) (q : onBls f o Q) (r : RepB K cl H G o v) : ∃ a bs, v = .ref a ∧ SqL K H a (bs.map V.bl) ∧ f bs Q := by
  obtain ⟨ms, p, vs, rfl, h2, h3, q⟩ := asL_rep g q r
  split at q
  · rename_i bs e
    rw [bools_rep e h3] at h2
    exact ⟨p, bs, rfl, SqL.of h2, q⟩
  · exact q.elim
theorem onInts_rep {K : PySem.W.Frag} {H G : Hp} {o : OV} {v : V} {f : List Int → (MV → Prop) → Prop} {Q : MV → Prop} (g : Same G H) (q : onInts f o Q) (r : RepB K cl H G o v) : ∃ a bs, v = .ref a ∧ SqL K H a (bs.map V.int) ∧ f bs Q := by
  obtain ⟨ms, p, vs, rfl, h2, h3, q⟩ := asL_rep g q r
  split at q
  · rename_i bs e
    rw [ints_rep e h3] at h2
    exact ⟨p, bs, rfl, SqL.of h2, q⟩
  · exact q.elim
def gAll := onBls fun bs Q => Q (.bl (bs.all id))
def gAny := onBls fun bs Q => Q (.bl (bs.any id))
def gSum := onInts fun bs Q => Q (.int bs.sum)
/-- the greatest, the least -/
def maxL : List Int → Int
  | [] => 0
  | i :: is => is.foldl max i
def minL : List Int → Int
  | [] => 0
  | i :: is => is.foldl min i
def gMax := onInts fun bs Q => bs ≠ [] ∧ Q (.int (maxL bs))
def gMin := onInts fun bs Q => bs ≠ [] ∧ Q (.int (minL bs))
theorem foldl_max (l : List Int) : ∀ i, (l.foldl max i ∈ i :: l) ∧ ∀ y ∈ i :: l, y ≤ l.foldl max i := by
  induction l with
  | nil => intro i; simp
  | cons x l ih =>
    intro i
    obtain ⟨h1, h2⟩ := ih (max i x)
    refine ⟨?_, fun y hy => ?_⟩
    · rcases List.mem_cons.mp h1 with e | e
      · rw [List.foldl_cons, e]
        by_cases h : i ≤ x
        · rw [Int.max_eq_right h]; simp
        · rw [Int.max_eq_left (by omega)]; simp
      · exact List.mem_cons_of_mem _ (List.mem_cons_of_mem _ e)
    · have h3 := h2 (max i x) List.mem_cons_self
      rw [List.foldl_cons]
      rcases List.mem_cons.mp hy with rfl | hy
      · omega
      · rcases List.mem_cons.mp hy with rfl | hy
        · omega
        · exact h2 y (List.mem_cons_of_mem _ hy)
theorem foldl_min (l : List Int) : ∀ i, (l.foldl min i ∈ i :: l) ∧ ∀ y ∈ i :: l, l.foldl min i ≤ y := by
  induction l with
  | nil => intro i; simp
  | cons x l ih =>
    intro i
    obtain ⟨h1, h2⟩ := ih (min i x)
    refine ⟨?_, fun y hy => ?_⟩
    · rcases List.mem_cons.mp h1 with e | e
      · rw [List.foldl_cons, e]
        by_cases h : i ≤ x
        · rw [Int.min_eq_left h]; simp
        · rw [Int.min_eq_right (by omega)]; simp
      · exact List.mem_cons_of_mem _ (List.mem_cons_of_mem _ e)
    · have h3 := h2 (min i x) List.mem_cons_self
      rw [List.foldl_cons]
      rcases List.mem_cons.mp hy with rfl | hy
      · omega
      · rcases List.mem_cons.mp hy with rfl | hy
        · omega
        · exact h2 y (List.mem_cons_of_mem _ hy)
theorem maxL_mem {l : List Int} (h : l ≠ []) : maxL l ∈ l := by
  cases l with
  | nil => exact absurd rfl h
  | cons i l => exact (foldl_max l i).1
theorem maxL_ge {l : List Int} {y : Int} (h : y ∈ l) : y ≤ maxL l := by
  cases l with
  | nil => cases h
  | cons i l => exact (foldl_max l i).2 y h
theorem minL_mem {l : List Int} (h : l ≠ []) : minL l ∈ l := by
  cases l with
  | nil => exact absurd rfl h
  | cons i l => exact (foldl_min l i).1
theorem minL_le {l : List Int} {y : Int} (h : y ∈ l) : minL l ≤ y := by
  cases l with
  | nil => cases h
  | cons i l => exact (foldl_min l i).2 y h
theorem gb_all (hc : X.calm = true) : GB X cl (.builtin "all") gAll := by
  refine ⟨onBls_mo fun i Q Q' k q => k _ q, _, cr_all hc, fun m x H G Q g r q => ?_⟩
  obtain ⟨p, bs, rfl, h, q⟩ := onBls_rep g q r
  exact ⟨p, bs, rfl, h, q _ H G (Ext.refl g) rep_bl⟩
theorem gb_any (hc : X.calm = true) : GB X cl (.builtin "any") gAny := by
  refine ⟨onBls_mo fun i Q Q' k q => k _ q, _, cr_any hc, fun m x H G Q g r q => ?_⟩
  obtain ⟨p, bs, rfl, h, q⟩ := onBls_rep g q r
  exact ⟨p, bs, rfl, h, q _ H G (Ext.refl g) rep_bl⟩
theorem gb_sum (hc : X.calm = true) : GB X cl (.builtin "sum") gSum := by
  refine ⟨onInts_mo fun i Q Q' k q => k _ q, _, cr_sum hc, fun m x H G Q g r q => ?_⟩
  obtain ⟨p, bs, rfl, h, q⟩ := onInts_rep g q r
  exact ⟨p, bs, rfl, h, q _ H G (Ext.refl g) rep_int⟩
theorem gb_max (hc : X.calm = true) : GB X cl (.builtin "max") gMax := by
  refine ⟨onInts_mo fun i Q Q' k q => ⟨q.1, k _ q.2⟩, _, cr_max hc, fun m x H G Q g r q => ?_⟩
  obtain ⟨p, bs, rfl, h, q⟩ := onInts_rep g q r
  refine ⟨p, bs, rfl, h, by cases bs with | nil => exact absurd rfl q.1 | cons => simp, fun m hm hy => ?_⟩
  have e : m = maxL bs := Int.le_antisymm (maxL_ge hm) (hy _ (maxL_mem q.1))
  subst e
  exact q.2 _ H G (Ext.refl g) rep_int
theorem gb_min (hc : X.calm = true) : GB X cl (.builtin "min") gMin := by
  refine ⟨onInts_mo fun i Q Q' k q => ⟨q.1, k _ q.2⟩, _, cr_min hc, fun m x H G Q g r q => ?_⟩
  obtain ⟨p, bs, rfl, h, q⟩ := onInts_rep g q r
  refine ⟨p, bs, rfl, h, by cases bs with | nil => exact absurd rfl q.1 | cons => simp, fun m hm hy => ?_⟩
  have e : m = minL bs := Int.le_antisymm (hy _ (minL_mem q.1)) (minL_le hm)
  subst e
  exact q.2 _ H G (Ext.refl g) rep_int
def gMax2 := gI0 fun i j => .int (max i j)
def gMin2 := gI0 fun i j => .int (min i j)
theorem gb_max2 (hc : X.calm = true) : GB2 X cl (.builtin "max") gMax2 := by
  refine ⟨gI0_mo, _, call_max2 hc, fun m n x y H G Q g rx ry q => ?_⟩
  obtain ⟨i, j, rfl, rfl, q⟩ := gI0_out rx ry q
  refine ⟨i, j, rfl, ?_⟩
  have e : (if j > i then j else i) = max i j := by split <;> omega
  rw [e]
  exact q _ H G (Ext.refl g) rep_int
theorem gb_min2 (hc : X.calm = true) : GB2 X cl (.builtin "min") gMin2 := by
  refine ⟨gI0_mo, _, call_min2 hc, fun m n x y H G Q g rx ry q => ?_⟩
  obtain ⟨i, j, rfl, rfl, q⟩ := gI0_out rx ry q
  refine ⟨i, j, rfl, ?_⟩
  have e : (if j < i then j else i) = min i j := by split <;> omega
  rw [e]
  exact q _ H G (Ext.refl g) rep_int
/-- str(n) -/
def gStr := onInt fun i Q => i.natAbs.log2 < 1920 ∧ Q (.str (toString i : Str))
theorem gb_str : GB X cl (.type "str") gStr := by
  refine ⟨onInt_mo fun i Q Q' k q => ⟨q.1, k _ q.2⟩, _, call_str_int, fun m x H G Q g r q => ?_⟩
  obtain ⟨i, rfl, q⟩ := onInt_rep q r
  exact ⟨i, rfl, q.1, q.2 _ H G (Ext.refl g) rep_str⟩
/-! isinstance(x, T), T built in -/
def tyN : OV → Option String
  | .fro .non => some "NoneType"
  | .fro (.bl _) => some "bool"
  | .fro (.int _) => some "int"
  | .fro (.str _) => some "str"
  | .fro (.tup _) => some "tuple"
  | .fro (.lst _) => some "list"
  | .lst _ => some "list"
  | _ => none
/-- 0 bool, 1 int, 2 tuple, 3 list -/
def isTy (k : Nat) : OV → Option Bool
  | .fro .non => some false
  | .fro (.bl _) => some (Nat.ble k 1)
  | .fro (.int _) => some (Nat.beq k 1)
  | .fro (.str _) => some false
  | .fro (.tup _) => some (Nat.beq k 2)
  | .fro (.lst _) => some (Nat.beq k 3)
  | .lst _ => some (Nat.beq k 3)
  | _ => none
def tyS (k : Nat) : String := match k with
  | 0 => "bool"
  | 1 => "int"
  | 2 => "tuple"
  | _ => "list"
theorem isTy_ok : ∀ k, k < 4 → ∀ (o : OV) (n : String) (b : Bool), tyN o = some n → isTy k o = some b → kitB n (tyS k) = some b := by
  intro k hk o n b h1 h2
  have hk' : k = 0 ∨ k = 1 ∨ k = 2 ∨ k = 3 := by omega
  rcases hk' with rfl | rfl | rfl | rfl
  all_goals
    cases o with
    | fro m => cases m <;> first | (cases h1; cases h2; decide +kernel) | cases h1
    | lst ms => cases h1; cases h2; decide +kernel
    | _ => cases h1
theorem tyN_rep {K : PySem.W.Frag} {H G : Hp} {o : OV} {v : V} {n : String} (g : Same G H) (e : tyN o = some n) (r : RepB K cl H G o v) : TyX K H v (.type n) := by
  have tup : ∀ (p : Addr) (vs : List V), SqT K H p vs → TyX K H (.ref p) (.type "tuple") := fun p vs h => by
    rcases h with (h | ⟨o, h⟩) | ⟨o, its, k, h1, h2, _⟩
    · exact .base (.tup h)
    · exact .fTuple h
    · exact .kTuple h1 h2
  cases o with
  | fro m =>
    cases m with
    | non => cases e; unfold RepB Rep at r; subst r; exact .base .non
    | bl b => cases e; unfold RepB Rep at r; subst r; exact .base (.bl b)
    | int b => cases e; unfold RepB Rep at r; subst r; exact .base (.int b)
    | str b => cases e; unfold RepB Rep at r; subst r; exact .base (.str b)
    | tup ms => cases e; unfold RepB Rep at r; obtain ⟨p, vs, rfl, h2, _⟩ := r; exact tup p vs (sqT_same g h2)
    | lst ms => cases e; unfold RepB Rep at r; obtain ⟨p, vs, rfl, h2, _⟩ := r; exact .base (.lst (g _ _ h2))
    | obj c ms => cases e
  | lst ms => cases e; unfold RepB at r; obtain ⟨p, vs, rfl, h2, _⟩ := r; exact .base (.lst h2)
  | _ => cases e
def eIsi (k : Nat) (qa : QX) : EX := fun env Q => qa env fun o => match isTy k o with
  | some b => Q (.bl b)
  | none => False
theorem isTy_tyN {k : Nat} {o : OV} {b : Bool} (h : isTy k o = some b) : ∃ n, tyN o = some n := by
  cases o with
  | fro m => cases m <;> first | exact ⟨_, rfl⟩ | cases h
  | lst ms => exact ⟨_, rfl⟩
  | _ => cases h
theorem m_isi (k : Nat) {pT : Pos} {tn : Str} (ha : MQ X cl a qa) (gl : Gl X "isinstance") (hm : X.mg "isinstance" = none) (glT : Gl X tn) (hmT : X.mg tn = none) (hvT : bootBuiltins tn = some (.type (tyS k)) := by decide +kernel) (hk : k < 4 := by decide) (hnT : tn ≠ "__name__" := by decide) (hdT : (tn == ("__debug__" : Str)) = false := by decide)
    (he : starEach [a, .Name tn pT] X.env = (false, eval a X.env) :: starEach [.Name tn pT] X.env := by rfl) (he2 : starEach [.Name tn pT] X.env = (false, eval (.Name tn pT) X.env) :: starEach [] X.env := by rfl) (hpl : (backTo pos (starEach [.Name tn pT] X.env)).any (·.1) = false := by rfl) : ME X cl (.Call (.Name "isinstance" p) [a, .Name tn pT] [] pos) (eIsi k qa) := by
  refine ⟨fun env Q Q' k q => ha.mo _ _ _ (fun m z => ?_) q, PEmono (pe_callB call_isi gl hm (by decide +kernel) (pa_cons ha.pe (pa_cons (pe_bltn (v := .ty (tyS k)) glT hmT hvT rfl hnT hdT) pa_nil he2) he) (by decide) (by decide) he hpl) fun σ H Q ⟨β, G, env, r0, q⟩ => ⟨β, G, env, r0, ha.mo _ _ _ (fun o z v H' G' e rv => ?_) q⟩⟩
  · split at z
    · exact k _ z
    · exact z.elim
  · split at z
    · rename_i b hb
      obtain ⟨n, hn⟩ := isTy_tyN hb
      exact ⟨v, .ty (tyS k), .type n, .type (tyS k), b, rfl, .ty _, tyN_rep e.gh hn rv, kit_ty (isTy_ok k hk o n b hn hb), z _ H' G' e rep_bl⟩
    · exact z.elim
end
/-! ### a def by its body -/
def fDef (nN : Nat) (n : Nat) (s : SX) : FX := fun ss Q E => s (ss ++ List.replicate (nN - n) .un) ⟨fun e => Q (.fro .non) e, Q, fun _ => False, fun _ => False, E⟩
theorem fDef_mo {nN n : Nat} {s : SX} (hs : ∀ env k k', KLe k k' → s env k → s env k') : FMono (fDef nN n s) := fun ss Q Q' E E' k ke q => hs _ ⟨fun e => Q (.fro .non) e, Q, fun _ => False, fun _ => False, E⟩ _ ⟨fun e z => k _ e z, k, fun _ z => z, fun _ z => z, ke⟩ q
theorem R.pad {K : PySem.W.Frag} {cl : Nat → Addr} {β : Bs} {σ : L2.St} {H G : Hp} {ss : Env} (r : R K cl β σ H G ss []) (k : Nat) : R K cl β (σ ++ List.replicate k none) H G (ss ++ List.replicate k .un) [] := by
  obtain ⟨fp, s1, s2, s3, _⟩ := r.sl
  have hl := r.len
  refine ⟨by simp [r.len], r.g0, r.gh, r.hk, r.gk, fun i => if i < ss.length then fp i else [], fun i s hs => ?_, fun i b hi hb => ?_, fun i j b hi hj h1 h2 => ?_, fun b hb => by cases hb⟩
  · dsimp only
    by_cases h : i < ss.length
    · rw [if_pos h]
      rw [List.getElem?_append_left h] at hs
      have e : (σ ++ List.replicate k none).getD i none = σ.getD i none := by rw [List.getD_eq_getElem?_getD, List.getD_eq_getElem?_getD, List.getElem?_append_left (by omega)]
      rw [e]
      exact s1 i s hs
    · rw [if_neg h]
      rw [List.getElem?_append_right (by omega)] at hs
      have : s = .un := by
        have := List.mem_of_getElem? hs
        exact List.eq_of_mem_replicate this
      subst this
      unfold SRep
      rfl
  · dsimp only at hb
    by_cases h : i < ss.length
    · rw [if_pos h] at hb; exact s2 i b h hb
    · rw [if_neg h] at hb; cases hb
  · dsimp only at h1 h2
    by_cases h : i < ss.length
    · by_cases h' : j < ss.length
      · rw [if_pos h] at h1; rw [if_pos h'] at h2; exact s3 i j b h h' h1 h2
      · rw [if_neg h'] at h2; cases h2
    · rw [if_neg h] at h1; cases h1
theorem fn_mk {P : Program} {w : World} {K : PySem.W.Frag} {mg : Str → Option Value} {base : Heap} {cl : Nat → Addr} {x qual : Str} {st : Stmt} {f : Addr} {fd : FuncData} {N ps : List Str} {k : Nat} {s : SX} (F : Fun K x qual st f fd) (S : FnScope N ps (defScope st))
    (body : ∀ (cdv : Value) (A : Around) (outer : List PySem.Env) (sh : Shared) (H : Hp) (E : XK), Room k (A.deeper (envOfC qual (defScope st) sh.heap.objs.size f cdv)) → MSs (cxOf CX0 P w K mg base N qual (defScope st) f cdv A outer sh H E).nox cl (fun _ _ => False) (defBody st) s) :
    FnOk P w K mg base CX0 (k + 1) f fd ps (sp0 K cl ps.length (fDef N.length ps.length s)) ∧ ∀ A : Around, Room (k + 1) A → FMono (fDef N.length ps.length s) := by
  refine ⟨F.ok S (fun vs H Q E h => h.1) fun cdv A outer sh H vs Q E hr h => ?_, fun A hr => fDef_mo (body .none A [] {} (fun _ => none) E0 (hr.deeper _)).mo⟩
  obtain ⟨hl, G, Fl, ss, r, q⟩ := h
  refine ⟨_, (body cdv A outer sh H E hr).ps, ⟨H, G, Fl, vs.map some⟩, G, ss ++ List.replicate (N.length - ps.length) .un, ?_, ?_⟩
  · have := r.pad (N.length - ps.length)
    unfold L2.start
    rw [hl]
    exact this
  · exact (body cdv A outer sh H E hr).mo _ ⟨fun e => ∀ v σ' H' G' X, R K cl ⟨H, G, Fl, vs.map some⟩ σ' H' G' e X → RepO K cl H' G' (.fro .non) v X → Q v H', fun o e => ∀ v σ' H' G' X, R K cl ⟨H, G, Fl, vs.map some⟩ σ' H' G' e X → RepO K cl H' G' o v X → Q v H', fun _ => False, fun _ => False, fun _ => False⟩ _ ⟨fun e z σ' H' G' r' _ => z _ _ _ _ _ r' (by unfold RepO Rep; exact ⟨rfl, rfl⟩), fun o e z σ' H' G' v X' r' _ ro => z _ _ _ _ _ r' ro, fun e z => z.elim, fun e z => z.elim, fun n z => z⟩ q
theorem fb_mk {P : Program} {w : World} {K : PySem.W.Frag} {mg : Str → Option Value} {base : Heap} {cl : Nat → Addr} {x qual : Str} {st : Stmt} {f : Addr} {fd : FuncData} {N ps : List Str} {k : Nat} {s : SX} (F : Fun K x qual st f fd) (S : FnScope N ps (defScope st)) (B : Binds K fd ps [])
    (body : ∀ (cdv : Value) (A : Around) (outer : List PySem.Env) (sh : Shared) (H : Hp) (E : XK), Room k (A.deeper (envOfC qual (defScope st) sh.heap.objs.size f cdv)) → MSs (cxOf CX0 P w K mg base N qual (defScope st) f cdv A outer sh H E).nox cl (fun _ _ => False) (defBody st) s) :
    FB P w K mg base cl (k + 1) ps.length f (fDef N.length ps.length s) := ⟨⟨fd, ps, (fn_mk F S body).1, B⟩, (fn_mk F S body).2⟩
theorem cok_mk {K : PySem.W.Frag} {cl : Nat → Addr} {c : Nat} (h : Cls K (cl c)) (hf : ∀ f ∈ fsOf c, NoAttr K (cl c) (fn f)) : COk K cl c 0 := ⟨Nat.zero_le _, h, hf⟩
/-! ### the law -/
def spLaw (K : PySem.W.Frag) : Sp := fun vs H Q _ => ∃ (a : Addr) (ns : List Int), vs = [.ref a] ∧ SqL K H a (ns.map V.int) ∧ ns.length ≤ 63 ∧ ∀ H', Q (.bl true) H'
def scrOf (ns : List Int) : List MV := ns.map .int
theorem reps_ints {K : PySem.W.Frag} {cl : Nat → Addr} {G : Hp} : ∀ ns : List Int, Reps K cl G (scrOf ns) (ns.map V.int)
  | [] => Reps.nil
  | i :: ns => Reps.cons rep_int (reps_ints ns)
theorem law_fn {P : Program} {w : World} {K : PySem.W.Frag} {mg : Str → Option Value} {base : Heap} {cl : Nat → Addr} {k : Nat} {f : Addr} {fd : FuncData} {x : Str} {F : FX} (h : FnOk P w K mg base CX0 k f fd [x] (sp0 K cl 1 F)) (mo : FMono F)
    (hF : ∀ ns : List Int, ns.length ≤ 63 → F [.bo (.scr (scrOf ns))] (fun o _ => o = .fro (.bl true)) (fun _ => False)) : FnOk P w K mg base CX0 k f fd [x] (spLaw K) := by
  refine h.imp fun vs H Q E ⟨a, ns, e1, h1, h2, h3⟩ => ?_
  subst e1
  refine ⟨rfl, fun _ => none, fun _ => False, [.bo (.scr (scrOf ns))], ⟨rfl, Same.refl _, fun b u z => (by cases z), fun b u z _ => z, fun b _ _ _ => rfl, fun _ => [], fun i s hs => ?_, fun i b _ hb => (by cases hb), fun i j b _ _ hb => (by cases hb), fun b hb => (by cases hb)⟩, mo _ _ _ _ _ (fun o e z v σ' H' G' X' r ro => ?_) (fun _ z => z) (hF ns h2)⟩
  · cases i with
    | zero =>
      simp at hs; subst hs
      unfold SRep
      refine ⟨rfl, .ref a, rfl, rfl, H, fun b u z => ⟨z, fun q => q⟩, ?_⟩
      unfold RepB
      exact ⟨a, _, rfl, h1, reps_ints ns⟩
    | succ i => simp at hs
  · subst z
    unfold RepO Rep at ro
    rw [ro.2]
    exact h3 H'
end C
namespace C
open PySem PySem.Spec PyProof.Rows L2
section
variable {X : Cx} {cl : Nat → Addr} {W : WX} {a b c e : Expr} {es : List Expr} {fa fb fc : EX} {qa qb qc : QX} {ta tb : TX} {ga : AX} {na : NX} {xa : XX} {pos p : Pos} {x : Str} {st : Stmt} {sts sts2 : List Stmt} {s t : SX} {g : GX} {gs : GXs}
/-! ### list comprehensions -/
def wipeE (env : Env) : List Nat → Env
  | [] => env
  | v :: vs => (wipeE env vs).set v .un
theorem R.wipe {K : PySem.W.Frag} {β : Bs} {σ : L2.St} {H G : Hp} {env : Env} {Z : List Addr} (r : R K cl β σ H G env Z) : ∀ vs, R K cl β (L2.wipe σ vs) H G (wipeE env vs) Z
  | [] => r
  | v :: vs => (R.wipe r vs).unset v
theorem wipe_at {σ : L2.St} {i : Nat} : ∀ {vs : List Nat}, i < σ.length → (L2.wipe σ vs)[i]? = if i ∈ vs then some none else σ[i]?
  | [], h => by simp [L2.wipe]
  | v :: vs, h => by
    unfold L2.wipe
    by_cases e : i = v
    · subst e
      rw [List.getElem?_set_self (by rw [wipe_length]; exact h)]
      simp
    · rw [List.getElem?_set_ne (Ne.symm e), wipe_at h]
      simp [e]
theorem wipe_agr {σ σ2 : L2.St} {is vs : List Nat} (h : Agr is (L2.wipe σ vs) σ2) (hs : ∀ j ∈ is, j ∈ vs) : L2.wipe σ2 vs = L2.wipe σ vs := by
  have hl : σ2.length = σ.length := by rw [h.1, wipe_length]
  refine List.ext_getElem? fun i => ?_
  by_cases hi : i < σ.length
  · rw [wipe_at (by rw [hl]; exact hi), wipe_at hi]
    by_cases hv : i ∈ vs
    · rw [if_pos hv, if_pos hv]
    · rw [if_neg hv, if_neg hv, h.2 i (fun z => hv (hs i z)), wipe_at hi, if_neg hv]
  · rw [List.getElem?_eq_none (by rw [wipe_length]; omega), List.getElem?_eq_none (by rw [wipe_length]; omega)]
/-- the items' values, from the left -/
def lcN (g : GX) (t : TX) (fe : EX) (env0 : Env) : List MV → List MV → (List MV → Prop) → Prop
  | [], acc, Q => Q acc
  | m :: ms, acc, Q => g m env0 fun e => t e fun b => match b with
    | true => fe e fun y => acc.length < sizeLine ∧ lcN g t fe env0 ms (acc ++ [y]) Q
    | false => lcN g t fe env0 ms acc Q
def lcX (vs : List Nat) (f : LX) (g : GX) (t : TX) (fe : EX) : LX := fun env Q => f env fun ms => lcN g t fe (wipeE env vs) ms [] Q
theorem lcN_mo {env0 : Env} (hg : ∀ m env (Q Q' : Env → Prop), (∀ e, Q e → Q' e) → g m env Q → g m env Q') (ht : ∀ env (Q Q' : Bool → Prop), (∀ m, Q m → Q' m) → ta env Q → ta env Q') (hf : ∀ env (Q Q' : MV → Prop), (∀ m, Q m → Q' m) → fa env Q → fa env Q') :
    ∀ ms acc (Q Q' : List MV → Prop), (∀ m, Q m → Q' m) → lcN g ta fa env0 ms acc Q → lcN g ta fa env0 ms acc Q'
  | [], acc, Q, Q', k, q => k _ q
  | m :: ms, acc, Q, Q', k, q => hg _ _ _ _ (fun e z => ht _ _ _ (fun b z => by
    cases b with
    | true => exact hf _ _ _ (fun y z => ⟨z.1, lcN_mo hg ht hf ms _ Q Q' k z.2⟩) z
    | false => exact lcN_mo hg ht hf ms _ Q Q' k z) z) q
structure MTs (X : Cx) (cl : Nat → Addr) (cs : List Expr) (f : TX) : Prop where
  mo : ∀ env (Q Q' : Bool → Prop), (∀ m, Q m → Q' m) → f env Q → f env Q'
  pt : PTs X cs (tOf X.K cl f)
def tYesX : TX := fun _ Q => Q true
theorem PTsmono {X : Cx} {e : List Expr} {t t' : TT} (h : PTs X e t) (k : ∀ σ H Q, t' σ H Q → t σ H Q) : PTs X e t' := ⟨fun pins s σ H Q I q => h.run pins s σ H Q I (k σ H Q q)⟩
theorem mts_nil : MTs X cl [] tYesX := ⟨fun _ _ _ k q => k _ q, PTsmono pts_nil fun σ H Q ⟨β, G, env, r0, q⟩ => q H G (Ext.refl r0.gh)⟩
theorem mts_one (h : MT X cl a ta) : MTs X cl [a] ta := ⟨h.mo, pts_one h.pt⟩
abbrev BlkX (X : Cx) (scope : Scope) (s : Shared) (H : Hp) (C : Addr) (cl' : List (Str × Addr)) (fp : List Addr) : Cx := X.blk s H scope (compEnvC scope cl' C X.env) fp
/-- the block's text, whatever its frame -/
structure MLC (X : Cx) (cl : Nat → Addr) (scope : Scope) (tg iter elt : Expr) (ifs : List Expr) (own : List (Str × Nat)) (f : LX) (g : GX) (t : TX) (fe : EX) : Prop where
  hi : MJ X cl tg iter f
  ok : BlkOk X.N X.env.scope scope own
  hg : ∃ is, (∀ j ∈ is, j ∈ own.map (·.2)) ∧ ∀ (s : Shared) (H : Hp) (C : Addr) (cl' : List (Str × Addr)) (fp : List Addr), MG (BlkX X scope s H C cl' fp) cl tg g is
  ht : ∀ (s : Shared) (H : Hp) (C : Addr) (cl' : List (Str × Addr)) (fp : List Addr), MTs (BlkX X scope s H C cl' fp) cl ifs t
  he : ∀ (s : Shared) (H : Hp) (C : Addr) (cl' : List (Str × Addr)) (fp : List Addr), ME (BlkX X scope s H C cl' fp) cl elt fe
  m0 : Nonempty (Shared × Hp)
def nLc (f : LX) : NX := fun env Q => f env fun ms => Q (.lst ms)
theorem lc_run {scope : Scope} {tg iter elt : Expr} {ifs : List Expr} {own : List (Str × Nat)} {f : LX} {fe : EX} (h : MLC X cl scope tg iter elt ifs own f g ta fe) {is : List Nat} (his : ∀ j ∈ is, j ∈ own.map (·.2)) (hg : ∀ (s : Shared) (H : Hp) (C : Addr) (cl' : List (Str × Addr)) (fp : List Addr), MG (BlkX X scope s H C cl' fp) cl tg g is) (s0 : Shared) {σ : L2.St} {H : Hp} {Q : VK}
    (q : nOf X.K cl (nLc (lcX (own.map (·.2)) f g ta fe)) σ H Q) :
    tLc (fun σ H Q => ∃ β G env, R X.K cl β σ H G env [] ∧ f env fun ms => ∀ J H' G' KH, Ext H G H' G' → Same KH H' → ItOk X.K cl J ms G' KH → Q J H') (gOf X.K cl g is) (tOf X.K cl ta) (eOf X.K cl fe) (own.map (·.2)) σ H Q := by
  obtain ⟨β, G, env, r0, q⟩ := q
  have gmo := (hg s0 H 0 [] []).mo
  have tmo := (h.ht s0 H 0 [] []).mo
  have emo := (h.he s0 H 0 [] []).mo
  refine ⟨β, G, env, r0, h.hi.mo _ _ _ (fun ms z J H1 G1 KH e1 hk it D hD => ?_) q⟩
  obtain ⟨Y, w, hy⟩ := it
  generalize own.map (·.2) = vs at *
  refine lc_it w (fun i H2 => ∃ G2 acc us, Ext H1 G1 H2 G2 ∧ H2 D = some (.lst us) ∧ G2 D = none ∧ Reps X.K cl G2 acc us ∧ lcN g ta fe (wipeE env vs) (ms.drop i) acc fun ms => ∀ v H' G' X_, Ext H G H' G' → RepO X.K cl H' G' (.lst ms) v X_ → (∀ b ∈ X_, H b = none ∧ G' b = none ∧ H' b ≠ none) → Q v H')
    ⟨G1, [], [], Ext.new0 e1.gh hD, upd_same, e1.gh.free hD, Reps.nil, z⟩ (fun i H2 _ ⟨G2, _, _, e2, _⟩ => hk.trans e2.hh) (fun i x H2 H3 hi ⟨G2, acc, us, e2, hd, gd, ra, q⟩ y => ?_) fun H2 ⟨G2, acc, us, e2, hd, gd, ra, q⟩ => ?_
  · obtain ⟨G3, m, e3, hm, rm⟩ := hy i H2 G2 x H3 hi (hk.trans e2.hh) e2.gg e2.gh y
    have hdr : ms.drop i = m :: ms.drop (i + 1) := by
      rw [List.drop_eq_getElem_cons hi]
      congr 1
      rw [List.getElem?_eq_getElem hi] at hm
      exact Option.some.inj hm
    rw [hdr] at q
    have e13 := e2.trans e3
    have r3 := (r0.ext (e1.trans e13)).wipe vs
    have hd3 := e3.hh _ _ hd
    have gd3 := e3.gn D (by rw [hd]; simp) gd
    refine ⟨β, G3, _, m, r3, rm, gmo _ _ _ _ (fun en z σ2 r4 ag => ⟨wipe_agr ag his, β, G3, en, r4, tmo _ _ _ (fun b z H5 G5 e5 => ?_) z⟩) q⟩
    cases b with
    | false =>
      rw [if_neg Bool.false_ne_true]
      exact ⟨G5, acc, us, e13.trans e5, e5.hh _ _ hd3, e5.gn D (by rw [hd3]; simp) gd3, Reps.same (e3.gg.trans e5.gg) _ _ ra, z⟩
    | true =>
      rw [if_pos rfl]
      refine ⟨β, G5, en, r4.ext e5, emo _ _ _ (fun y z v H6 G6 e6 rv => ?_) z⟩
      have e56 := e5.trans e6
      have hd6 := e56.hh _ _ hd3
      have gd6 := e56.gn D (by rw [hd3]; simp) gd3
      have e16 := e13.trans e56
      refine ⟨us, hd6, by rw [Reps.len _ _ ra]; exact z.1, G6, acc ++ [y], us ++ [v], ⟨fun b u hb => ?_, e16.gg, fun b u hb => ?_, e16.gn⟩, upd_same, gd6, Reps.app _ _ _ _ (Reps.same (e3.gg.trans e56.gg) _ _ ra) (Reps.one rv), z.2⟩
      · rw [upd_ne (ne_of_none hb hD)]; exact e16.hh b u hb
      · rw [upd_ne (ne_of_none hb gd6)]; exact e16.gh b u hb
  · rw [List.drop_length] at q
    have q' : ∀ v H' G' X_, Ext H G H' G' → RepO X.K cl H' G' (.lst acc) v X_ → (∀ b ∈ X_, H b = none ∧ G' b = none ∧ H' b ≠ none) → Q v H' := q
    refine q' (.ref D) H2 G2 [D] (e1.trans e2) ?_ fun b hb => ?_
    · unfold RepO; exact ⟨D, us, rfl, rfl, hd, ra⟩
    · have : b = D := by simpa using hb
      subst this
      exact ⟨e1.hh.free hD, gd, by rw [hd]; simp⟩
theorem nLc_mo {vs : List Nat} {f : LX} {fe : EX} (hi : ∀ env (Q Q' : List MV → Prop), (∀ m, Q m → Q' m) → f env Q → f env Q') (hg : ∀ m env (Q Q' : Env → Prop), (∀ e, Q e → Q' e) → g m env Q → g m env Q') (ht : ∀ env (Q Q' : Bool → Prop), (∀ m, Q m → Q' m) → ta env Q → ta env Q')
    (hf : ∀ env (Q Q' : MV → Prop), (∀ m, Q m → Q' m) → fe env Q → fe env Q') : ∀ env (Q Q' : OV → Prop), (∀ m, Q m → Q' m) → nLc (lcX vs f g ta fe) env Q → nLc (lcX vs f g ta fe) env Q' :=
  fun env Q Q' k q => hi _ _ _ (fun ms z => lcN_mo hg ht hf ms _ _ _ (fun _ w => k _ w) z) q
theorem mn_lc {scope : Scope} {tg iter elt : Expr} {ifs : List Expr} {own : List (Str × Nat)} {f : LX} {fe : EX} (hc : X.calm = true) (hN : X.N.Nodup) (h : MLC X cl scope tg iter elt ifs own f g ta fe) (hs : ∀ x, foldedSetIterable iter X.env x = pure x := by intro _; rfl) :
    MN X cl (.ListComp elt [⟨tg, iter, ifs, 0⟩] scope pos) (nLc (lcX (own.map (·.2)) f g ta fe)) := by
  obtain ⟨is, his, hg⟩ := h.hg
  obtain ⟨s0, H0⟩ := h.m0
  refine ⟨nLc_mo h.hi.mo (hg s0 H0 0 [] []).mo (h.ht s0 H0 0 [] []).mo (h.he s0 H0 0 [] []).mo, PEmono (pe_lc hc hN h.hi.pi h.ok (fun s H C cl' fp => (hg s H C cl' fp).pg) (fun s H C cl' fp => (h.ht s H C cl' fp).pt) (fun s H C cl' fp => (h.he s H C cl' fp).pe) hs) fun σ H Q q => lc_run h his hg s0 q⟩
/-- name = [..] on one line, the name a local -/
theorem ms_setLc (i : Nat) {y : Str} {py spos : Pos} {scope : Scope} {tg iter elt : Expr} {ifs : List Expr} {own : List (Str × Nat)} {f : LX} {fe : EX} (hc : X.calm = true) (hN : X.N.Nodup) (h : MLC X cl scope tg iter elt ifs own f g ta fe) (hsw : swapsWith (.ListComp elt [⟨tg, iter, ifs, 0⟩] scope pos) (some (.Name y py)) spos.line X.env = pure true)
    (hy : X.N[i]? = some y := by rfl) (hyl : X.env.scope.names.lookup y = some .local := by rfl) (hs : ∀ x, foldedSetIterable iter X.env x = pure x := by intro _; rfl) : MS X cl W (.Assign [.Name y py] (.ListComp elt [⟨tg, iter, ifs, 0⟩] scope pos) spos) (set i (xN (nLc (lcX (own.map (·.2)) f g ta fe)))) := by
  obtain ⟨is, his, hg⟩ := h.hg
  obtain ⟨s0, H0⟩ := h.m0
  have mo := nLc_mo (vs := own.map (·.2)) h.hi.mo (hg s0 H0 0 [] []).mo (h.ht s0 H0 0 [] []).mo (h.he s0 H0 0 [] []).mo
  refine ⟨set_mo (W := W) (mx_n (mn_lc (pos := pos) hc hN h hs)), PSmono (ps_setLc (te := eOf X.K cl fe) (tt := tOf X.K cl ta) (g := gOf X.K cl g is) hc hN hy hyl hsw h.hi.pi h.ok (fun s H C cl' fp => (hg s H C cl' fp).pg) (fun s H C cl' fp => (h.ht s H C cl' fp).pt) (fun s H C cl' fp => (h.he s H C cl' fp).pe) hs) fun D σ H ⟨β, G, env, r0, q⟩ => ?_⟩
  · refine lc_run h his hg s0 ⟨β, G, env, r0, mo env (fun o => match setE env i o with
      | some e => (kOf X.K cl W β G D).nx e
      | none => False) _ (fun o z v H' G' X' e ro hX => ?_) q⟩
    cases g : setE env i o with
    | none => rw [g] at z; exact z.elim
    | some e3 =>
      rw [g] at z
      obtain ⟨h1, rfl⟩ := setE_out g
      exact z _ H' G' ((r0.extX e hX).setv h1 ro) e.gg
/-- the same, the list frozen at once -/
theorem ms_setLcF (i : Nat) {y : Str} {py spos : Pos} {scope : Scope} {tg iter elt : Expr} {ifs : List Expr} {own : List (Str × Nat)} {f : LX} {fe : EX} (hc : X.calm = true) (hN : X.N.Nodup) (h : MLC X cl scope tg iter elt ifs own f g ta fe) (hsw : swapsWith (.ListComp elt [⟨tg, iter, ifs, 0⟩] scope pos) (some (.Name y py)) spos.line X.env = pure true)
    (hy : X.N[i]? = some y := by rfl) (hyl : X.env.scope.names.lookup y = some .local := by rfl) (hs : ∀ x, foldedSetIterable iter X.env x = pure x := by intro _; rfl) : MS X cl W (.Assign [.Name y py] (.ListComp elt [⟨tg, iter, ifs, 0⟩] scope pos) spos) (set i (xE (eFrz (nLc (lcX (own.map (·.2)) f g ta fe))))) := by
  obtain ⟨is, his, hg⟩ := h.hg
  obtain ⟨s0, H0⟩ := h.m0
  have mo := nLc_mo (vs := own.map (·.2)) h.hi.mo (hg s0 H0 0 [] []).mo (h.ht s0 H0 0 [] []).mo (h.he s0 H0 0 [] []).mo
  refine ⟨set_mo (W := W) (mx_e (me_n (mn_lc (pos := pos) hc hN h hs))), PSmono (ps_setLc (te := eOf X.K cl fe) (tt := tOf X.K cl ta) (g := gOf X.K cl g is) hc hN hy hyl hsw h.hi.pi h.ok (fun s H C cl' fp => (hg s H C cl' fp).pg) (fun s H C cl' fp => (h.ht s H C cl' fp).pt) (fun s H C cl' fp => (h.he s H C cl' fp).pe) hs) fun D σ H ⟨β, G, env, r0, q⟩ => ?_⟩
  · refine lc_run h his hg s0 ⟨β, G, env, r0, mo env (fun o => match frz o with
      | some m => match setE env i (.fro m) with
        | some e => (kOf X.K cl W β G D).nx e
        | none => False
      | none => False) _ (fun o z v H' G' X' e ro hX => ?_) q⟩
    cases hq : frz o with
    | none => rw [hq] at z; exact z.elim
    | some m =>
      rw [hq] at z
      dsimp only at z
      have rr := (r0.extX e hX).frz
      have rp := frz_rep ro (fun b hb => (hX b hb).2.1) hq
      cases g : setE env i (.fro m) with
      | none => rw [g] at z; exact z.elim
      | some e3 =>
        rw [g] at z
        obtain ⟨h1, rfl⟩ := setE_out g
        exact z _ H' _ (rr.setv h1 (by unfold RepO; exact ⟨rfl, rp⟩)) (e.gg.trans (frzG_same fun b hb => (hX b hb).2.1))
end
end C
namespace C
open PySem PySem.Spec PyProof.Rows L2
section
variable {K : PySem.W.Frag} {cl : Nat → Addr} {H H' G G' : Hp} {β : Bs} {σ : L2.St} {env : Env} {Z : List Addr}
/-- an owned local is taken out of its slot -/
theorem R.take (r : R K cl β σ H G env []) {i : Nat} {o : OV} (e : env[i]? = some (.ow o)) : ∃ v X, σ[i]? = some (some v) ∧ RepO K cl H G o v X ∧ R K cl β σ H G (env.set i .un) X := by
  obtain ⟨fp, s1, s2, s3, _⟩ := r.sl
  have hi := (List.getElem?_eq_some_iff.mp e).1
  have q := s1 i _ e
  unfold SRep at q
  obtain ⟨v, q1, q2⟩ := q
  refine ⟨v, fp i, getD_some q1, q2, by rw [List.length_set, r.len], r.g0, r.gh, r.hk, r.gk, fun j => if j = i then [] else fp j, fun j s hs => ?_, fun j b hj hb => ?_, fun j k b hj hk h1 h2 => ?_, fun b hb => ?_⟩
  · dsimp only
    by_cases ej : j = i
    · subst ej
      rw [if_pos rfl]
      rw [List.getElem?_set_self hi] at hs
      cases hs
      unfold SRep
      rfl
    · rw [if_neg ej]
      rw [List.getElem?_set_ne (Ne.symm ej)] at hs
      exact s1 j s hs
  · dsimp only at hb
    rw [List.length_set] at hj
    by_cases ej : j = i
    · rw [if_pos ej] at hb; cases hb
    · rw [if_neg ej] at hb; exact s2 j b hj hb
  · dsimp only at h1 h2
    rw [List.length_set] at hj hk
    by_cases ej : j = i
    · rw [if_pos ej] at h1; cases h1
    · by_cases ek : k = i
      · rw [if_pos ek] at h2; cases h2
      · rw [if_neg ej] at h1; rw [if_neg ek] at h2; exact s3 j k b hj hk h1 h2
  · refine ⟨RepO.there _ _ _ q2 b hb, (s2 i b hi hb).1, (s2 i b hi hb).2, fun j hj z => ?_⟩
    dsimp only at z
    rw [List.length_set] at hj
    by_cases ej : j = i
    · rw [if_pos ej] at z; cases z
    · rw [if_neg ej] at z; exact ej (s3 j i b hj hi z hb)
theorem set_same {α : Type} {l : List α} {i : Nat} {x y : α} : (l.set i x).set i y = l.set i y := List.set_set ..
theorem R.setAt (r : R K cl β σ H G env Z) {i : Nat} {o : OV} {v : V} (hi : i < env.length) (hv : σ[i]? = some (some v)) (hr : RepO K cl H G o v Z) : R K cl β σ H G (env.set i (.ow o)) [] := by
  have := r.setv hi hr
  rw [set_self hv] at this
  exact this
/-- an owned local is frozen -/
def fzE (env : Env) (i : Nat) : Option Env := match env[i]? with
  | some (.ow o) => match frz o with
    | some m => some (env.set i (.ow (.fro m)))
    | none => none
  | _ => none
theorem R.fz (r : R K cl β σ H G env []) {i : Nat} {env' : Env} (h : fzE env i = some env') : ∃ G', R K cl β σ H G' env' [] ∧ Same G G' := by
  unfold fzE at h
  split at h
  · rename_i o e
    split at h
    · rename_i m hm
      cases h
      have hi := (List.getElem?_eq_some_iff.mp e).1
      obtain ⟨v, X, hv, ro, r'⟩ := r.take e
      have rr := r'.frz
      have n := r'.xn
      have := rr.setAt (o := .fro m) (v := v) (i := i) (by rw [List.length_set]; exact hi) hv (by unfold RepO; exact ⟨rfl, frz_rep ro n hm⟩)
      rw [set_same] at this
      exact ⟨_, this, frzG_same n⟩
    · cases h
  · cases h
end
section
variable {X : Cx} {cl : Nat → Addr} {W : WX} {a b c e : Expr} {es : List Expr} {fa fb fc : EX} {qa qb qc : QX} {ta tb : TX} {ga : AX} {na : NX} {xa : XX} {pos p : Pos} {x : Str} {st : Stmt} {sts sts2 : List Stmt} {s t : SX} {g : GX} {gs : GXs}
def fz (i : Nat) (s : SX) : SX := fun env k => match fzE env i with
  | some e => s e k
  | none => False
theorem ms_fz (i : Nat) (h : MS X cl W st s) : MS X cl W st (fz i s) := by
  refine ⟨fun env k k' l q => ?_, PSmono h.ps fun D σ H ⟨β, G, env, r0, q⟩ => ?_⟩
  · unfold fz at q ⊢
    split at q
    · exact h.mo _ _ _ l q
    · exact q.elim
  · unfold fz at q
    split at q
    · rename_i e he
      obtain ⟨G', r', g⟩ := r0.fz he
      exact ⟨β, G', e, r', h.mo _ _ _ (kOf_le g) q⟩
    · exact q.elim
/-- a local handed over -/
def xMv (i : Nat) : XX := fun env Q _ => match env[i]? with
  | some (.ow o) => Q o (env.set i .un)
  | _ => False
theorem mx_mv (i : Nat) {x : Str} {pos : Pos} (hN : X.N[i]? = some x := by rfl) (hv : Vis X.env.scope x := by first | exact Or.inl rfl | exact Or.inr (Or.inl rfl) | exact Or.inr (Or.inr rfl)) (hd : (x == ("__debug__" : Str)) = false := by decide)
    (hcd : (x == ("__classdict__" : Str)) = false := by decide) : MX X cl W (.Name x pos) (xMv i) := by
  refine ⟨fun env Q Q' E E' k _ q => ?_, PEmono (pe_var hN hv hd hcd) fun σ H Q ⟨β, G, env, r0, q⟩ => ?_⟩
  · unfold xMv at q ⊢
    split at q
    · exact k _ _ q
    · exact q.elim
  · unfold xMv at q
    split at q
    · rename_i o e
      obtain ⟨v, X', hv, ro, r'⟩ := r0.take e
      exact ⟨v, hv, q v H G X' r' (Same.refl _) ro⟩
    · exact q.elim
/-! ### lists changed in place -/
theorem upd_off {H : Hp} {p : Addr} {o : HO} {b : Addr} (h : b ≠ p) {u : HO} (e : H b = some u) : upd H p o b = some u := by rw [upd_ne h]; exact e
/-- the list at an owned place gets new items -/
theorem lst_write {K : PySem.W.Frag} {β : Bs} {σ : L2.St} {H G : Hp} {env : Env} {i : Nat} {p : List Nat} {ms : List MV} (r : R K cl β σ H G env []) (hp : ∀ f ∈ p, f < 38) (h : ownP env i p = some (.lst ms)) :
    ∃ v0 l vs, σ[i]? = some (some v0) ∧ PAt K H v0 p (.ref l) ∧ H l = some (.lst vs) ∧ Reps K cl G ms vs ∧ ∀ ms' vs', Reps K cl G ms' vs' → R K cl β σ (upd H l (.lst vs')) G (setP env i p (.lst ms')) [] := by
  obtain ⟨v0, w, f1, h1, h2, h3, h4, _, h6⟩ := r.write hp h
  unfold RepO at h3
  obtain ⟨l, vs, rfl, rfl, y1, y2⟩ := h3
  refine ⟨v0, l, vs, h1, h2, y1, y2, fun ms' vs' rs => h6 _ G (.lst ms') [l] (Same.refl _) (fun b u q => ?_) (fun b hb u q => upd_off (by simpa using hb) q) (fun b _ q => q) ?_ (fun b hb => .inl hb) (fun b hb => h4 b hb)⟩
  · refine upd_off (fun z => ?_) (r.gh b u q)
    subst z
    rw [h4 b (by simp)] at q; cases q
  · unfold RepO
    exact ⟨l, vs', rfl, rfl, upd_same, rs⟩
def xApp (i : Nat) (p : List Nat) (fa : EX) : XX := fun env Q _ => match ownP env i p with
  | some (.lst ms) => fa env fun m => ms.length < sizeLine ∧ Q (.fro .non) (setP env i p (.lst (ms ++ [m])))
  | _ => False
theorem rn {K : PySem.W.Frag} {cl : Nat → Addr} {H G : Hp} : RepO K cl H G (.fro .non) .non [] := by unfold RepO Rep; exact ⟨rfl, rfl⟩
theorem mx_app {o : Expr} {i : Nat} {pl : List Nat} {apos cpos : Pos} (ho : MP X o i pl) (ha : ME X cl e fa) (hp : fld38 pl = true := by rfl) (he : starEach [e] X.env = (false, eval e X.env) :: starEach [] X.env := by rfl)
    (hbase : attributeBase o "append" X.env (eval o X.env) = eval o X.env := by rfl)
    (hfew : ((backTo cpos (starEach [e] X.env)).all (fun x => !x.1) && (backToKw cpos (keywordEach [] X.env)).all (fun x => x.1.isSome) && decide ([e].length + ([] : List Keyword).length + (if ([] : List Keyword).isEmpty then 0 else 1) < 30)) = true := by rfl)
    (hline : (apos.endLine == cpos.line) = true := by rfl) : MX X cl W (.Call (.Attribute o "append" apos) [e] [] cpos) (xApp i pl fa) := by
  refine ⟨fun env Q Q' E E' k _ q => ?_, PEmono (pe_bm PySem.F.plainAttrs_list PySem.F.slot_list_append PySem.F.type_list_append mt_append ho (pa_cons ha.pe pa_nil he) hbase hfew hline he rfl) fun σ H Q ⟨β, G, env, r0, q⟩ => ?_⟩
  · unfold xApp at q ⊢
    split at q
    · exact ha.mo _ _ _ (fun m z => ⟨z.1, k _ _ z.2⟩) q
    · exact q.elim
  · unfold xApp at q
    split at q
    · rename_i ms h
      obtain ⟨v0, l, vs, h1, h2, h3, _, _⟩ := lst_write r0 (fld38_out hp) h
      refine ⟨v0, .ref l, h1, h2, .inl ⟨rfl, vs, SqL.of h3⟩, β, G, env, r0, ha.mo _ _ _ (fun m z v H' G' e rv => ?_) q⟩
      have r1 := r0.ext e
      obtain ⟨v0', l', vs', g1, g2, g3, g4, g5⟩ := lst_write r1 (fld38_out hp) h
      rw [h1] at g1; cases g1
      have := PAt.uniq (PAt.same e.hh h2) g2
      cases this
      refine ⟨l, vs', v, rfl, rfl, g3, by rw [Reps.len _ _ g4]; exact z.1, ?_⟩
      exact z.2 .non _ G' [] (g5 _ _ (Reps.app _ _ _ _ g4 (Reps.one rv))) e.gg rn
    · exact q.elim
def xPop (i : Nat) (p : List Nat) : XX := fun env Q _ => match ownP env i p with
  | some (.lst ms) => match ms.getLast? with
    | some m => Q (.fro m) (setP env i p (.lst ms.dropLast))
    | none => False
  | _ => False
theorem Reps.dropLast {K : PySem.W.Frag} {G : Hp} {ms : List MV} {vs : List V} (r : Reps K cl G ms vs) : Reps K cl G ms.dropLast vs.dropLast := by
  rw [List.dropLast_eq_take, List.dropLast_eq_take, Reps.len _ _ r]
  exact Reps.take _ _ _ r
theorem mx_pop {o : Expr} {i : Nat} {pl : List Nat} {apos cpos : Pos} (ho : MP X o i pl) (hp : fld38 pl = true := by rfl) (hbase : attributeBase o "pop" X.env (eval o X.env) = eval o X.env := by rfl)
    (hline : (apos.endLine == cpos.line) = true := by rfl) : MX X cl W (.Call (.Attribute o "pop" apos) [] [] cpos) (xPop i pl) := by
  refine ⟨fun env Q Q' E E' k _ q => ?_, PEmono (pe_bm0 PySem.F.plainAttrs_list PySem.F.slot_list_pop PySem.F.type_list_pop mt_pop ho hbase hline) fun σ H Q ⟨β, G, env, r0, q⟩ => ?_⟩
  · unfold xPop at q ⊢
    split at q
    · split at q
      · exact k _ _ q
      · exact q.elim
    · exact q.elim
  · unfold xPop at q
    split at q
    · rename_i ms h
      split at q
      · rename_i m hm
        obtain ⟨v0, l, vs, h1, h2, h3, h4, h5⟩ := lst_write r0 (fld38_out hp) h
        have hm' : ms[ms.length - 1]? = some m := by rw [← List.getLast?_eq_getElem?]; exact hm
        obtain ⟨v, y1, y2⟩ := Reps.get _ _ _ m h4 hm'
        refine ⟨v0, .ref l, h1, h2, .inl ⟨rfl, vs, SqL.of h3⟩, l, vs, v, rfl, rfl, h3, by rw [Reps.len _ _ h4]; exact y1, ?_⟩
        exact q v _ G [] (h5 _ _ (Reps.dropLast h4)) (Same.refl _) (by unfold RepO; exact ⟨rfl, y2⟩)
      · exact q.elim
    · exact q.elim
def xExt (i : Nat) (p : List Nat) (qa : QX) : XX := fun env Q _ => match ownP env i p with
  | some (.lst ms) => qa env fun o => asL o fun ns => ms.length + ns.length ≤ sizeLine ∧ Q (.fro .non) (setP env i p (.lst (ms ++ ns)))
  | _ => False
theorem mx_ext {o : Expr} {i : Nat} {pl : List Nat} {apos cpos : Pos} (ho : MP X o i pl) (ha : MQ X cl e qa) (hp : fld38 pl = true := by rfl) (he : starEach [e] X.env = (false, eval e X.env) :: starEach [] X.env := by rfl)
    (hbase : attributeBase o "extend" X.env (eval o X.env) = eval o X.env := by rfl)
    (hfew : ((backTo cpos (starEach [e] X.env)).all (fun x => !x.1) && (backToKw cpos (keywordEach [] X.env)).all (fun x => x.1.isSome) && decide ([e].length + ([] : List Keyword).length + (if ([] : List Keyword).isEmpty then 0 else 1) < 30)) = true := by rfl)
    (hline : (apos.endLine == cpos.line) = true := by rfl) : MX X cl W (.Call (.Attribute o "extend" apos) [e] [] cpos) (xExt i pl qa) := by
  refine ⟨fun env Q Q' E E' k _ q => ?_, PEmono (pe_bm PySem.F.plainAttrs_list PySem.F.slot_list_extend PySem.F.type_list_extend mt_extend ho (pa_cons ha.pe pa_nil he) hbase hfew hline he rfl) fun σ H Q ⟨β, G, env, r0, q⟩ => ?_⟩
  · unfold xExt at q ⊢
    split at q
    · exact ha.mo _ _ _ (fun m z => asL_mo (fun _ z => ⟨z.1, k _ _ z.2⟩) z) q
    · exact q.elim
  · unfold xExt at q
    split at q
    · rename_i ms h
      obtain ⟨v0, l, vs, h1, h2, h3, _, _⟩ := lst_write r0 (fld38_out hp) h
      refine ⟨v0, .ref l, h1, h2, .inl ⟨rfl, vs, SqL.of h3⟩, β, G, env, r0, ha.mo _ _ _ (fun o z v H' G' e rv => ?_) q⟩
      have r1 := r0.ext e
      obtain ⟨v0', l', vs', g1, g2, g3, g4, g5⟩ := lst_write r1 (fld38_out hp) h
      rw [h1] at g1; cases g1
      have := PAt.uniq (PAt.same e.hh h2) g2
      cases this
      obtain ⟨ns, b, us, rfl, y1, y2, z⟩ := asL_rep e.gh z rv
      refine ⟨l, b, vs', us, rfl, rfl, g3, y1, by rw [Reps.len _ _ g4, Reps.len _ _ y2]; exact z.1, ?_⟩
      exact z.2 .non _ G' [] (g5 _ _ (Reps.app _ _ _ _ g4 y2)) e.gg rn
    · exact q.elim
/-! x op= e -/
/-- an operator stored at once, by values -/
structure GI (X : Cx) (cl : Nat → Addr) (op : Operator) (g : OV → OV → (MV → Prop) → Prop) : Prop where
  mo : ∀ m n (Q Q' : MV → Prop), (∀ k, Q k → Q' k) → g m n Q → g m n Q'
  ex : ∃ r : R2, OpR X (inplaceOp op) r ∧ ∀ m n x y H G (Q : VK), Same G H → Rep X.K cl G m x → RepB X.K cl H G n y → g (.fro m) n (fun k => ∀ v H' G', Ext H G H' G' → Rep X.K cl G' k v → Q v H') → r x y H Q
theorem fro_rep {K : PySem.W.Frag} {H G : Hp} {m : MV} {x : V} (r : Rep K cl G m x) : RepB K cl H G (.fro m) x := by unfold RepB; exact r
def gAddS (m n : OV) (Q : MV → Prop) : Prop := match m, n with
  | .fro (.int i), .fro (.int j) => Q (.int (i + j))
  | .fro (.str x), .fro (.str y) => x.length + y.length ≤ sizeLine ∧ Q (.str (x ++ y))
  | _, _ => False
theorem gi_iadd : GI X cl .Add gAddS := by
  refine ⟨fun m n Q Q' k q => ?_, _, iop_add.or iop_add_str, fun m n x y H G Q g rx ry q => ?_⟩
  · unfold gAddS at q ⊢
    split at q
    · exact k _ q
    · exact ⟨q.1, k _ q.2⟩
    · exact q.elim
  · unfold gAddS at q
    split at q
    · rename_i i j e
      cases e
      unfold Rep at rx; unfold RepB Rep at ry; subst rx; subst ry
      exact .inl ⟨_, _, rfl, rfl, q _ H G (Ext.refl g) rep_int⟩
    · rename_i i j e
      cases e
      unfold Rep at rx; unfold RepB Rep at ry; subst rx; subst ry
      exact .inr ⟨_, _, rfl, rfl, q.1, q.2 _ H G (Ext.refl g) rep_str⟩
    · exact q.elim
theorem gi_isub : GI X cl .Sub gSubI := ⟨gI0_mo, _, iop_sub, fun m n x y H G Q g rx ry q => by obtain ⟨i, j, rfl, rfl, q⟩ := gI0_out (fro_rep (H := H) rx) ry q; exact ⟨i, j, rfl, rfl, q _ H G (Ext.refl g) rep_int⟩⟩
theorem gi_imul : GI X cl .Mult gMulI := ⟨gI_mo, _, iop_mulX, fun m n x y H G Q g rx ry q => by obtain ⟨i, j, rfl, rfl, c, q⟩ := gI_out (fro_rep (H := H) rx) ry q; exact ⟨i, j, rfl, rfl, c, q _ H G (Ext.refl g) rep_int⟩⟩
theorem gi_idiv : GI X cl .FloorDiv gDivI := ⟨gI_mo, _, iop_fdivW, fun m n x y H G Q g rx ry q => by obtain ⟨i, j, rfl, rfl, c, q⟩ := gI_out (fro_rep (H := H) rx) ry q; exact ⟨i, j, rfl, rfl, c, q _ H G (Ext.refl g) rep_int⟩⟩
theorem gi_imod : GI X cl .Mod gModI := ⟨gI_mo, _, iop_mod, fun m n x y H G Q g rx ry q => by obtain ⟨i, j, rfl, rfl, c, q⟩ := gI_out (fro_rep (H := H) rx) ry q; exact ⟨i, j, rfl, rfl, c, q _ H G (Ext.refl g) rep_int⟩⟩
def aug (i : Nat) (g : OV → OV → (MV → Prop) → Prop) (qa : QX) : SX := fun env k => match env[i]? with
  | some (.ow (.fro m)) => qa env fun n => g (.fro m) n fun r => k.nx (env.set i (.ow (.fro r)))
  | _ => False
theorem ms_aug (i : Nat) {op : Operator} {gg : OV → OV → (MV → Prop) → Prop} (hg : GI X cl op gg) {pos' : Pos} (hN : X.N.Nodup) (ha : MQ X cl e qa) (hi : X.N[i]? = some x := by rfl) (hx : Loc X.env.scope x := by first | exact Or.inl rfl | exact Or.inr rfl)
    (hf : X.fn x = true ∨ X.env.scope.names.lookup x = some .local := by first | exact .inl rfl | exact .inr rfl | assumption) : MS X cl W (.AugAssign (.Name x pos') op e pos) (aug i gg qa) := by
  obtain ⟨r, ho, h⟩ := hg.ex
  refine ⟨fun env k k' l q => ?_, PSmono (ps_aug hN hi hx ha.pe ho hf) fun D σ H ⟨β, G, env, r0, q⟩ => ?_⟩
  · unfold aug at q ⊢
    split at q
    · exact ha.mo _ _ _ (fun n z => hg.mo _ _ _ _ (fun r w => l.nx _ w) z) q
    · exact q.elim
  · unfold aug at q
    split at q
    · rename_i m e1
      have hil := (List.getElem?_eq_some_iff.mp e1).1
      obtain ⟨v, X', hv, ro, _⟩ := r0.take e1
      unfold RepO at ro
      refine ⟨v, hv, β, G, env, r0, ha.mo _ _ _ (fun n z w H' G' e rw => ?_) q⟩
      exact h m n v w H' G' _ e.gh (Rep.same e.gg _ _ ro.2) rw (hg.mo _ _ _ _ (fun r w' v' H2 G2 e2 rr => w' _ H2 G2 (((r0.ext e).ext e2).setv hil (by unfold RepO; exact ⟨rfl, rr⟩)) (e.gg.trans e2.gg)) z)
    · exact q.elim
/-! isinstance(x, C), C an own class whose instance x is -/
def eIsC (c : Nat) (qa : QX) : EX := fun env Q => qa env fun o => match o with
  | .obj d _ => Nat.beq d c = true ∧ Q (.bl true)
  | .fro (.obj d _) => Nat.beq d c = true ∧ Q (.bl true)
  | _ => False
theorem m_isC (c : Nat) {pT : Pos} {tn : Str} (ha : MQ X cl a qa) (gl : Gl X "isinstance") (hm : X.mg "isinstance" = none) (glT : Gl X tn) (hmT : X.mg tn = some (.ref (cl c))) (hC : Cls X.K (cl c)) (h1 : PySem.W.findIn X.K (.ref (cl c)) "__class__" = some (some (.builtin "object.__class__")))
    (h2 : PySem.W.specialIn X.K (.builtin "object.__class__") "__get__" = some (some (.builtin "getset_descriptor.__get__"))) (h3 : PySem.W.takesIn X.K (.builtin "object.__class__") = some true) (h4 : PySem.W.mroIn X.K (cl c) (.type "object") = some true) (h5 : PySem.W.kitOne X.K (.ref (cl c)) (.ref (cl c)) = some true)
    (hdT : (tn == ("__debug__" : Str)) = false := by decide)
    (he : starEach [a, .Name tn pT] X.env = (false, eval a X.env) :: starEach [.Name tn pT] X.env := by rfl) (he2 : starEach [.Name tn pT] X.env = (false, eval (.Name tn pT) X.env) :: starEach [] X.env := by rfl) (hpl : (backTo pos (starEach [.Name tn pT] X.env)).any (·.1) = false := by rfl) : ME X cl (.Call (.Name "isinstance" p) [a, .Name tn pT] [] pos) (eIsC c qa) := by
  refine ⟨fun env Q Q' k q => ha.mo _ _ _ (fun m z => ?_) q, PEmono (pe_callB call_isi gl hm (by decide +kernel) (pa_cons ha.pe (pa_cons (pe_glob (v := .ref (cl c)) glT hmT rfl hdT) pa_nil he2) he) (by decide) (by decide) he hpl) fun σ H Q ⟨β, G, env, r0, q⟩ => ⟨β, G, env, r0, ha.mo _ _ _ (fun o z v H' G' e rv => ?_) q⟩⟩
  · split at z
    · exact ⟨z.1, k _ z.2⟩
    · exact ⟨z.1, k _ z.2⟩
    · exact z.elim
  · have fin : ∀ d, (∃ q dx vs, v = V.ref q ∧ H' q = some (.ins (cl d) dx (nf d vs))) → Nat.beq d c = true → (∀ v H' G', Ext H G H' G' → Rep X.K cl G' (.bl true) v → Q v H') → rIsi X.K [v, .ref (cl c)] H' Q := fun d ⟨q, dx, vs, e1, e2⟩ hd k => by
      have := Nat.eq_of_beq_eq_true hd
      subst this
      exact ⟨v, .ref (cl d), .ref (cl d), .ref (cl d), true, rfl, .own _, by subst e1; exact .base (.ins e2 hC h1 h2 h3 h4), h5, k _ H' G' e rep_bl⟩
    split at z
    · unfold RepB at rv
      obtain ⟨q, dx, vs, e1, e2, _⟩ := rv
      exact fin _ ⟨q, dx, vs, e1, e2⟩ z.1 z.2
    · unfold RepB Rep at rv
      obtain ⟨q, dx, vs, e1, e2, _⟩ := rv
      exact fin _ ⟨q, dx, vs, e1, e.gh _ _ e2⟩ z.1 z.2
    · exact z.elim
end
end C
namespace C
open PySem PySem.Spec PyProof.Rows L2
/-- a field's new content -/
def putO (c : Nat) (k : Nat) (os : List OV) (o : OV) : Option (List OV) := match ixOf (fsOf c) k with
  | some j => match Nat.blt j os.length with
    | true => some (os.set j o)
    | false => match Nat.beq j os.length with
      | true => some (os ++ [o])
      | false => none
  | none => none
theorem fs_small (c : Nat) : (fsOf c).length < 900 := by
  have : ∀ l ∈ fsT, l.length < 900 := by decide
  unfold fsOf
  by_cases h : c < fsT.length
  · rw [List.getD_eq_getElem?_getD, List.getElem?_eq_getElem h]
    exact this _ (List.getElem_mem h)
  · rw [List.getD_eq_getElem?_getD, List.getElem?_eq_none (by omega)]
    simp
theorem nf_len {c : Nat} {vs : List V} : (nf c vs).length < 1000 := by
  unfold nf
  rw [List.length_zip, List.length_map]
  have := fs_small c
  omega
section
variable {K : PySem.W.Frag} {cl : Nat → Addr} {H H' G G' : Hp} {β : Bs} {σ : L2.St} {env : Env} {Z : List Addr}
theorem RepOs.len : ∀ {os : List OV} {vs : List V} {fp : List Addr}, RepOs K cl H G os vs fp → vs.length = os.length
  | [], _, _, h => by unfold RepOs at h; rw [h.1]; rfl
  | o :: os, vs, fp, h => by
    unfold RepOs at h
    obtain ⟨v, ws, f1, f2, h1, _, _, h3, _⟩ := h
    rw [h1, List.length_cons, List.length_cons, RepOs.len h3]
theorem RepOs.snoc {o : OV} {v : V} {fx : List Addr} (ho : RepO K cl H G o v fx) : ∀ {os : List OV} {vs : List V} {fp : List Addr}, RepOs K cl H G os vs fp → (∀ b ∈ fx, b ∉ fp) → ∃ fq, RepOs K cl H G (os ++ [o]) (vs ++ [v]) fq ∧ ∀ b ∈ fq, b ∈ fp ∨ b ∈ fx
  | [], vs, fp, h, d => by
    unfold RepOs at h
    rw [h.1]
    refine ⟨fx ++ [], ?_, fun b hb => .inr (by simpa using hb)⟩
    show RepOs K cl H G [o] [v] _
    unfold RepOs
    exact ⟨v, [], fx, [], rfl, rfl, ho, by unfold RepOs; exact ⟨rfl, rfl⟩, fun _ _ z => by cases z⟩
  | o1 :: os, vs, fp, h, d => by
    unfold RepOs at h
    obtain ⟨w, ws, f1, f2, h1, h5, h2, h3, h4⟩ := h
    subst h1; subst h5
    obtain ⟨fq, r1, r2⟩ := RepOs.snoc ho h3 fun b hb z => d b hb (List.mem_append_right _ z)
    refine ⟨f1 ++ fq, ?_, fun b hb => ?_⟩
    · show RepOs K cl H G (o1 :: (os ++ [o])) (w :: (ws ++ [v])) _
      unfold RepOs
      refine ⟨w, _, f1, fq, rfl, rfl, h2, r1, fun b hb z => ?_⟩
      rcases r2 b z with y | y
      · exact h4 b hb y
      · exact d b y (List.mem_append_left _ hb)
    · rcases List.mem_append.mp hb with y | y
      · exact .inl (List.mem_append_left _ y)
      · rcases r2 b y with z | z
        · exact .inl (List.mem_append_right _ z)
        · exact .inr z
/-- a field of the object at an owned place is stored -/
theorem fld_write {c k : Nat} {os os' : List OV} {o : OV} {v : V} {i : Nat} {p : List Nat} (r : R K cl β σ H G env Z) (hp : ∀ f ∈ p, f < 38) (hk : k < 38) (h : ownP env i p = some (.obj c os)) (hv : RepO K cl H G o v Z) (hput : putO c k os o = some os') :
    ∃ v0 a dx vs, σ[i]? = some (some v0) ∧ PAt K H v0 p (.ref a) ∧ H a = some (.ins (cl c) dx (nf c vs)) ∧ (Cls K (cl c) ∧ NoAttr K (cl c) (fn k)) ∧ (∀ o1, os[(ixOf (fsOf c) k).getD 0]? = some o1 → ∃ u fu, (nf c vs).lookup (fn k) = some u ∧ RepO K cl H G o1 u fu) ∧
      R K cl β σ (upd H a (.ins (cl c) dx (putF (fn k) v (nf c vs)))) G (setP env i p (.obj c os')) [] := by
  obtain ⟨v0, w, f1, h1, h2, h3, h4, h5, h6⟩ := r.write hp h
  unfold RepO at h3
  obtain ⟨a, dx, vs, fq, rfl, rfl, y1, y2, y3, y4⟩ := h3
  have ga : G a = none := h4 a List.mem_cons_self
  have gk : Same G (upd H a (.ins (cl c) dx (putF (fn k) v (nf c vs)))) := fun b u q => upd_off (fun z => by subst z; rw [ga] at q; cases q) (r.gh b u q)
  have hl := RepOs.len y3
  unfold putO at hput
  cases e : ixOf (fsOf c) k with
  | none => rw [e] at hput; cases hput
  | some j =>
    rw [e] at hput
    have zx : ∀ b ∈ Z, b ∉ fq := fun b hb z => h5 b (List.mem_cons_of_mem _ z) hb
    have az : a ∉ Z := fun z => h5 a List.mem_cons_self z
    have others : ∀ b, b ∉ a :: fq → ∀ u, H b = some u → upd H a (.ins (cl c) dx (putF (fn k) v (nf c vs))) b = some u := fun b hb u q => upd_off (fun z => hb (by rw [z]; exact List.mem_cons_self)) q
    have fqn : ∀ b ∈ fq, b ≠ a := fun b hb z => y4 (z ▸ hb)
    cases hb : Nat.blt j os.length with
    | true =>
      simp only [hb] at hput; cases hput
      have hj : j < os.length := Nat.le_of_ble_eq_true hb
      obtain ⟨u, fk, u1, u2, u3, u4⟩ := RepOs.get y3 (show os[j]? = some os[j] by simp [hj])
      have hputF : putF (fn k) v (nf c vs) = nf c (vs.set j v) := put_zip hk _ _ _ (fs_lt c) e (by omega)
      refine ⟨v0, a, dx, vs, h1, h2, y1, y2.at e, fun o1 ho1 => ⟨u, fk, nf_look hk e u1, ?_⟩, ?_⟩
      · have ho1' : os[j]? = some o1 := ho1
        rw [show os[j]? = some os[j] by simp [hj]] at ho1'
        cases ho1'
        exact u2
      · -- the stored field replaces the old one
        obtain ⟨fq', t1, t2⟩ := u4 (upd H a (.ins (cl c) dx (putF (fn k) v (nf c vs)))) G o Z v (Same.refl _) (fun b hb hn u hu => upd_off (fqn b hb) hu) (RepO.frame (Same.refl _) _ _ _ (fun b hb u hu => upd_off (fun z => az (by rw [← z]; exact hb)) hu) hv) fun b hb z => absurd z (zx b hb)
        have ia : a ∉ fq' := fun z => by
          rcases t2 a z with y | y
          · exact az y
          · exact y4 y.1
        refine h6 _ G (.obj c (os.set j o)) (a :: fq') (Same.refl _) gk others (fun b _ q => q) ?_ (fun b hb => ?_) (fun b hb => ?_)
        · unfold RepO
          refine ⟨a, dx, vs.set j v, fq', rfl, rfl, by rw [upd_same, hputF], by rw [List.length_set]; exact y2, t1, ia⟩
        · rcases List.mem_cons.mp hb with rfl | hb
          · exact .inl List.mem_cons_self
          · rcases t2 b hb with y | y
            · exact .inr (.inl y)
            · exact .inl (List.mem_cons_of_mem _ y.1)
        · rcases List.mem_cons.mp hb with rfl | hb
          · exact ga
          · rcases t2 b hb with y | y
            · exact r.xn b y
            · exact h4 b (List.mem_cons_of_mem _ y.1)
    | false =>
      simp only [hb] at hput
      cases hb2 : Nat.beq j os.length with
      | false => simp only [hb2] at hput; cases hput
      | true =>
        simp only [hb2] at hput; cases hput
        have hj : j = os.length := Nat.eq_of_beq_eq_true hb2
        have hputF : putF (fn k) v (nf c vs) = nf c (vs ++ [v]) := put_new hk _ _ (fs_lt c) (by rw [e, hl, hj])
        refine ⟨v0, a, dx, vs, h1, h2, y1, y2.at e, fun o1 ho1 => ?_, ?_⟩
        · have ho1' : os[j]? = some o1 := ho1
          rw [hj] at ho1'
          simp at ho1'
        · have y3' : RepOs K cl (upd H a (.ins (cl c) dx (putF (fn k) v (nf c vs)))) G os vs fq := RepOs.frame (Same.refl _) _ _ _ (fun b hb u hu => upd_off (fqn b hb) hu) y3
          obtain ⟨fq', t1, t2⟩ := RepOs.snoc (RepO.frame (Same.refl _) _ _ _ (fun b hb u hu => upd_off (fun z => az (by rw [← z]; exact hb)) hu) hv) y3' zx
          have ia : a ∉ fq' := fun z => by
            rcases t2 a z with y | y
            · exact y4 y
            · exact az y
          refine h6 _ G (.obj c (os ++ [o])) (a :: fq') (Same.refl _) gk others (fun b _ q => q) ?_ (fun b hb => ?_) (fun b hb => ?_)
          · unfold RepO
            refine ⟨a, dx, vs ++ [v], fq', rfl, rfl, by rw [upd_same, hputF], ⟨?_, y2.2⟩, t1, ia⟩
            have := ixOf_lt e
            simp only [List.length_append, List.length_cons, List.length_nil]
            omega
          · rcases List.mem_cons.mp hb with rfl | hb
            · exact .inl List.mem_cons_self
            · rcases t2 b hb with y | y
              · exact .inl (List.mem_cons_of_mem _ y)
              · exact .inr (.inl y)
          · rcases List.mem_cons.mp hb with rfl | hb
            · exact ga
            · rcases t2 b hb with y | y
              · exact h4 b (List.mem_cons_of_mem _ y)
              · exact r.xn b y
end
section
variable {X : Cx} {cl : Nat → Addr} {W : WX} {a b c e : Expr} {es : List Expr} {fa fb fc : EX} {qa qb qc : QX} {ta tb : TX} {ga : AX} {na : NX} {xa : XX} {pos p : Pos} {x : Str} {st : Stmt} {sts sts2 : List Stmt} {s t : SX} {g : GX} {gs : GXs}
def setF (i : Nat) (p : List Nat) (k : Nat) (xa : XX) : SX := fun env kk => xa env (fun o env2 => match ownP env2 i p with
  | some (.obj c os) => match putO c k os o with
    | some os' => kk.nx (setP env2 i p (.obj c os'))
    | none => False
  | _ => False) kk.ex
theorem ms_setF (k : Nat) {o value : Expr} {f : Str} {i : Nat} {pl : List Nat} {pos' : Pos} (ho : MP X o i pl) (hv : MX X cl W value xa) (hf : fn k = f := by rfl) (hk : Nat.blt k 38 = true := by rfl) (hp : fld38 pl = true := by rfl) (hs : swapsWith value (some (.Attribute o f pos')) pos.line X.env = pure false := by rfl) :
    MS X cl W (.Assign [.Attribute o f pos'] value pos) (setF i pl k xa) := by
  refine ⟨fun env kk kk' l q => hv.mo _ _ _ _ _ (fun o e z => ?_) l.ex q, PSmono (ps_fld ho hv.pe hs) fun D σ H ⟨β, G, env, r0, q⟩ => ?_⟩
  · split at z
    · split at z
      · exact l.nx _ z
      · exact z.elim
    · exact z.elim
  · refine ⟨β, G, env, r0, hv.mo _ _ _ _ _ (fun o e z v H' G' X' r' gg ro => ?_) (fun _ z => z) q⟩
    split at z
    · rename_i c os hown
      split at z
      · rename_i os' hput
        subst hf
        obtain ⟨v0, a, dx, vs, y1, y2, y3, y4, _, y6⟩ := fld_write r' (fld38_out hp) (Nat.le_of_ble_eq_true hk) hown ro hput
        exact ⟨v0, .ref a, y1, y2, a, cl c, dx, _, rfl, y3, y4.1, y4.2, nf_len, z _ _ G' y6 gg⟩
      · exact z.elim
    · exact z.elim
def augF (i : Nat) (p : List Nat) (k : Nat) (gg : OV → OV → (MV → Prop) → Prop) (qa : QX) : SX := fun env kk => match ownP env i p with
  | some (.obj c os) => match ixOf (fsOf c) k with
    | some j => match os[j]? with
      | some (.fro m) => qa env fun n => gg (.fro m) n fun r => match putO c k os (.fro r) with
        | some os' => kk.nx (setP env i p (.obj c os'))
        | none => False
      | _ => False
    | none => False
  | _ => False
theorem ms_augF (k : Nat) {op : Operator} {gg : OV → OV → (MV → Prop) → Prop} (hg : GI X cl op gg) {o value : Expr} {f : Str} {i : Nat} {pl : List Nat} {tpos : Pos} (ho : MP X o i pl) (hv : MQ X cl value qa) (hf : fn k = f := by rfl) (hk : Nat.blt k 38 = true := by rfl) (hp : fld38 pl = true := by rfl) :
    MS X cl W (.AugAssign (.Attribute o f tpos) op value pos) (augF i pl k gg qa) := by
  obtain ⟨rr, hop, h⟩ := hg.ex
  refine ⟨fun env kk kk' l q => ?_, PSmono (ps_fldaug ho hv.pe (fun pins s σ H x y u v Q I rx ry q => hop pins s σ H x y u v Q I rx ry q)) fun D σ H ⟨β, G, env, r0, q⟩ => ?_⟩
  · unfold augF at q ⊢
    split at q
    · split at q
      · split at q
        · refine hv.mo _ _ _ (fun n z => hg.mo _ _ _ _ (fun r w => ?_) z) q
          split at w
          · exact l.nx _ w
          · exact w.elim
        · exact q.elim
      · exact q.elim
    · exact q.elim
  · unfold augF at q
    split at q
    · rename_i c os hown
      split at q
      · rename_i j hj
        split at q
        · rename_i m hm
          subst hf
          have hk' := Nat.le_of_ble_eq_true hk
          have hjl : j < os.length := (List.getElem?_eq_some_iff.mp hm).1
          have hput : ∀ r, putO c k os (.fro r) = some (os.set j (.fro r)) := fun r => by
            unfold putO
            rw [hj]
            have : Nat.blt j os.length = true := Nat.ble_eq_true_of_le hjl
            simp only [this]
          obtain ⟨v0, a, dx, vs, y1, y2, y3, y4, y5, _⟩ := fld_write (Z := []) r0 (fld38_out hp) hk' hown (show RepO X.K cl H G (.fro .non) .non [] from rn) (hput _)
          obtain ⟨u, fu, z1, z2⟩ := y5 (.fro m) (by rw [hj]; exact hm)
          unfold RepO at z2
          refine ⟨v0, .ref a, y1, y2, a, cl c, dx, _, u, rfl, y3, y4.1, y4.2, z1, β, G, env, r0, hv.mo _ _ _ (fun n z w H' G' e rw => ?_) q⟩
          refine h m n u w H' G' _ e.gh (Rep.same e.gg _ _ z2.2) rw (hg.mo _ _ _ _ (fun r w' v' H2 G2 e2 r3 => ?_) z)
          have r2 := (r0.ext e).ext e2
          rw [hput r] at w'
          obtain ⟨v0', a', dx', vs', x1, x2, x3, x4, _, x6⟩ := fld_write (Z := []) r2 (fld38_out hp) hk' hown (show RepO X.K cl H2 G2 (.fro r) v' [] by unfold RepO; exact ⟨rfl, r3⟩) (hput r)
          rw [y1] at x1; cases x1
          have := PAt.uniq (PAt.same (e.hh.trans e2.hh) y2) x2
          cases this
          exact ⟨dx', _, x3, nf_len, w' _ _ G2 x6 (e.gg.trans e2.gg)⟩
        · exact q.elim
      · exact q.elim
    · exact q.elim
/-! ### calls that change what is lent -/
def xCall (n : Nat) (F : FX) (ga : AX) : XX := fun env Q _ => ga env fun as => match arSlots env as with
  | some ss => (arOk (muS as) as && Nat.beq as.length n) = true ∧ F ss (fun o env' => match backE env as env' with
    | some env2 => Q o env2
    | none => False) (fun _ => False)
  | none => False
theorem xCall_mo {n : Nat} {F : FX} {ga : AX} (hg : ∀ env (Q Q' : List Ar → Prop), (∀ m, Q m → Q' m) → ga env Q → ga env Q') (hF : FMono F) : ∀ env (Q Q' : OV → Env → Prop) (E E' : Int → Prop), (∀ o e, Q o e → Q' o e) → (∀ n, E n → E' n) → xCall n F ga env Q E → xCall n F ga env Q' E' := fun env Q Q' E E' k _ q => hg _ _ _ (fun as z => by
  cases h : arSlots env as with
  | none => rw [h] at z; exact z
  | some ss =>
    rw [h] at z
    refine ⟨z.1, hF _ _ _ _ _ (fun o e w => ?_) (fun _ w => w) z.2⟩
    split at w
    · exact k _ _ w
    · exact w.elim) q
theorem xCall_in {n : Nat} {F : FX} (mo : FMono F) {σ : L2.St} {β : Bs} {H G H' G' : Hp} {env : Env} {as : List Ar} {vs : List V} {Q : VK} (r0 : R X.K cl β σ H G env []) (e : Ext H G H' G') (rs : ArReps X.K cl σ H' G' as vs)
    (z : match arSlots env as with
      | some ss => (arOk (muS as) as && Nat.beq as.length n) = true ∧ F ss (fun o env' => match backE env as env' with
        | some env2 => ∀ v H' G' X_, R X.K cl β σ H' G' env2 X_ → Same G G' → RepO X.K cl H' G' o v X_ → Q v H'
        | none => False) (fun _ => False)
      | none => False) : sp0 X.K cl n F vs H' Q E0 := by
  cases h : arSlots env as with
  | none => rw [h] at z; exact z.elim
  | some ss =>
    rw [h] at z
    have z1 := z.1
    rw [Bool.and_eq_true] at z1
    obtain ⟨Fl, r1, back, _⟩ := (r0.ext e).callF rs h z1.1
    refine ⟨by rw [rs.len]; exact Nat.eq_of_beq_eq_true z1.2, G', Fl, ss, r1, mo _ _ _ _ _ (fun o env' w v σ' H2 G2 X2 r2 ro => ?_) (fun _ w => w) z.2⟩
    split at w
    · rename_i env2 hb
      exact w v H2 G2 X2 (back _ _ _ _ _ _ r2 hb) (e.gg.trans r2.g0) ro
    · exact w.elim
theorem mx_call {k n : Nat} {f : Addr} {F : FX} (hF : FB X.prog X.w X.K X.mg X.base cl k n f F) (hr : Room k X.A) (gl : Gl X x) (hm : X.mg x = some (.ref f)) (hk : PySem.W.keepIn X.K (.ref f) = true) (ha : MA X cl (e :: es) ga) (hdb : (x == ("__debug__" : Str)) = false := by decide)
    (he : starEach (e :: es) X.env = (false, eval e X.env) :: starEach es X.env := by rfl) (hpl : (backTo pos (starEach es X.env)).any (·.1) = false := by rfl) : MX X cl W (.Call (.Name x p) (e :: es) [] pos) (xCall n F ga) := by
  obtain ⟨fd, ps, F0, hb⟩ := hF.ex
  refine ⟨xCall_mo ha.mo (hF.mo X.A hr), PEmono (pe_call (E := E0) F0 hr gl hm hk hb .nil pass0 ha.pa hdb he hpl) fun σ H Q ⟨β, G, env, r0, q⟩ => ?_⟩
  refine ⟨β, G, env, r0, ha.mo _ _ _ (fun as z vs H' G' e rs => ?_) q⟩
  simp only [List.append_nil]
  exact xCall_in (hF.mo X.A hr) r0 e rs z
theorem mx_meth {k n : Nat} {f : Addr} {F : FX} {rx : RX} {o : Expr} {m : Str} {apos : Pos} {pl : Sem Bool} (c : Nat) (hF : FB X.prog X.w X.K X.mg X.base cl k n f F) (hr : Room k X.A) (hx : MR X cl o rx) (hC : Cls X.K (cl c)) (hM : Meth X.K (cl c) m f) (hno : ∀ f ∈ fsOf c, fn f ≠ m) (ha : MA X cl (e :: es) ga)
    (hst : starEach (e :: es) X.env = (false, eval e X.env) :: starEach es X.env := by rfl) (hpl : (backTo pos (starEach es X.env)).any (·.1) = false := by rfl)
    (ht : eval (.Call (.Attribute o m apos) (e :: es) [] pos) X.env = (do
      let ov ← eval o X.env
      standAt apos.atName
      let (f, first) ← holding [ov] (getMethod ov m pl)
      callWith pos f first (backTo pos (starEach (e :: es) X.env)) (backToKw pos (keywordEach [] X.env))) := by rfl) : MX X cl W (.Call (.Attribute o m apos) (e :: es) [] pos) (xCall n F (rcG c rx ga)) := by
  obtain ⟨fd, ps, F0, hb⟩ := hF.ex
  refine ⟨xCall_mo (rcG_mo hx.mo ha.mo) (hF.mo X.A hr), PEmono (pe_meth (E := E0) hx.pe hC hM F0 hr hb .nil pass0 ha.pa hst hpl ht) fun σ H Q ⟨β, G, env, r0, q⟩ => ?_⟩
  exact meth_in (n := n) hx ha hno r0 (rcG_mo hx.mo ha.mo _ _ _ (fun as z vs H' G' e rs => xCall_in (hF.mo X.A hr) r0 e rs z) q)
theorem mx_meth0 {k n : Nat} {f : Addr} {F : FX} {rx : RX} {o : Expr} {m : Str} {apos : Pos} {pl : Sem Bool} (c : Nat) (hF : FB X.prog X.w X.K X.mg X.base cl k n f F) (hr : Room k X.A) (hx : MR X cl o rx) (hC : Cls X.K (cl c)) (hM : Meth X.K (cl c) m f) (hno : ∀ f ∈ fsOf c, fn f ≠ m)
    (ht : eval (.Call (.Attribute o m apos) [] [] pos) X.env = (do
      let ov ← eval o X.env
      standAt apos.atName
      let (f, first) ← holding [ov] (getMethod ov m pl)
      callWith pos f first (backTo pos (starEach [] X.env)) (backToKw pos (keywordEach [] X.env))) := by rfl) : MX X cl W (.Call (.Attribute o m apos) [] [] pos) (xCall n F (rcG c rx aN)) := by
  obtain ⟨fd, ps, F0, hb⟩ := hF.ex
  have ha : MA X cl [] aN := ma_nil
  refine ⟨xCall_mo (rcG_mo hx.mo ha.mo) (hF.mo X.A hr), PEmono (pe_meth0 (E := E0) hx.pe hC hM F0 hr hb .nil pass0 ht) fun σ H Q ⟨β, G, env, r0, q⟩ => ?_⟩
  obtain ⟨β', G', env', r1, q1⟩ := meth_in (n := n) (sp := sp0 X.K cl n F) (E := E0) hx ha hno r0 (rcG_mo hx.mo ha.mo _ _ _ (fun as z vs H' G' e rs => xCall_in (hF.mo X.A hr) r0 e rs z) q)
  refine ⟨β', G', env', r1, hx.mo _ _ _ (fun r z v H2 G2 e2 rr => ?_) q1⟩
  obtain ⟨a, dx, fs, h1, h2, h3, β3, G3, env3, r3, h4⟩ := z v H2 G2 e2 rr
  exact ⟨a, dx, fs, h1, h2, h3, h4 [] H2 G3 (Ext.refl r3.gh) rfl⟩
/-! tests and comparisons with a call that changes -/
def uX (xa : XX) : UX := fun env Q E => xa env (fun o env2 => truQ o fun k => Q k env2) E
theorem mu_x (ha : MX X cl W a xa) (he : ∀ whole, isTrue a X.env whole = (do let v ← whole; standAt a.pos; holding [v] (truthy v)) := by intro _; rfl) : MU X cl W a (uX xa) := by
  refine ⟨fun env Q Q' E E' k ke q => ha.mo _ _ _ _ _ (fun o e z => truQ_mo (fun b w => k _ _ w) z) ke q, PTmono (pt_truth ha.pe he) fun σ H Q ⟨β, G, env, r0, q⟩ => ?_⟩
  refine ⟨β, G, env, r0, ha.mo _ _ _ _ _ (fun o e z v H' G' X' r' gg ro => ?_) (fun _ z => z) q⟩
  obtain ⟨k, h1, h2⟩ := truQ_rep r'.gh z (RepO.b _ _ _ ro)
  exact ⟨k, h1, h2 H' G' r'.drop gg⟩
def uNot (u : UX) : UX := fun env Q E => u env (fun k e => Q (!k) e) E
theorem mu_not {u : UX} (ha : MU X cl W a u) : MU X cl W (.UnaryOp .Not a pos) (uNot u) :=
  ⟨fun env Q Q' E E' k ke q => ha.mo _ _ _ _ _ (fun b e z => k _ _ z) ke q, PTmono (pt_not ha.pt) fun σ H Q ⟨β, G, env, r0, q⟩ => ⟨β, G, env, r0, q⟩⟩
end
end C
namespace C
open PySem PySem.Spec PyProof.Rows L2
section
variable {X : Cx} {cl : Nat → Addr} {W : WX} {a b c e : Expr} {es : List Expr} {fa fb fc : EX} {qa qb qc : QX} {ta tb : TX} {ga : AX} {na : NX} {xa : XX} {pos p : Pos} {x : Str} {st : Stmt} {sts sts2 : List Stmt} {s t : SX} {g : GX} {gs : GXs}
/-! ### what is walked: a list, a tuple or a text -/
def iAny (K : PySem.W.Frag) (te : TE) : TI := fun σ H R => te σ H fun v H1 => (∃ a, v = .ref a ∧ (∃ xs, SqL K H1 a xs) ∧ R (Itl K a) H1) ∨ (∃ a, v = .ref a ∧ (∃ xs, SqT K H1 a xs) ∧ R (Itt K a) H1) ∨ (∃ z, v = .str z ∧ R (Its z) H1)
theorem pi_any {tg l : Expr} {te : TE} (he : PE X l te) : PI X tg l (iAny X.K te) := by
  refine ⟨fun pins s σ H R I h => ?_⟩
  refine thn (he.run pins s σ H _ I h) fun v s1 ⟨y, H1, I1, r1, q1⟩ => ?_
  rcases q1 with ⟨a, e, ⟨xs, hq⟩, q⟩ | ⟨a, e, ⟨xs, hq⟩, q⟩ | ⟨z, ez, q⟩
  · subst e
    cases r1
    obtain ⟨its, rv, p, hz⟩ := I1.list hq
    refine wpAny_pyIter_list p.isList ?_
    exact pi_one (tk := s1.toks) I1 _ (turn_list a _) ⟨_, Heap.get?_push_size _ rfl, rfl, rfl⟩ q
  · subst e
    cases r1
    obtain ⟨its, rv, p, hz⟩ := I1.tuple hq
    refine wpAny_pyIter_tuple (show s1.heap.IsTuple a its.toArray from p) ?_
    exact pi_one (tk := s1.toks) I1 _ (turn_tuple a _) ⟨_, Heap.get?_push_size _ rfl, rfl, rfl⟩ q
  · subst ez
    obtain ⟨t, rfl⟩ := r1
    cases ha : z.cps.all (· < 128)
    · exact wpAny_pyIter_wide ha (pi_one (tk := s1.toks) I1 _ (turn_str _ z t "str_iterator" (.inr rfl)) ⟨_, Heap.get?_push_size _ rfl, rfl, rfl⟩ q)
    · exact wpAny_pyIter_ascii ha (pi_one (tk := s1.toks) I1 _ (turn_str _ z t "str_ascii_iterator" (.inl rfl)) ⟨_, Heap.get?_push_size _ rfl, rfl, rfl⟩ q)
/-- a text's signs -/
def chM (z : Str) : List MV := z.cps.toList.map fun c => .str ⟨#[c]⟩
theorem it_str {K : PySem.W.Frag} {G KH : Hp} {z : Str} : ItOk K cl (Its z) (chM z) G KH := by
  have l : (chM z).length = z.cps.size := by unfold chM; simp
  refine ⟨(fun i H v H' => H' = H ∧ ∃ c, z.cps[i]? = some c ∧ v = .str ⟨#[c]⟩), ?_, fun i H G1 x H' hi hk hg hh y => ?_⟩
  · rw [l]
    exact (walk_str (z := z)).mono (fun _ _ => trivial) fun i H x H' _ _ y => y
  · obtain ⟨rfl, ch, hc, rfl⟩ := y
    refine ⟨G1, .str ⟨#[ch]⟩, Ext.refl hh, ?_, by unfold Rep; rfl⟩
    unfold chM
    rw [List.getElem?_map, Array.getElem?_toList, hc]; rfl
def asLT (o : OV) (Q : List MV → Prop) : Prop := match o with
  | .fro (.lst ms) => Q ms
  | .fro (.tup ms) => Q ms
  | .fro (.str z) => Q (chM z)
  | .lst ms => Q ms
  | _ => False
theorem asLT_mo {o : OV} {Q Q' : List MV → Prop} (k : ∀ ms, Q ms → Q' ms) (q : asLT o Q) : asLT o Q' := by
  unfold asLT at q ⊢
  split at q <;> first | exact k _ q | exact q.elim
def lA (qa : QX) : LX := fun env Q => qa env fun o => asLT o Q
theorem mj_any {tg : Expr} (h : MQ X cl a qa) : MJ X cl tg a (lA qa) := by
  refine ⟨fun env Q Q' k q => h.mo _ _ _ (fun m z => asLT_mo k z) q, PImono (pi_any h.pe) fun σ H Q ⟨β, G, env, r0, q⟩ => ⟨β, G, env, r0, h.mo _ _ _ (fun o z v H' G' e rv => ?_) q⟩⟩
  unfold asLT at z
  split at z
  · unfold RepB Rep at rv
    obtain ⟨p, vs, rfl, y1, y2⟩ := rv
    exact .inl ⟨p, rfl, ⟨vs, SqL.of (e.gh _ _ y1)⟩, z _ H' G' H' e (Same.refl _) (it_list (e.gh _ _ y1) y2)⟩
  · unfold RepB Rep at rv
    obtain ⟨p, vs, rfl, y1, y2⟩ := rv
    exact .inr (.inl ⟨p, rfl, ⟨vs, sqT_same e.gh y1⟩, z _ H' G' H' e (Same.refl _) (it_tup (sqT_same e.gh y1) y2)⟩)
  · unfold RepB Rep at rv
    subst rv
    exact .inr (.inr ⟨_, rfl, z _ H' G' H' e (Same.refl _) it_str⟩)
  · unfold RepB at rv
    obtain ⟨p, vs, rfl, y1, y2⟩ := rv
    exact .inl ⟨p, rfl, ⟨vs, SqL.of y1⟩, z _ H' G' H' e (Same.refl _) (it_list y1 y2)⟩
  · exact z.elim
def asLM (m : MV) (Q : List MV → Prop) : Prop := match m with
  | .lst ms => Q ms
  | .tup ms => Q ms
  | .str z => Q (chM z)
  | _ => False
theorem asLM_mo {o : MV} {Q Q' : List MV → Prop} (k : ∀ ms, Q ms → Q' ms) (q : asLM o Q) : asLM o Q' := by
  unfold asLM at q ⊢
  split at q <;> first | exact k _ q | exact q.elim
def lW (fa : EX) : LX := fun env Q => fa env fun m => asLM m Q
theorem mi_any {tg : Expr} (h : ME X cl a fa) : MI X cl tg a (lW fa) := by
  refine ⟨fun env Q Q' k q => h.mo _ _ _ (fun m z => asLM_mo k z) q, PImono (pi_any h.pe) fun σ H Q ⟨β, G, env, r0, q⟩ => ⟨β, G, env, r0, h.mo _ _ _ (fun m z v H' G' e rv => ?_) q⟩⟩
  unfold asLM at z
  split at z
  · unfold Rep at rv
    obtain ⟨p, vs, rfl, y1, y2⟩ := rv
    exact .inl ⟨p, rfl, ⟨vs, SqL.of (e.gh _ _ y1)⟩, z _ H' G' G' e (Same.refl _) (it_list y1 y2)⟩
  · unfold Rep at rv
    obtain ⟨p, vs, rfl, y1, y2⟩ := rv
    exact .inr (.inl ⟨p, rfl, ⟨vs, sqT_same e.gh y1⟩, z _ H' G' G' e (Same.refl _) (it_tup y1 y2)⟩)
  · unfold Rep at rv
    subst rv
    exact .inr (.inr ⟨_, rfl, z _ H' G' G' e (Same.refl _) it_str⟩)
  · exact z.elim
/-! ### three names at once -/
def par3 (i j l : Nat) (ga : AX) : SX := fun env k => ga env fun as => match as with
  | [.v m, .v n, .v o] => match setE env i (.fro m) with
    | some e1 => match setE e1 j (.fro n) with
      | some e2 => match setE e2 l (.fro o) with
        | some e3 => k.nx e3
        | none => False
      | none => False
    | none => False
  | _ => False
theorem ms_par3 (i j l : Nat) {y w : Str} {px py pz pt : Pos} {kt k2 pt2} (hc : X.calm = true) (hN : X.N.Nodup) (ha : MA X cl [a, b, c] ga) (hw : swappedStores [.Tuple [.Name x px, .Name y py, .Name w pz] kt pt] (.Tuple [a, b, c] k2 pt2) X.env = pure (some [x, y, w])) (hi : X.N[i]? = some x := by rfl) (hj : X.N[j]? = some y := by rfl) (hl : X.N[l]? = some w := by rfl) (hij : i ≠ j := by decide) (hil : i ≠ l := by decide) (hjl : j ≠ l := by decide)
    (hx : X.env.scope.names.lookup x = some .local := by rfl) (hy : X.env.scope.names.lookup y = some .local := by rfl) (hz : X.env.scope.names.lookup w = some .local := by rfl)
    (hs : swapsWithSole [.Tuple [.Name x px, .Name y py, .Name w pz] kt pt] (.Tuple [a, b, c] k2 pt2) pos.line X.env = pure false := by rfl) : MS X cl W (.Assign [.Tuple [.Name x px, .Name y py, .Name w pz] kt pt] (.Tuple [a, b, c] k2 pt2) pos) (par3 i j l ga) := by
  refine ⟨fun env k k' l q => ha.mo _ _ _ (fun as z => ?_) q, PSmono (ps_par3 hc hN hi hj hl hij hil hjl hx hy hz ha.pa hw hs) fun D σ H ⟨β, G, env, r0, q⟩ => ⟨β, G, env, r0, ha.mo _ _ _ (fun as z vs H' G' e rs => ?_) q⟩⟩
  · split at z
    · split at z
      · split at z
        · split at z
          · exact l.nx _ z
          · exact z.elim
        · exact z.elim
      · exact z.elim
    · exact z.elim
  · split at z
    · rename_i m n o
      unfold ArReps at rs
      obtain ⟨v, ws, rfl, y1, y2⟩ := rs
      unfold ArReps at y2
      obtain ⟨w, ws, rfl, y3, y4⟩ := y2
      unfold ArReps at y4
      obtain ⟨u, ws, rfl, y5, y6⟩ := y4
      unfold ArReps at y6
      subst y6
      have y1' : Rep X.K cl G' m v := y1
      have y3' : Rep X.K cl G' n w := y3
      have y5' : Rep X.K cl G' o u := y5
      refine ⟨v, w, u, rfl, ?_⟩
      cases h : setE env i (.fro m) with
      | none => rw [h] at z; exact z.elim
      | some e1 =>
        rw [h] at z
        cases h2 : setE e1 j (.fro n) with
        | none => simp only [h2] at z
        | some e2 =>
          simp only [h2] at z
          cases h3 : setE e2 l (.fro o) with
          | none => simp only [h3] at z
          | some e3 =>
            simp only [h3] at z
            obtain ⟨t1, rfl⟩ := setE_out h
            obtain ⟨t2, rfl⟩ := setE_out h2
            obtain ⟨t3, rfl⟩ := setE_out h3
            exact z _ H' G' ((((r0.ext e).setv t1 (by unfold RepO; exact ⟨rfl, y1'⟩)).setv t2 (by unfold RepO; exact ⟨rfl, y3'⟩)).setv t3 (by unfold RepO; exact ⟨rfl, y5'⟩)) e.gg
    · exact z.elim
/-! an if whose ends are joined -/
inductive ifJ (t : UX) (s u : SX) (env : Env) (k : KK) : Prop where
  | mk (h : ifS t s u env k) : ifJ t s u env k
theorem ifJ_eq {t : UX} {s u : SX} : ifJ t s u = ifS t s u := funext fun _ => funext fun _ => propext ⟨fun h => match h with | .mk h => h, .mk⟩
theorem ms_ifJ {t : UX} {s u : SX} (hc : MU X cl W c t) (h1 : MSs X cl W sts s) (h2 : MSs X cl W sts2 u) : MS X cl W (.If c sts sts2 pos) (ifJ t s u) := by
  rw [ifJ_eq]
  exact ms_if hc h1 h2
theorem if_join {t : UX} {s u : SX} {env : Env} {k : KK} (J : Env → Prop) (h : ∀ N : Env → Prop, (∀ e, J e → N e) → ifS t s u env { k with nx := N }) (h2 : ∀ e, J e → k.nx e) : ifJ t s u env k := .mk (h _ h2)
theorem if_go {t : UX} {s u : SX} {env : Env} {k : KK} (h : ifS t s u env k) : ifJ t s u env k := .mk h
/-! a power of two literals -/
theorem m_powK {i j n : Int} {fk : EX} (h : ME X cl e fk) (hf : ∀ env Q, fk env Q = (CPow i j ∧ Q (.int (i ^ j.toNat))) := by intro _ _; rfl) (hn : i ^ j.toNat = n := by decide) (hc : CPow i j := by exact ⟨by decide, by decide, by decide⟩) : ME X cl e (eK (.int n)) :=
  ⟨fun env Q Q' k q => k _ q, PEmono h.pe fun σ H Q ⟨β, G, env, r0, q⟩ => ⟨β, G, env, r0, by rw [hf]; subst hn; exact ⟨hc, q⟩⟩⟩
/-! one after another, the names' row written out in between -/
def forceL : Env → (Env → Prop) → Prop
  | [], k => k []
  | a :: as, k => forceL as fun as' => k (a :: as')
theorem forceL_eq : ∀ (l : Env) (k : Env → Prop), forceL l k = k l
  | [], k => rfl
  | a :: as, k => by
    unfold forceL
    rw [forceL_eq as]
def sqF (s t : SX) : SX := fun env k => s env { k with nx := fun env' => forceL env' fun e => t e k }
theorem sqF_eq : sqF s t = sq s t := by
  funext env k
  unfold sqF sq
  congr
  funext e
  rw [forceL_eq]
theorem mss_consF (h1 : MS X cl W st s) (h2 : MSs X cl W sts t) : MSs X cl W (st :: sts) (sqF s t) := by
  rw [sqF_eq]
  exact mss_cons h1 h2
end
end C
namespace C
open PySem PySem.Spec PyProof.Rows L2
/-! ### == of nested numbers and texts -/
def Pl : Nat → MV → Prop
  | _, .non => True
  | _, .int _ => True
  | _, .str x => PyData.canLay0 (.str x) = true
  | k + 1, .tup ms => ∀ m ∈ ms, Pl k m
  | k + 1, .lst ms => ∀ m ∈ ms, Pl k m
  | _, _ => False
theorem pl_all {k : Nat} (ih : ∀ m, Pl k m → ∃ d, toD m = some d ∧ d.canLay0 = true ∧ d.depth ≤ k ∧ ∀ j n e, Pl j n → toD n = some e → (PyData.eqv d e = true ↔ m = n)) :
    ∀ ms : List MV, (∀ m ∈ ms, Pl k m) → ∃ ds, toDs ms = some ds ∧ PyData.canLayAll0 ds = true ∧ PyData.depthAll ds ≤ k ∧ ∀ j ns es, (∀ n ∈ ns, Pl j n) → toDs ns = some es → (PyData.eqvAll ds es = true ↔ ms = ns)
  | [], _ => ⟨[], by unfold toDs; rfl, by unfold PyData.canLayAll0; rfl, by unfold PyData.depthAll; omega, fun j ns es hn he => by
    cases ns with
    | nil => unfold toDs at he; cases he; unfold PyData.eqvAll; simp
    | cons n ns =>
      unfold toDs at he
      split at he
      · split at he
        · cases he; unfold PyData.eqvAll; simp
        · cases he
      · cases he⟩
  | m :: ms, h => by
    obtain ⟨d, h1, h2, h3, h4⟩ := ih m (h m List.mem_cons_self)
    obtain ⟨ds, g1, g2, g3, g4⟩ := pl_all ih ms fun x hx => h x (List.mem_cons_of_mem _ hx)
    refine ⟨d :: ds, by unfold toDs; rw [h1, g1], by unfold PyData.canLayAll0; rw [h2, g2]; rfl, by unfold PyData.depthAll; omega, fun j ns es hn he => ?_⟩
    cases ns with
    | nil => unfold toDs at he; cases he; unfold PyData.eqvAll; simp
    | cons n ns =>
      unfold toDs at he
      split at he
      · rename_i e1 q1
        split at he
        · rename_i es1 q2
          cases he
          unfold PyData.eqvAll
          rw [Bool.and_eq_true, h4 j n e1 (hn n List.mem_cons_self) q1, g4 j ns es1 (fun x hx => hn x (List.mem_cons_of_mem _ hx)) q2]
          simp
        · cases he
      · cases he
theorem toD_kind : ∀ (n : MV) (e : PyData), toD n = some e → (n = .non ∧ e = .none) ∨ (∃ b, n = .bl b ∧ e = .bool b) ∨ (∃ i, n = .int i ∧ e = .int i) ∨ (∃ x, n = .str x ∧ e = .str x) ∨ (∃ ns es, n = .lst ns ∧ e = .list es ∧ toDs ns = some es) ∨ (∃ ns es, n = .tup ns ∧ e = .tuple es ∧ toDs ns = some es) := by
  intro n e h
  cases n with
  | non => unfold toD at h; cases h; exact .inl ⟨rfl, rfl⟩
  | bl b => unfold toD at h; cases h; exact .inr (.inl ⟨_, rfl, rfl⟩)
  | int i => unfold toD at h; cases h; exact .inr (.inr (.inl ⟨_, rfl, rfl⟩))
  | str x => unfold toD at h; cases h; exact .inr (.inr (.inr (.inl ⟨_, rfl, rfl⟩)))
  | lst ns =>
    unfold toD at h
    split at h
    · rename_i ds q; cases h; exact .inr (.inr (.inr (.inr (.inl ⟨_, _, rfl, rfl, q⟩))))
    · cases h
  | tup ns =>
    unfold toD at h
    split at h
    · rename_i ds q; cases h; exact .inr (.inr (.inr (.inr (.inr ⟨_, _, rfl, rfl, q⟩))))
    · cases h
  | obj c os => unfold toD at h; cases h
theorem pl_kids {j : Nat} {ns : List MV} (h : Pl j (.lst ns) ∨ Pl j (.tup ns)) : ∃ i, ∀ n ∈ ns, Pl i n := by
  cases j with
  | zero => rcases h with h | h <;> exact absurd h (by unfold Pl; exact fun z => z)
  | succ j =>
    rcases h with h | h
    · unfold Pl at h; exact ⟨j, h⟩
    · unfold Pl at h; exact ⟨j, h⟩
theorem pl_one : ∀ (k : Nat) (m : MV), Pl k m → ∃ d, toD m = some d ∧ d.canLay0 = true ∧ d.depth ≤ k ∧ ∀ j n e, Pl j n → toD n = some e → (PyData.eqv d e = true ↔ m = n) := by
  intro k
  induction k with
  | zero =>
    intro m hm
    cases m with
    | non =>
      refine ⟨.none, by unfold toD; rfl, by unfold PyData.canLay0; rfl, by unfold PyData.depth; omega, fun j n e hn he => ?_⟩
      rcases toD_kind n e he with ⟨rfl, rfl⟩ | ⟨_, rfl, rfl⟩ | ⟨_, rfl, rfl⟩ | ⟨_, rfl, rfl⟩ | ⟨_, _, rfl, rfl, _⟩ | ⟨_, _, rfl, rfl, _⟩ <;> unfold PyData.eqv <;> simp
    | int i =>
      refine ⟨.int i, by unfold toD; rfl, by unfold PyData.canLay0; rfl, by unfold PyData.depth; omega, fun j n e hn he => ?_⟩
      rcases toD_kind n e he with ⟨rfl, rfl⟩ | ⟨_, rfl, rfl⟩ | ⟨_, rfl, rfl⟩ | ⟨_, rfl, rfl⟩ | ⟨_, _, rfl, rfl, _⟩ | ⟨_, _, rfl, rfl, _⟩ <;> first | (unfold PyData.eqv; simp; done) | (cases j <;> exact absurd hn (by unfold Pl; exact fun z => z))
    | str x =>
      have hx : PyData.canLay0 (.str x) = true := by unfold Pl at hm; exact hm
      refine ⟨.str x, by unfold toD; rfl, hx, by unfold PyData.depth; omega, fun j n e hn he => ?_⟩
      rcases toD_kind n e he with ⟨rfl, rfl⟩ | ⟨_, rfl, rfl⟩ | ⟨_, rfl, rfl⟩ | ⟨_, rfl, rfl⟩ | ⟨_, _, rfl, rfl, _⟩ | ⟨_, _, rfl, rfl, _⟩ <;> unfold PyData.eqv <;> simp
    | bl b => exact absurd hm (by unfold Pl; exact fun z => z)
    | lst ms => exact absurd hm (by unfold Pl; exact fun z => z)
    | tup ms => exact absurd hm (by unfold Pl; exact fun z => z)
    | obj c os => exact absurd hm (by unfold Pl; exact fun z => z)
  | succ k ih =>
    intro m hm
    cases m with
    | non =>
      obtain ⟨d, h1, h2, h3, h4⟩ := ih .non (by unfold Pl; trivial)
      exact ⟨d, h1, h2, by omega, h4⟩
    | int i =>
      obtain ⟨d, h1, h2, h3, h4⟩ := ih (.int i) (by unfold Pl; trivial)
      exact ⟨d, h1, h2, by omega, h4⟩
    | str x =>
      obtain ⟨d, h1, h2, h3, h4⟩ := ih (.str x) (by unfold Pl at hm ⊢; exact hm)
      exact ⟨d, h1, h2, by omega, h4⟩
    | bl b => exact absurd hm (by unfold Pl; exact fun z => z)
    | obj c os => exact absurd hm (by unfold Pl; exact fun z => z)
    | lst ms =>
      have hm' : ∀ m ∈ ms, Pl k m := by unfold Pl at hm; exact hm
      obtain ⟨ds, g1, g2, g3, g4⟩ := pl_all ih ms hm'
      refine ⟨.list ds, by unfold toD; rw [g1], by unfold PyData.canLay0; exact g2, by unfold PyData.depth; omega, fun j n e hn he => ?_⟩
      rcases toD_kind n e he with ⟨rfl, rfl⟩ | ⟨_, rfl, rfl⟩ | ⟨_, rfl, rfl⟩ | ⟨_, rfl, rfl⟩ | ⟨ns, es, rfl, rfl, q⟩ | ⟨_, _, rfl, rfl, _⟩
      all_goals unfold PyData.eqv
      · simp
      · simp
      · simp
      · simp
      · obtain ⟨i, hi⟩ := pl_kids (.inl hn)
        rw [g4 i ns es hi q]
        simp
      · simp
    | tup ms =>
      have hm' : ∀ m ∈ ms, Pl k m := by unfold Pl at hm; exact hm
      obtain ⟨ds, g1, g2, g3, g4⟩ := pl_all ih ms hm'
      refine ⟨.tuple ds, by unfold toD; rw [g1], by unfold PyData.canLay0; exact g2, by unfold PyData.depth; omega, fun j n e hn he => ?_⟩
      rcases toD_kind n e he with ⟨rfl, rfl⟩ | ⟨_, rfl, rfl⟩ | ⟨_, rfl, rfl⟩ | ⟨_, rfl, rfl⟩ | ⟨_, _, rfl, rfl, _⟩ | ⟨ns, es, rfl, rfl, q⟩
      all_goals unfold PyData.eqv
      · simp
      · simp
      · simp
      · simp
      · simp
      · obtain ⟨i, hi⟩ := pl_kids (.inr hn)
        rw [g4 i ns es hi q]
        simp
/-- a value as it is compared -/
def asM : OV → MV
  | .fro m => m
  | .lst ms => .lst ms
  | _ => .bl true
theorem eqD_go {neg : Bool} {m n : OV} {Q : Bool → Prop} (hm : Pl 60 (asM m)) (hn : Pl 60 (asM n)) (q : eqQ neg (asM m = asM n) Q) : gEqD neg m n Q := by
  obtain ⟨d, h1, h2, h3, h4⟩ := pl_one _ _ hm
  obtain ⟨e, g1, g2, g3, _⟩ := pl_one _ _ hn
  have t : ∀ o, Pl 60 (asM o) → toDO o = toD (asM o) := fun o ho => by
    cases o with
    | fro m => rfl
    | lst ms => rfl
    | _ => exact absurd ho (by unfold asM Pl; exact fun z => z)
  refine .mk d e ((t m hm).trans h1) ((t n hn).trans g1) ⟨by unfold SeqAt.shaped; rw [h2]; simpa using (by omega : d.depth ≤ 64), by unfold SeqAt.shaped; rw [g2]; simpa using (by omega : e.depth ≤ 64)⟩ ?_
  rw [propext (h4 60 (asM n) e hn g1)]
  exact q
theorem pl_ints {k : Nat} (xs : List Int) : Pl (k + 1) (.lst (xs.map .int)) := by
  unfold Pl
  intro m hm
  obtain ⟨i, _, rfl⟩ := List.mem_map.mp hm
  unfold Pl
  trivial
end C
namespace C
open PySem PySem.Spec PyProof.Rows L2
theorem cdiv_of {i j : Int} (h : 0 < j) (h2 : j < 2 ^ 4000) : CDivW i j := by
  refine ⟨h, ?_⟩
  have : j.natAbs < 2 ^ 4000 := by omega
  have := PySem.Flt.log2_lt_of (by decide : 0 < 4000) this
  omega
theorem lt_line {n : Nat} (h : n < 16000000) : n < sizeLine := Nat.lt_of_lt_of_le h (by decide)
theorem le_line {n : Nat} (h : n < 16000000) : n ≤ sizeLine := Nat.le_of_lt (lt_line h)
theorem smallof {i : Int} (h : -(2 ^ 62) ≤ i) (h2 : i < 2 ^ 62) : small i := ⟨h, h2⟩
theorem line1000 {n : Nat} (h : Nat.ble n 1000 = true) : n ≤ sizeLine := Nat.le_trans (Nat.le_of_ble_eq_true h) (by decide)
def cell (ns : List Int) (k : Int) : Int := ns.getD k.toNat 0
theorem dB_yes {p : Prop} (h : p) : dB p = true := by
  haveI := Classical.propDecidable p
  rw [dB_eq]; exact decide_eq_true h
theorem dB_no {p : Prop} (h : ¬ p) : dB p = false := by
  haveI := Classical.propDecidable p
  rw [dB_eq]; exact decide_eq_false h
theorem mdec {p : Prop} {A B : Prop} : (p → A) → (¬ p → B) → (match dB p with | true => A | false => B) := by
  intro h1 h2
  by_cases h : p
  · rw [dB_yes h]; exact h1 h
  · rw [dB_no h]; exact h2 h
theorem mdec_yes {p : Prop} {A B : Prop} (h : p) (a : A) : (match dB p with | true => A | false => B) := by rw [dB_yes h]; exact a
theorem mdec_no {p : Prop} {A B : Prop} (h : ¬ p) (a : B) : (match dB p with | true => A | false => B) := by rw [dB_no h]; exact a
theorem mndec_yes {p : Prop} {A B : Prop} (h : p) (b : B) : (match !dB p with | true => A | false => B) := by rw [dB_yes h]; exact b
theorem mndec_no {p : Prop} {A B : Prop} (h : ¬ p) (a : A) : (match !dB p with | true => A | false => B) := by rw [dB_no h]; exact a
theorem mndec {p : Prop} {A B : Prop} : (¬ p → A) → (p → B) → (match !dB p with | true => A | false => B) := by
  intro h1 h2
  by_cases h : p
  · rw [dB_yes h]; exact h2 h
  · rw [dB_no h]; exact h1 h
theorem mnot {b : Bool} {A B : Prop} : (b = false → A) → (b = true → B) → (match !b with | true => A | false => B) := by
  intro h1 h2
  cases b
  · exact h1 rfl
  · exact h2 rfl
theorem mbool {b : Bool} {A B : Prop} : (b = true → A) → (b = false → B) → (match b with | true => A | false => B) := by
  intro h1 h2
  cases b
  · exact h2 rfl
  · exact h1 rfl
theorem mxf {p : Prop} {A B : Prop} : (p → A) → (¬ p → B) → (match dB p with | true => A | false => B) := mdec
theorem mxt {p : Prop} {A B : Prop} : (¬ p → A) → (p → B) → (match dB (¬ p) with | true => A | false => B) := fun h1 h2 => mdec h1 fun h => h2 (Classical.not_not.mp h)
theorem atI_scr {ns : List Int} {k : Int} (h0 : 0 ≤ k) (h : k < ns.length) : atI (scrOf ns) k = some (.int (cell ns k)) := by
  obtain ⟨j, rfl⟩ := Int.eq_ofNat_of_zero_le h0
  refine atI_nat ?_
  unfold scrOf cell
  have hj : j < ns.length := by omega
  simp [hj]
theorem at_go {xs : List Int} {i : Int} {Q : MV → Prop} (h0 : 0 ≤ i) (h1 : i < xs.length) (q : Q (.int (cell xs i))) : gAt (xs.map MV.int) i Q := by
  have e : atI (xs.map MV.int) i = some (.int (cell xs i)) := atI_scr h0 h1
  exact .mk _ e q
theorem at_goN {xs : List Int} {i : Int} {Q : MV → Prop} (h0 : i < 0) (h1 : 0 ≤ i + xs.length) (q : Q (.int (cell xs (i + xs.length)))) : gAt (xs.map MV.int) i Q := by
  have e : atI (xs.map MV.int) i = some (.int (cell xs (i + xs.length))) := by
    have e1 : atI (xs.map MV.int) (i + xs.length) = some (.int (cell xs (i + xs.length))) := atI_scr h1 (by omega)
    rw [← e1]
    unfold atI
    have e2 : ixN (xs.map MV.int).length i = ixN (xs.map MV.int).length (i + xs.length) := by
      unfold ixN
      rw [List.length_map]
      rw [if_neg (by omega), if_pos (by omega), if_pos h1, if_pos (by omega)]
    rw [e2]
  exact .mk _ e q
theorem gl0 {m : MV} {ms : List MV} {Q : MV → Prop} (q : Q m) : gAt (m :: ms) 0 Q := by
  exact .mk _ (show atI (m :: ms) ((0 : Nat) : Int) = some m from atI_nat rfl) q
theorem gl1 {m n : MV} {ms : List MV} {Q : MV → Prop} (q : Q n) : gAt (m :: n :: ms) 1 Q := by
  exact .mk _ (show atI (m :: n :: ms) ((1 : Nat) : Int) = some n from atI_nat rfl) q
theorem gl2 {m n o : MV} {ms : List MV} {Q : MV → Prop} (q : Q o) : gAt (m :: n :: o :: ms) 2 Q := by
  exact .mk _ (show atI (m :: n :: o :: ms) ((2 : Nat) : Int) = some o from atI_nat rfl) q
theorem gl3 {m n o p : MV} {ms : List MV} {Q : MV → Prop} (q : Q p) : gAt (m :: n :: o :: p :: ms) 3 Q := by
  exact .mk _ (show atI (m :: n :: o :: p :: ms) ((3 : Nat) : Int) = some p from atI_nat rfl) q
theorem cell_mem {xs : List Int} {i : Int} (h0 : 0 ≤ i) (h1 : i < xs.length) : cell xs i ∈ xs := by
  unfold cell
  rw [List.getD_eq_getElem?_getD, List.getElem?_eq_getElem (show i.toNat < xs.length by omega)]
  exact List.getElem_mem _
theorem at_lit (xs : List Int) {i : Int} {Q : MV → Prop} (h0 : 0 ≤ i) (h1 : i < xs.length) (q : ∀ v ∈ xs, Q (.int v)) : gAt (xs.map MV.int) i Q :=
  at_go h0 h1 (q _ (cell_mem h0 h1))
/-- a for, by what holds before its i-th turn -/
theorem for_inv {g : GX} {s : SX} {k : KK} {ms : List MV} {env : Env} (I : Nat → Env → Prop) (h0 : I 0 env) (hend : ∀ e, I ms.length e → k.nx e)
    (h : ∀ i m e, ms[i]? = some m → I i e → ∀ N : Env → Prop, (∀ e', I (i + 1) e' → N e') → g m e fun e' => s e' { k with nx := N, ct := N, bk := k.nx }) : forN g s ms env k := by
  have key : ∀ (l : List MV) (i : Nat), i + l.length = ms.length → ms.drop i = l → ∀ e, I i e → forN g s l e k := by
    intro l
    induction l with
    | nil =>
      intro i hl hd e hi
      have : i = ms.length := by simpa using hl
      subst this
      exact hend e hi
    | cons m l ih =>
      intro i hl hd e hi
      simp only [List.length_cons] at hl
      have hm : ms[i]? = some m := by
        have := congrArg (·[0]?) hd
        simpa using this
      have hd2 : ms.drop (i + 1) = l := by
        rw [← List.tail_drop, hd]; rfl
      exact h i m e hm hi _ fun e' he => ih (i + 1) (by omega) hd2 e' he
  exact key ms 0 (by simp) rfl env h0
/-- a while, by a measure -/
theorem while_inv {t : TX} {s : SX} {k : KK} {env : Env} (I : Nat → Env → Prop) (n0 : Nat) (h0 : I n0 env)
    (h : ∀ n e, I n e → ∀ N : Env → Prop, (∀ m e', m < n → I m e' → N e') → t e fun b => match b with | true => s e { k with nx := N, ct := N, bk := k.nx } | false => k.nx e) : ∃ n, whileN t s n env k := by
  have key : ∀ n m e, m < n → I m e → whileN t s n e k := by
    intro n
    induction n with
    | zero => intro m e hm; omega
    | succ n ih => intro m e hm hi; exact h m e hi _ fun m' e' hm' hi' => ih m' e' (by omega) hi'
  exact ⟨n0 + 1, key _ _ _ (Nat.lt_succ_self _) h0⟩
theorem rgM_at {a : Int} {n i : Nat} {m : MV} (h : (rgM a n)[i]? = some m) : i < n ∧ m = .int (a + i) := by
  unfold rgM at h
  rw [List.getElem?_map] at h
  by_cases hi : i < n
  · rw [List.getElem?_range hi] at h
    exact ⟨hi, by simpa using h.symm⟩
  · rw [List.getElem?_eq_none (by simp; omega)] at h
    cases h
theorem rgM_len {a : Int} {n : Nat} : (rgM a n).length = n := by unfold rgM; simp
theorem boolsL_map : ∀ l : List Bool, boolsL (l.map .bl) = some l
  | [] => rfl
  | b :: l => by
    have h := boolsL_map l
    simp only [List.map_cons]
    unfold boolsL
    rw [h]
theorem intsL_map : ∀ l : List Int, intsL (l.map .int) = some l
  | [] => rfl
  | b :: l => by
    have h := intsL_map l
    simp only [List.map_cons]
    unfold intsL
    rw [h]
theorem ints_go {xs : List Int} {P : List Int → Prop} (q : P xs) : (match intsL (xs.map MV.int) with | some bs => P bs | none => False) := by
  rw [intsL_map]
  exact q
theorem bools_go {xs : List Bool} {P : List Bool → Prop} (q : P xs) : (match boolsL (xs.map MV.bl) with | some bs => P bs | none => False) := by
  rw [boolsL_map]
  exact q
theorem cutM_mem {ms : List MV} {lo hi : Option Int} {m : MV} (h : m ∈ cutM ms lo hi) : m ∈ ms := List.mem_of_mem_drop (List.mem_of_mem_take h)
/-- a comprehension's items -/
theorem lc_map {g : GX} {t : TX} {fe : EX} {env0 : Env} (f : MV → MV) (p : MV → Bool) {Q : List MV → Prop} : ∀ (ms acc : List MV), acc.length + ms.length ≤ sizeLine →
    (∀ m ∈ ms, ∀ (Y : MV → Prop) (N : Prop), (p m = true → Y (f m)) → (p m = false → N) → g m env0 fun e => t e fun b => match b with | true => fe e Y | false => N) →
    Q (acc ++ (ms.filter p).map f) → lcN g t fe env0 ms acc Q
  | [], acc, _, _, q => by
    unfold lcN
    simpa using q
  | m :: ms, acc, hl, h, q => by
    unfold lcN
    simp only [List.length_cons] at hl
    refine h m List.mem_cons_self _ _ (fun hp => ⟨by omega, ?_⟩) fun hp => ?_
    · refine lc_map f p ms _ (by simp; omega) (fun m hm => h m (List.mem_cons_of_mem _ hm)) ?_
      simpa [hp] using q
    · refine lc_map f p ms _ (by omega) (fun m hm => h m (List.mem_cons_of_mem _ hm)) ?_
      simpa [hp] using q
theorem lc_map1 {g : GX} {fe : EX} {env0 : Env} (f : MV → MV) {Q : List MV → Prop} (ms acc : List MV) (hl : acc.length + ms.length ≤ sizeLine)
    (h : ∀ m ∈ ms, ∀ (Y : MV → Prop), Y (f m) → g m env0 fun e => fe e Y) (q : Q (acc ++ ms.map f)) : lcN g tYesX fe env0 ms acc Q :=
  lc_map f (fun _ => true) ms acc hl (fun m hm Y _ y _ => h m hm Y (y rfl)) (by rw [show ms.filter (fun _ => true) = ms by simp]; exact q)
/-- a slice of a list -/
def sl {α : Type} (xs : List α) (a b : Nat) : List α := (xs.drop a).take (b - a)
theorem sl_map {α β : Type} (f : α → β) (xs : List α) (a b : Nat) : sl (xs.map f) a b = (sl xs a b).map f := by
  unfold sl
  rw [← List.map_drop, ← List.map_take]
theorem sl_min {α : Type} (xs : List α) (a b : Nat) : (xs.drop (min a xs.length)).take (min b xs.length - min a xs.length) = sl xs a b := by
  unfold sl
  by_cases h : a ≤ xs.length
  · rw [Nat.min_eq_left h]
    by_cases h2 : b ≤ xs.length
    · rw [Nat.min_eq_left h2]
    · rw [Nat.min_eq_right (by omega), List.take_of_length_le (by rw [List.length_drop]; omega), List.take_of_length_le (by rw [List.length_drop]; omega)]
  · rw [List.drop_eq_nil_of_le (show xs.length ≤ min a xs.length by omega), List.drop_eq_nil_of_le (show xs.length ≤ a by omega)]
    simp
theorem cut_sl (xs : List MV) {a b : Int} (h0 : 0 ≤ a) (h1 : 0 ≤ b) : cutM xs (some a) (some b) = sl xs a.toNat b.toNat := by
  unfold cutM
  rw [← sl_min]
  have e : ∀ (d : Nat) {i : Int}, 0 ≤ i → HT.sIx xs.length d (some i) = min i.toNat xs.length := fun d i hi => by
    obtain ⟨k, rfl⟩ := Int.eq_ofNat_of_zero_le hi
    exact HT.sIx_nat _ _ _
  rw [e _ h0, e _ h1]
theorem sl_get {α : Type} {xs : List α} {a b i : Nat} : (sl xs a b)[i]? = if i < b - a then xs[a + i]? else none := by
  unfold sl
  rw [List.getElem?_take]
  split
  · rw [List.getElem?_drop]
  · rfl
theorem sl_mem {xs : List Int} {a b : Nat} (hb : b ≤ xs.length) {x : Int} : x ∈ sl xs a b ↔ ∃ i : Nat, a ≤ i ∧ i < b ∧ cell xs i = x := by
  constructor
  · intro h
    obtain ⟨i, hi⟩ := List.mem_iff_getElem?.mp h
    rw [sl_get] at hi
    split at hi
    · refine ⟨a + i, by omega, by omega, ?_⟩
      unfold cell
      rw [List.getD_eq_getElem?_getD, Int.toNat_natCast, hi]; rfl
    · cases hi
  · rintro ⟨i, h1, h2, rfl⟩
    refine List.mem_iff_getElem?.mpr ⟨i - a, ?_⟩
    rw [sl_get, if_pos (by omega), show a + (i - a) = i by omega]
    unfold cell
    rw [List.getD_eq_getElem?_getD, Int.toNat_natCast, List.getElem?_eq_getElem (by omega)]; rfl
/-! ### lists of things of one kind -/
theorem lc_typ {α : Type} {g : GX} {fe : EX} {env0 : Env} (r f : α → MV) {Q : List MV → Prop} : ∀ (xs : List α) (acc : List MV), acc.length + xs.length ≤ sizeLine →
    (∀ x ∈ xs, ∀ (Y : MV → Prop), Y (f x) → g (r x) env0 fun e => fe e Y) → Q (acc ++ xs.map f) → lcN g tYesX fe env0 (xs.map r) acc Q
  | [], acc, _, _, q => by
    unfold lcN
    simpa using q
  | m :: ms, acc, hl, h, q => by
    simp only [List.map_cons]
    unfold lcN
    simp only [List.length_cons] at hl
    refine h m List.mem_cons_self _ ⟨by omega, ?_⟩
    refine lc_typ r f ms _ (by simp; omega) (fun m hm => h m (List.mem_cons_of_mem _ hm)) ?_
    simpa using q
theorem lc_ty {α : Type} {g : GX} {fe : EX} {env0 : Env} (r f : α → MV) {Q : List MV → Prop} (xs : List α) (hl : xs.length ≤ sizeLine)
    (h : ∀ x ∈ xs, ∀ (Y : MV → Prop), Y (f x) → g (r x) env0 fun e => fe e Y) (q : Q (xs.map f)) : lcN g tYesX fe env0 (xs.map r) [] Q :=
  lc_typ r f xs [] (by simpa using hl) h q
theorem lc_tyF {α : Type} {g : GX} {t : TX} {fe : EX} {env0 : Env} (r f : α → MV) (p : α → Bool) {Q : List MV → Prop} : ∀ (xs : List α) (acc : List MV), acc.length + xs.length ≤ sizeLine →
    (∀ x ∈ xs, ∀ (Y : MV → Prop) (N : Prop), (p x = true → Y (f x)) → (p x = false → N) → g (r x) env0 fun e => t e fun b => match b with | true => fe e Y | false => N) → Q (acc ++ (xs.filter p).map f) → lcN g t fe env0 (xs.map r) acc Q
  | [], acc, _, _, q => by
    unfold lcN
    simpa using q
  | m :: ms, acc, hl, h, q => by
    simp only [List.map_cons]
    unfold lcN
    simp only [List.length_cons] at hl
    refine h m List.mem_cons_self _ _ (fun hp => ⟨by omega, ?_⟩) fun hp => ?_
    · refine lc_tyF r f p ms _ (by simp; omega) (fun m hm => h m (List.mem_cons_of_mem _ hm)) ?_
      simpa [hp] using q
    · refine lc_tyF r f p ms _ (by omega) (fun m hm => h m (List.mem_cons_of_mem _ hm)) ?_
      simpa [hp] using q
theorem alls_go {α : Type} {xs : List α} {p : α → Prop} {P : List Bool → Prop} (q : P (xs.map fun x => dB (p x))) : (match boolsL (xs.map fun x => MV.bl (dB (p x))) with | some bs => P bs | none => False) := by
  rw [show (xs.map fun x => MV.bl (dB (p x))) = (xs.map fun x => dB (p x)).map .bl by simp, boolsL_map]
  exact q
theorem all_dB {α : Type} (xs : List α) (p : α → Prop) : (xs.map fun x => dB (p x)).all id = dB (∀ x ∈ xs, p x) := by
  by_cases h : ∀ x ∈ xs, p x
  · rw [dB_yes h, List.all_eq_true]
    intro b hb
    obtain ⟨x, hx, rfl⟩ := List.mem_map.mp hb
    exact dB_yes (h x hx)
  · rw [dB_no h, List.all_eq_false]
    have ⟨x, hx⟩ := Classical.not_forall.mp h
    obtain ⟨h1, h2⟩ := Classical.not_imp.mp hx
    exact ⟨dB (p x), List.mem_map.mpr ⟨x, h1, rfl⟩, by simp [dB_no h2]⟩
/-- an item of a list of things of one kind -/
theorem atT {α : Type} (r : α → MV) {xs : List α} {i : Int} (d : α) {Q : MV → Prop} (h0 : 0 ≤ i) (h1 : i < xs.length) (q : Q (r (xs.getD i.toNat d))) : gAt (xs.map r) i Q := by
  obtain ⟨j, rfl⟩ := Int.eq_ofNat_of_zero_le h0
  have hj : j < xs.length := by omega
  have e : atI (xs.map r) j = some (r (xs.getD j d)) := by
    refine atI_nat ?_
    simp [hj]
  exact .mk _ e q
theorem atTN {α : Type} (r : α → MV) {xs : List α} {i : Int} (d : α) {Q : MV → Prop} (h0 : i < 0) (h1 : 0 ≤ i + xs.length) (q : Q (r (xs.getD (i + xs.length).toNat d))) : gAt (xs.map r) i Q := by
  have e : atI (xs.map r) i = atI (xs.map r) (i + xs.length) := by
    unfold atI
    have e2 : ixN (xs.map r).length i = ixN (xs.map r).length (i + xs.length) := by
      unfold ixN
      rw [List.length_map, if_neg (by omega), if_pos (by omega), if_pos h1, if_pos (by omega)]
    rw [e2]
  obtain ⟨m, a1, a2⟩ := atT r d h1 (by omega) q
  exact .mk m (e.trans a1) a2
theorem getT {α : Type} {r : α → MV} {xs : List α} {i : Nat} {m : MV} (d : α) (h : (xs.map r)[i]? = some m) : i < xs.length ∧ m = r (xs.getD i d) := by
  rw [List.getElem?_map] at h
  by_cases hi : i < xs.length
  · rw [List.getElem?_eq_getElem hi] at h
    refine ⟨hi, ?_⟩
    rw [List.getD_eq_getElem?_getD, List.getElem?_eq_getElem hi]
    simpa using h.symm
  · rw [List.getElem?_eq_none (by omega)] at h
    cases h
theorem enT {α : Type} {r : α → MV} {xs : List α} {i : Nat} {m : MV} (d : α) (h : (enM (xs.map r))[i]? = some m) : i < xs.length ∧ m = .tup [.int i, r (xs.getD i d)] := by
  unfold enM at h
  rw [List.getElem?_mapIdx] at h
  cases q : (xs.map r)[i]? with
  | none => rw [q] at h; cases h
  | some m' =>
    obtain ⟨h1, rfl⟩ := getT d q
    rw [q] at h
    exact ⟨h1, by simpa using h.symm⟩
theorem enT_len {α : Type} {r : α → MV} {xs : List α} : (enM (xs.map r)).length = xs.length := by unfold enM; simp
theorem memp {α : Type} {l : List α} {A B : Prop} (h1 : l = [] → A) (h2 : l ≠ [] → B) : (match l.isEmpty with | true => A | false => B) := by
  cases l with
  | nil => exact h1 rfl
  | cons x xs => exact h2 (by simp)
theorem mnemp {α : Type} {l : List α} {A B : Prop} (h1 : l ≠ [] → A) (h2 : l = [] → B) : (match !l.isEmpty with | true => A | false => B) := by
  cases l with
  | nil => exact h2 rfl
  | cons x xs => exact h1 (by simp)
theorem mnnemp {α : Type} {l : List α} {A B : Prop} (h1 : l = [] → A) (h2 : l ≠ [] → B) : (match !!l.isEmpty with | true => A | false => B) := by
  cases l with
  | nil => exact h1 rfl
  | cons x xs => exact h2 (by simp)
end C
namespace C
open PySem PySem.Spec PyProof.Rows L2
/-! ### new lists that are owned -/
section
variable {X : Cx} {cl : Nat → Addr} {a b c e : Expr} {es : List Expr} {fa fb fc : EX} {qa qb qc : QX} {ta tb : TX} {ga : AX} {na : NX} {pos p2 p : Pos} {x : Str}
theorem new_own {K : PySem.W.Frag} {H G H' G' : Hp} {p : Addr} {ms : List MV} {vs : List V} {Q : OV → V → Hp → Prop} (e : Ext H G H' G') (hp : H' p = none) (r : Reps K cl G' ms vs)
    (z : ∀ v H2 G2 X, Ext H G H2 G2 → RepO K cl H2 G2 (.lst ms) v X → (∀ b ∈ X, H b = none ∧ G2 b = none ∧ H2 b ≠ none) → Q (.lst ms) v H2) : Q (.lst ms) (.ref p) (upd H' p (.lst vs)) := by
  refine z _ _ G' [p] (e.trans (Ext.new0 e.gh hp)) ?_ fun b hb => ?_
  · unfold RepO
    exact ⟨p, vs, rfl, rfl, upd_same, r⟩
  · have : b = p := by simpa using hb
    subst this
    exact ⟨e.hh.free hp, e.gh.free hp, by rw [upd_same]; simp⟩
/-- xs + ys -/
def nAdd (qa qb : QX) : NX := fun env Q => qa env fun m => qb env fun n => asL m fun xs => asL n fun ys => xs.length + ys.length ≤ sizeLine ∧ Q (.lst (xs ++ ys))
theorem mn_add (ha : MQ X cl a qa) (hb : MQ X cl b qb) : MN X cl (.BinOp a .Add b pos) (nAdd qa qb) := by
  refine ⟨fun env Q Q' k q => ha.mo _ _ _ (fun m z => hb.mo _ _ _ (fun n z => asL_mo (fun _ z => asL_mo (fun _ z => ⟨z.1, k _ z.2⟩) z) z) z) q, PEmono (pe_op op_cat ha.pe hb.pe) fun σ H Q ⟨β, G, env, r0, q⟩ => ?_⟩
  refine ⟨β, G, env, r0, ha.mo _ _ _ (fun m z v H' G' e rv => ?_) q⟩
  refine ⟨β, G', env, r0.ext e, hb.mo _ _ _ (fun n z w H2 G2 e2 rw => ?_) z⟩
  obtain ⟨xs, pa, vs, rfl, h2, h3, z⟩ := asL_rep e2.gh z (Same.repB rv e2)
  obtain ⟨ys, pb, ws, rfl, g2, g3, z⟩ := asL_rep e2.gh z rw
  have l1 := Reps.len _ _ h3
  have l2 := Reps.len _ _ g3
  exact ⟨pa, pb, vs, ws, rfl, rfl, h2, g2, by have := z.1; omega, fun p hp => new_own (Q := fun _ v H => Q v H) (e.trans e2) hp (Reps.app _ _ _ _ h3 g3) z.2⟩
/-- xs[lo:hi] -/
def nSl (qa : QX) (l h : OX) : NX := fun env Q => qa env fun m => l env fun lo => h env fun hi => asL m fun ms => Q (.lst (cutM ms lo hi))
theorem mn_sl {lo hi : Option Expr} {l h : OX} (ha : MQ X cl a qa) (hl : MO X cl lo l) (hh : MO X cl hi h) : MN X cl (.Subscript a (.Slice lo hi none p2) pos) (nSl qa l h) := by
  refine ⟨fun env Q Q' k q => ha.mo _ _ _ (fun m z => hl.mo _ _ _ (fun _ z => hh.mo _ _ _ (fun _ z => asL_mo (fun _ z => k _ z) z) z) z) q, PEmono (pe_slice sl_list ha.pe hl.po hh.po) fun σ H Q ⟨β, G, env, r0, q⟩ => ?_⟩
  refine ⟨β, G, env, r0, ha.mo _ _ _ (fun m z v H' G' e rv => ?_) q⟩
  refine ⟨β, G', env, r0.ext e, hl.mo _ _ _ (fun lo z H2 G2 e2 => ?_) z⟩
  refine ⟨β, G2, env, (r0.ext e).ext e2, hh.mo _ _ _ (fun hi z H3 G3 e3 => ?_) z⟩
  have e23 := e2.trans e3
  obtain ⟨ms, p, vs, rfl, h2, h3, z⟩ := asL_rep e3.gh z (Same.repB rv e23)
  exact ⟨p, vs, rfl, SqL.of h2, fun q hq => new_own (Q := fun _ v H => Q v H) (e.trans e23) hq (cutM_rep h3) z⟩
/-- list(xs) -/
def nListG (m : OV) (Q : OV → Prop) : Prop := match m with
  | .fro (.tup ms) => Q (.lst ms)
  | m => asL m fun ms => Q (.lst ms)
def nList (qa : QX) : NX := fun env Q => qa env fun m => nListG m Q
theorem mn_list (gl : Gl X x) (hm : X.mg x = none) (hv : bootBuiltins x = some (.type "list")) (ha : MQ X cl a qa) (hn : x ≠ "__name__" := by decide) (hdb : (x == ("__debug__" : Str)) = false := by decide)
    (he : starEach [a] X.env = (false, eval a X.env) :: starEach [] X.env := by rfl) : MN X cl (.Call (.Name x p) [a] [] pos) (nList qa) := by
  refine ⟨fun env Q Q' k q => ha.mo _ _ _ (fun m z => ?_) q, PEmono (pe_callTy call_list_of gl hm hv (pa_cons ha.pe pa_nil he) hn hdb he rfl) fun σ H Q ⟨β, G, env, r0, q⟩ => ?_⟩
  · unfold nListG at z ⊢
    split at z
    · exact k _ z
    · exact asL_mo (fun _ z => k _ z) z
  · refine ⟨β, G, env, r0, ha.mo _ _ _ (fun m z v H' G' e rv => ?_) q⟩
    unfold nListG at z
    split at z
    · unfold RepB Rep at rv; obtain ⟨p, vs, rfl, h2, h3⟩ := rv
      exact ⟨p, vs, rfl, .inr (sqT_same e.gh h2), fun l hl => new_own (Q := fun _ v H => Q v H) e hl h3 z⟩
    · obtain ⟨ms, p, vs, rfl, h2, h3, z⟩ := asL_rep e.gh z rv
      exact ⟨p, vs, rfl, .inl (SqL.of h2), fun l hl => new_own (Q := fun _ v H => Q v H) e hl h3 z⟩
/-- xs[i] = v -/
def setIG (i : Nat) (p : List Nat) (m : MV) (ms : List MV) (j : Int) (env : Env) (Q : Env → Prop) : Prop := match ixN ms.length j with
  | some n => Q (setP env i p (.lst (ms.set n m)))
  | none => False
def setIB (i : Nat) (p : List Nat) (qi : QX) (m : MV) (env : Env) (Q : Env → Prop) : Prop := match ownP env i p with
  | some (.lst ms) => qi env fun x => asFro x fun x => asInt x fun j => setIG i p m ms j env Q
  | _ => False
def setI (i : Nat) (p : List Nat) (qi : QX) (xa : XX) : SX := fun env k => xa env (fun o env2 => asFro o fun m => setIB i p qi m env2 k.nx) k.ex
variable {W : WX} {xa : XX} {value o ix : Expr} {pl : List Nat}
theorem Reps.setV {K : PySem.W.Frag} {G : Hp} {m : MV} {v : V} (rv : Rep K cl G m v) : ∀ (ms : List MV) (vs : List V) (n : Nat), Reps K cl G ms vs → Reps K cl G (ms.set n m) (vs.set n v)
  | [], vs, n, h => by
    unfold Reps at h; subst h
    simp only [List.set_nil]
    unfold Reps; rfl
  | x :: ms, vs, 0, h => by
    unfold Reps at h
    obtain ⟨u, ws, rfl, h2, h3⟩ := h
    simp only [List.set_cons_zero]
    unfold Reps
    exact ⟨v, ws, rfl, rv, h3⟩
  | x :: ms, vs, n + 1, h => by
    unfold Reps at h
    obtain ⟨u, ws, rfl, h2, h3⟩ := h
    simp only [List.set_cons_succ]
    unfold Reps
    exact ⟨u, _, rfl, h2, Reps.setV rv ms ws n h3⟩
theorem setIB_mo {i : Nat} {qi : QX} {m : MV} {env : Env} {Q Q' : Env → Prop} (hq : ∀ env (Q Q' : OV → Prop), (∀ m, Q m → Q' m) → qi env Q → qi env Q') (k : ∀ e, Q e → Q' e) (h : setIB i pl qi m env Q) : setIB i pl qi m env Q' := by
  unfold setIB at h ⊢
  split at h
  · refine hq _ _ _ (fun x z => asFro_mo (fun x z => asInt_mo (fun j z => ?_) z) z) h
    unfold setIG at z ⊢
    split at z
    · exact k _ z
    · exact z
  · exact h.elim
theorem ms_setI {i : Nat} {spos : Pos} (ho : MP X o i pl) (hi : MQ X cl ix qa) (hv : MX X cl W value xa) (hp : fld38 pl = true := by rfl) (hs : swapsWithSole [.Subscript o ix pos] value spos.line X.env = pure false := by rfl)
    (hw : swappedStores [.Subscript o ix pos] value X.env = pure none := by rfl) (h1 : (assignEach [.Subscript o ix pos] X.env).map (·.2) = [assign (.Subscript o ix pos) X.env] := by rfl)
    (ha : ∀ v, assign (.Subscript o ix pos) X.env v = (do
      let ov ← holding [v] (eval o X.env)
      let iv ← holding [v, ov] (eval ix X.env)
      standAt pos
      holding [v, ov, iv] (setItem ov iv v)
      release [v, ov, iv] []) := by intro _; rfl) : MS X cl W (.Assign [.Subscript o ix pos] value spos) (setI i pl qa xa) := by
  refine ⟨fun env k k' l q => hv.mo _ _ _ _ _ (fun o e z => asFro_mo (fun m z => setIB_mo hi.mo l.nx z) z) l.ex q, PSmono (ps_asg hv.pe (pg_sub ho hi.pe set_list ha) hs hw h1) fun D σ H ⟨β, G, env, r0, q⟩ => ⟨β, G, env, r0, hv.mo _ _ _ _ _ (fun o e z v H' G' X' r' gg ro => ?_) (fun _ z => z) q⟩⟩
  cases o with
  | fro m =>
    unfold RepO at ro
    have z' : setIB i pl qa m e (kOf X.K cl W β G D).nx := z
    unfold setIB at z'
    split at z'
    · rename_i ms h
      have r1 := r'.drop
      obtain ⟨v0, l, vs, g1, g2, g3, g4, g5⟩ := lst_write r1 (fld38_out hp) h
      refine ⟨v0, .ref l, g1, g2, β, G', e, r1, hi.mo _ _ _ (fun x z w H2 G2 e2 rw => ?_) z'⟩
      cases x with
      | fro x =>
        unfold RepB at rw
        obtain ⟨j, rfl, rfl, z⟩ := asInt_rep (show asInt x _ from z) rw
        have r2 := r1.ext e2
        obtain ⟨v0', l', vs', y1, y2, y3, y4, y5⟩ := lst_write r2 (fld38_out hp) h
        rw [g1] at y1; cases y1
        have := PAt.uniq (PAt.same e2.hh g2) y2
        cases this
        unfold setIG at z
        split at z
        · rename_i n hn
          refine ⟨l, vs', j, n, rfl, rfl, y3, by rw [Reps.len _ _ y4]; exact hn, ?_⟩
          exact z σ _ G2 (y5 _ _ (Reps.setV (Rep.same e2.gg _ _ ro.2) _ _ n y4)) (gg.trans e2.gg)
        · exact z.elim
      | _ => exact z.elim
    · exact z'.elim
  | _ => exact z.elim
end
end C
namespace C
open PySem PySem.Spec PyProof.Rows L2
/-! ### for over a list that is owned or lent: it stands while the loop runs -/
def pinK (i : Nat) (s0 : Slot) (o : OV) (env : Env) (k : KK) : KK where
  nx e := (e[i]? = some (.bo o) ∧ boSub e (env.set i (.bo o))) ∧ k.nx (e.set i (putS s0 o))
  rt r e := (e[i]? = some (.bo o) ∧ boSub e (env.set i (.bo o))) ∧ k.rt r (e.set i (putS s0 o))
  bk _ := False
  ct _ := False
  ex _ := False
theorem pinK_le {i : Nat} {s0 : Slot} {o : OV} {env : Env} {k k' : KK} (l : KLe k k') : KLe (pinK i s0 o env k) (pinK i s0 o env k') :=
  ⟨fun e z => ⟨z.1, l.nx _ z.2⟩, fun o e z => ⟨z.1, l.rt _ _ z.2⟩, fun e z => z, fun e z => z, fun n z => z⟩
def onPl (o : OV) (p : List Nat) (Q : List MV → Prop) : Prop := match getO o p with
  | some q => asL q Q
  | none => False
theorem onPl_mo {o : OV} {p : List Nat} {Q Q' : List MV → Prop} (k : ∀ m, Q m → Q' m) (h : onPl o p Q) : onPl o p Q' := by
  unfold onPl at h ⊢
  split at h
  · exact asL_mo k h
  · exact h
def forBG (u : List MV → List MV) (i : Nat) (p : List Nat) (g : GX) (s : SX) (s0 : Slot) : SX := fun env k => match s0 with
  | .bo o => onPl o p fun ms => forN g s (u ms) env k
  | .un => False
  | .ow o => onPl o p fun ms => forN g s (u ms) (env.set i (.bo o)) (pinK i (.ow o) o env k)
  | .rf o => onPl o p fun ms => forN g s (u ms) (env.set i (.bo o)) (pinK i (.rf o) o env k)
def forBX (u : List MV → List MV) (i : Nat) (p : List Nat) (g : GX) (s : SX) : SX := fun env k => match env[i]? with
  | some s0 => forBG u i p g s s0 env k
  | none => False
def forB (i : Nat) (p : List Nat) (g : GX) (s : SX) : SX := forBX (fun ms => ms) i p g s
def forBE (i : Nat) (p : List Nat) (g : GX) (s : SX) : SX := forBX enM i p g s
section
variable {X : Cx} {cl : Nat → Addr} {W : WX} {a b c e : Expr} {es : List Expr} {sts : List Stmt} {s : SX} {g : GX} {vs : List Nat} {pos pp : Pos} {i : Nat} {pl : List Nat}
theorem forBX_mo {u : List MV → List MV} (hg : ∀ m env (Q Q' : Env → Prop), (∀ e, Q e → Q' e) → g m env Q → g m env Q') (hs : ∀ env k k', KLe k k' → s env k → s env k') : ∀ env k k', KLe k k' → forBX u i pl g s env k → forBX u i pl g s env k' := by
  intro env k k' l q
  unfold forBX at q ⊢
  split at q
  · rename_i s0 h
    cases s0 with
    | un => exact q
    | ow o => exact onPl_mo (fun ms z => forN_mo hg hs _ _ _ _ (pinK_le l) z) q
    | rf o => exact onPl_mo (fun ms z => forN_mo hg hs _ _ _ _ (pinK_le l) z) q
    | bo o => exact onPl_mo (fun ms z => forN_mo hg hs _ _ _ _ l z) q
  · exact q
/-- where the list stands, and the turns over it -/
def ForOk (X : Cx) (cl : Nat → Addr) (W : WX) (g : GX) (s : SX) (vs : List Nat) (i : Nat) (pl : List Nat) (It0 : Addr → It) (D : Ends) (σ : L2.St) (H : Hp) : Prop :=
    ∃ v0 p xs, σ[i]? = some (some v0) ∧ PAt X.K H v0 pl (.ref p) ∧ H p = some (.lst xs) ∧
    ∃ W' : Nat → Nat → L2.St → Hp → Prop, (∃ m, W' 0 m σ H) ∧ ∀ i m σ H, W' i m σ H → ((It0 p).stop i H ∧ D.nx σ H) ∨ ((It0 p).go i H ∧ ∃ N : L2.St → Hp → Prop, (∀ σ' H', N σ' H' → ∃ m', m' < m ∧ W' (i + 1) m' σ' H') ∧ ∀ x H', (It0 p).yld i H x H' → gOf X.K cl g vs x σ H' fun σ2 H2 => sOf X.K cl W s { D with nx := N, ct := N, bk := D.nx } σ2 H2)
theorem forBX_in {tg : Expr} {u : List MV → List MV} {It0 : Addr → It} (hg : MG X cl tg g vs) (hb : MSs X cl W sts s) (hpl : fld38 pl = true)
    (hit : ∀ {G KH : Hp} {p : Addr} {ms : List MV} {vs : List V}, KH p = some (.lst vs) → Reps X.K cl G ms vs → ItOk X.K cl (It0 p) (u ms) G KH) {D : Ends} {σ : L2.St} {H G : Hp} {β : Bs} {env : Env} (r0 : R X.K cl β σ H G env []) (q : forBX u i pl g s env (kOf X.K cl W β G D)) :
    ForOk X cl W g s vs i pl It0 D σ H := by
  unfold forBX at q
  split at q
  · rename_i s0 h
    have own : ∀ o, ownS s0 = some o → onPl o pl (fun ms => forN g s (u ms) (env.set i (.bo o)) (pinK i s0 o env (kOf X.K cl W β G D))) → ForOk X cl W g s vs i pl It0 D σ H := fun o ho q => by
      obtain ⟨F, r1, ⟨Hm, m1, m2, v0, m3, m4⟩, back⟩ := r0.pin h ho
      unfold onPl at q
      split at q
      · rename_i o' ho'
        obtain ⟨w, w1, w2⟩ := RepB.place m2 (fld38_out hpl) m4 ho'
        obtain ⟨ms, p, xs, rfl, y1, y2, z⟩ := asL_rep m2 q w2
        refine ⟨v0, p, xs, m3, PAt.same (fun b u h => (m1 b u h).1) w1, (m1 _ _ y1).1, ?_⟩
        have hk : KLe (pinK i s0 o env (kOf X.K cl W β G D)) (kOf X.K cl W ⟨H, G, F, σ⟩ G D) := by
          refine ⟨fun e z σ' H' G' r' gg => ?_, fun o e z σ' H' G' v X r' gg ro => ?_, fun e z => z.elim, fun e z => z.elim, fun n z => z.elim⟩
          · obtain ⟨⟨z1, z2⟩, z3⟩ := z
            exact z3 σ' H' G' (back _ _ _ _ _ r' z1 z2) gg
          · obtain ⟨⟨z1, z2⟩, z3⟩ := z
            exact z3 σ' H' G' v X (back _ _ _ _ _ r' z1 z2) gg ro
        exact for_turns hg hb (hit y1 y2) G r1 (Same.refl _) (fun σ' H' G' env' r' _ b u h => r'.hk b u (m1 b u h).1 (m1 b u h).2) hk z
      · exact q.elim
    cases s0 with
    | un => exact q.elim
    | ow o => exact own o rfl q
    | rf o => exact own o rfl q
    | bo o =>
      have q' : onPl o pl (fun ms => forN g s (u ms) env (kOf X.K cl W β G D)) := q
      unfold onPl at q'
      split at q'
      · rename_i o' ho'
        obtain ⟨fp, s1, _⟩ := r0.sl
        have z0 := s1 i _ h
        unfold SRep at z0
        obtain ⟨_, v0, z1, z2, Hb, hb', z3⟩ := z0
        classical
        let KH : Hp := fun b => match Hb b with
          | some u => some u
          | none => β.G b
        have k1 : Same Hb KH := fun b u h => by
          show (match Hb b with | some u => some u | none => β.G b) = some u
          rw [h]
        have k3 : ∀ σ' H' G' env', R X.K cl β σ' H' G' env' [] → Same KH H' := fun σ' H' G' env' r' b u h => by
          have h' : (match Hb b with | some u => some u | none => β.G b) = some u := h
          split at h'
          · rename_i u' e
            cases h'
            exact r'.hk b _ (hb' b _ e).1 (hb' b _ e).2
          · exact r'.gh b u (r'.g0 b u h')
        have k2 : Same β.G KH := fun b u h => by
          show (match Hb b with | some u => some u | none => β.G b) = some u
          split
          · rename_i u' e
            have e1 := r0.hk b _ (hb' b _ e).1 (hb' b _ e).2
            rw [r0.gh b u (r0.g0 b u h)] at e1
            exact e1.symm
          · exact h
        obtain ⟨w, w1, w2⟩ := RepB.place k2 (fld38_out hpl) (RepB.same k1 (Same.refl _) _ _ z3) ho'
        obtain ⟨ms, p, xs, rfl, y1, y2, z⟩ := asL_rep k2 q' w2
        refine ⟨v0, p, xs, getD_some z1, PAt.same (k3 _ _ _ _ r0) w1, k3 _ _ _ _ r0 _ _ y1, ?_⟩
        exact for_turns hg hb (hit y1 (Reps.same r0.g0 _ _ y2)) G r0 (Same.refl _) (fun σ' H' G' env' r' _ => k3 σ' H' G' env' r') (kOf_le (Same.refl _)) z
      · exact q'.elim
  · exact q.elim
theorem ms_forB {tg : Expr} (hp : PassesOwn (model X.prog X.w) X.A X.env X.xe) (hc : X.calm = true) (ho : MP X a i pl) (hg : MG X cl tg g vs) (hb : MSs X cl W sts s) (hpl : fld38 pl = true := by rfl) (hs : ∀ x, foldedSetIterable a X.env x = pure x := by intro _; rfl) : MS X cl W (.For tg a sts [] pos) (forB i pl g s) := by
  refine ⟨forBX_mo hg.mo hb.mo, PSmono (ps_for hp hc (pi_list ho) hg.pg hb.ps hs) fun D σ H ⟨β, G, env, r0, q⟩ => ?_⟩
  obtain ⟨v0, p, xs, h1, h2, h3, h4⟩ := forBX_in (It0 := Itl X.K) hg hb hpl (fun h r => it_list h r) r0 q
  exact ⟨v0, .ref p, h1, h2, p, rfl, ⟨xs, SqL.of h3⟩, h4⟩
theorem ms_forBE {elts : List Expr} {kk : Nat} {tpos : Pos} (hp : PassesOwn (model X.prog X.w) X.A X.env X.xe) (hc : X.calm = true) (hgl : Gl X "enumerate") (hm : X.mg "enumerate" = none) (ho : MP X a i pl) (hg : MG X cl (.Tuple elts kk tpos) g vs) (hb : MSs X cl W sts s) (hpl : fld38 pl = true := by rfl)
    (hs1 : starEach [a] X.env = (false, eval a X.env) :: starEach [] X.env := by rfl) (hs2 : starEach [a] X.env = [(false, eval a X.env)] := by rfl) (hs : ∀ x, foldedSetIterable (.Call (.Name "enumerate" pp) [a] [] pos) X.env x = pure x := by intro _; rfl) {fpos : Pos} : MS X cl W (.For (.Tuple elts kk tpos) (.Call (.Name "enumerate" pp) [a] [] pos) sts [] fpos) (forBE i pl g s) := by
  refine ⟨forBX_mo hg.mo hb.mo, PSmono (ps_for hp hc (pi_enum hgl hm (pa_cons ho pa_nil hs1) hs2) hg.pg hb.ps hs) fun D σ H ⟨β, G, env, r0, q⟩ => ?_⟩
  obtain ⟨v0, p, xs, h1, h2, h3, h4⟩ := forBX_in (It0 := Ite X.K) hg hb hpl (fun h r => it_enum h r) r0 q
  exact ⟨v0, .ref p, h1, h2, p, xs, rfl, SqL.of h3, h4⟩
end
end C
namespace C
open PySem PySem.Spec PyProof.Rows L2
/-! ### list(enumerate(xs)) -/
/-- an enumerate whose first pair is held by somebody -/
abbrev EnO (h : Heap) (e it : Addr) (i : Int) (a : Addr) (f : Bool) (old : Value) : Prop :=
  h.get? e = some { cls := .type "enumerate", data := .fields #[rawInt a, .bool f, .ref it, rawInt i, .none, old] }
section
variable {prog : Program} {w : World} {A : Around} {E : Value → Shared → Prop} {s : Shared} {e it l a : Addr}
theorem eno_code {i : Nat} {f : Bool} {its : Array Value} {x old : Value} {oa : Obj} {Q : Value → Shared → Prop} (he : EnO s.heap e it i a f old) (hi : s.heap.IsListIter it l i) (hl : s.heap.IsList l its) (hx : its[i]? = some x) (ne : e ≠ it)
    (ha : s.heap.get? a = some oa) (ae : a ≠ e) (ai : a ≠ it)
    (hQ : ∀ h', EnO h' e it ((i : Int) + 1) a true old → h'.IsListIter it l (i + 1) → h'.get? s.heap.objs.size = some { cls := .type "tuple", data := .seq #[.int i s.toks, x] } → h'.objs.size = s.heap.objs.size + 1 →
      (∀ b o, b ≠ e → b ≠ it → s.heap.get? b = some o → h'.get? b = some o) → Q (.ref s.heap.objs.size) { s with heap := h', toks := s.toks + 1 }) :
    wpAny (model prog w) A (Builtin.«enumerate.__next__» ⟨[.ref e], []⟩) (fun r s' => ∃ v, r = .done (.ret v) ∧ Q v s') E s := by
  obtain ⟨hp, g, d, tk, os⟩ := s
  show wpAny _ _ (field (.ref e) 2 >>= _) _ _ _
  refine wpAny_bind (wpAny_field he rfl (x := .ref it) rfl (wpAny_bind (wpAny_nextOf_list_item hi hl hx fun h1 i1 k1 => ?_)))
  have k1' : Heap.SameBut it hp h1 := k1
  have e1 : EnO h1 e it i a f old := (k1'.2 e ne).trans he
  show wpAny _ _ (field (.ref e) 3 >>= _) _ _ ⟨h1, g, d, tk, os⟩
  refine wpAny_bind (wpAny_field e1 rfl (x := rawInt i) rfl ?_)
  show wpAny _ _ (field (.ref e) 4 >>= _) _ _ ⟨h1, g, d, tk, os⟩
  refine wpAny_bind (wpAny_field e1 rfl (x := .none) rfl ?_)
  show wpAny _ _ (mkInt i >>= _) _ _ ⟨h1, g, d, tk, os⟩
  refine wpAny_bind (wpAny_mkInt ?_)
  show wpAny _ _ (setField (.ref e) 3 (rawInt ((i : Int) + 1)) >>= _) _ _ ⟨h1, g, d, tk + 1, os⟩
  refine wpAny_bind (wpAny_setField_rec e1 (by simp) fun h2 e2 k2 => ?_)
  have k2' : Heap.SameBut e h1 h2 := k2
  have e2' : EnO h2 e it ((i : Int) + 1) a f old := e2
  show wpAny _ _ (setField (.ref e) 4 .none >>= _) _ _ ⟨h2, g, d, tk + 1, os⟩
  refine wpAny_bind (wpAny_setField_rec e2' (by simp) fun h3 e3 k3 => ?_)
  have k3' : Heap.SameBut e h2 h3 := k3
  have e3' : EnO h3 e it ((i : Int) + 1) a f old := e3
  show wpAny _ _ (newTuple [.int i tk, x] >>= _) _ _ ⟨h3, g, d, tk + 1, os⟩
  refine wpAny_bind (wpAny_newTuple ?_)
  have z3 : h3.objs.size = hp.objs.size := (k3'.1.trans k2'.1).trans k1'.1
  have le : e < hp.objs.size := Heap.lt_size he
  have la : a < hp.objs.size := Heap.lt_size ha
  obtain ⟨h4, hh4⟩ : ∃ h4, h4 = h3.push { cls := .type "tuple", data := .seq #[.int i tk, x] } := ⟨_, rfl⟩
  have e4 : EnO h4 e it ((i : Int) + 1) a f old := by rw [hh4]; exact Heap.get?_push_of_some _ e3'
  have t4 : h4.get? hp.objs.size = some { cls := .type "tuple", data := .seq #[.int i tk, x] } := by
    have := Heap.get?_push_size h3 (o := { cls := .type "tuple", data := .seq #[.int i tk, x] }) rfl
    rw [z3] at this
    rw [hh4]; exact this
  have s4 : h4.objs.size = hp.objs.size + 1 := by rw [hh4, Heap.size_push, z3]
  have p4 : ∀ b o, b ≠ e → b ≠ it → hp.get? b = some o → h4.get? b = some o := fun b o n1 n2 q => by
    rw [hh4]
    exact Heap.get?_push_of_some _ (k3'.extBut b o n1 (k2'.extBut b o n1 (k1'.extBut b o n2 q)))
  have i4 : h4.IsListIter it l (i + 1) := by
    rw [hh4]
    obtain ⟨o, q, r⟩ := (i1.extBut k2'.extBut (Ne.symm ne)).extBut k3'.extBut (Ne.symm ne)
    exact ⟨o, Heap.get?_push_of_some _ q, r⟩
  have a4 : h4.get? a = some oa := p4 a oa ae ai ha
  rw [← hh4]
  show wpAny _ _ (Builtin.SmallTypes.ownedTupleIsFree (.ref e) >>= _) _ _ ⟨h4, g, d, tk + 1, os⟩
  rw [z3]
  refine wpAny_bind ?_
  unfold Builtin.SmallTypes.ownedTupleIsFree
  refine wpAny_bind (wpAny_field e4 rfl (x := rawInt a) rfl ?_)
  show wpAny _ _ (loadIfAlive ((a : Int).toNat) >>= _) _ _ _
  rw [Int.toNat_natCast]
  refine wpAny_bind (PySem.W.kdx_alive a4 ?_)
  simp only [Option.isNone_some, Bool.false_eq_true, if_false]
  refine wpAny_bind (wpAny_field e4 rfl (x := .bool f) rfl ?_)
  cases f with
  | true =>
    rw [if_neg (show ¬ ((Value.bool true != Value.bool true) = true) from Bool.false_ne_true)]
    refine wpAny_pure ?_
    simp only [Bool.false_eq_true, if_false]
    exact wpAny_pure ⟨_, rfl, hQ h4 e4 i4 t4 s4 p4⟩
  | false =>
    rw [if_pos (show (Value.bool false != Value.bool true) = true from rfl)]
    refine wpAny_bind (wpAny_setField_rec e4 (by simp) fun h5 e5 k5 => ?_)
    have k5' : Heap.SameBut e h4 h5 := k5
    have e5' : EnO h5 e it ((i : Int) + 1) a true old := e5
    refine wpAny_pure ?_
    simp only [Bool.false_eq_true, if_false]
    refine wpAny_pure ⟨_, rfl, hQ h5 e5' (i4.extBut k5'.extBut (Ne.symm ne)) (k5'.extBut _ _ (Nat.ne_of_gt le) t4) (by show h5.objs.size = _; rw [k5'.1, s4]) fun b o n1 n2 q => k5'.extBut b o n1 (p4 b o n1 n2 q)⟩
theorem eno_end {i : Nat} {f : Bool} {its : Array Value} {old : Value} {Q : Option Value → Shared → Prop} (hh : A.handled = none) (he : EnO s.heap e it i a f old) (hi : s.heap.IsListIter it l i) (hl : s.heap.IsList l its) (hx : its[i]? = none)
    (hQ : ∀ h', Heap.ExtBut it s.heap h' → Q none { s with heap := h' }) : wpAny (model prog w) A (pyNext (.ref e)) Q E s := by
  have hT : s.TypeIs (.ref e) "enumerate" := ⟨_, he, rfl⟩
  unfold pyNext
  refine wpAny_bind (wpAny_attempt (wpAny_callSpecial?_slot (name := Str.ofString "__next__") hT PySem.F.slot_enumerate_next (wpAny_call_entry PySem.F.slot_enumerate_next hT PySem.F.entry_enumerate_next ?_ (PySem.F.args_enumerate_next_1 _))))
  show wpAny _ _ (field (.ref e) 2 >>= _) _ _ _
  refine wpAny_bind (wpAny_field he rfl (x := .ref it) rfl (wpAny_bind (wpAny_nextOf_list_end hh hi hl hx fun h' x k q => ?_)))
  obtain ⟨o, ho, hc⟩ := q
  exact wpAny_bind (wpAny_isInstance (T := "StopIteration") (b := true) ⟨o, ho, hc⟩ isSubtype_stop (wpAny_pure (hQ _ k)))
/-- at any turn: S is the list that takes the pairs -/
def EnSt (h : Heap) (e it S : Addr) (i : Nat) : Prop := (∃ old, IsEnum h e it i old) ∨ ∃ a f old oa, EnO h e it i a f old ∧ h.get? a = some oa ∧ a ≠ e ∧ a ≠ it ∧ a ≠ S
theorem en_next {S : Addr} {i : Nat} {its : Array Value} {x : Value} {Q : Option Value → Shared → Prop} (he : EnSt s.heap e it S i) (hi : s.heap.IsListIter it l i) (hl : s.heap.IsList l its) (hx : its[i]? = some x) (ne : e ≠ it) (hS : S < s.heap.objs.size)
    (hQ : ∀ h', EnSt h' e it S (i + 1) → h'.IsListIter it l (i + 1) → h'.get? s.heap.objs.size = some { cls := .type "tuple", data := .seq #[.int i s.toks, x] } → h'.objs.size = s.heap.objs.size + 1 →
      (∀ b o, b ≠ e → b ≠ it → s.heap.get? b = some o → h'.get? b = some o) → Q (some (.ref s.heap.objs.size)) { s with heap := h', toks := s.toks + 1 }) :
    wpAny (model prog w) A (pyNext (.ref e)) Q E s := by
  have li : it < s.heap.objs.size := by obtain ⟨_, q, _⟩ := hi; exact Heap.lt_size q
  rcases he with ⟨old, he⟩ | ⟨a, f, old, oa, he, ha, ae, ai, aS⟩
  · have le : e < s.heap.objs.size := Heap.lt_size he
    exact wpAny_pyNext_enum_item he hi hl hx ne fun h' q1 q2 q3 q4 q5 => hQ h' (.inr ⟨_, _, _, _, q1, q3, Nat.ne_of_gt le, Nat.ne_of_gt li, Nat.ne_of_gt hS⟩) q2 q3 q4 q5
  · have hT : s.TypeIs (.ref e) "enumerate" := ⟨_, he, rfl⟩
    unfold pyNext
    refine wpAny_bind (wpAny_attempt (wpAny_callSpecial?_slot (name := Str.ofString "__next__") hT PySem.F.slot_enumerate_next (wpAny_call_entry PySem.F.slot_enumerate_next hT PySem.F.entry_enumerate_next ?_ (PySem.F.args_enumerate_next_1 _))))
    exact eno_code he hi hl hx ne ha ae ai fun h' q1 q2 q3 q4 q5 => wpAny_pure (hQ h' (.inr ⟨_, _, _, _, q1, q5 a oa ae ai ha, ae, ai, aS⟩) q2 q3 q4 q5)
theorem en_done {S : Addr} {i : Nat} {its : Array Value} {Q : Option Value → Shared → Prop} (hh : A.handled = none) (he : EnSt s.heap e it S i) (hi : s.heap.IsListIter it l i) (hl : s.heap.IsList l its) (hx : its[i]? = none)
    (hQ : ∀ h', Heap.ExtBut it s.heap h' → Q none { s with heap := h' }) : wpAny (model prog w) A (pyNext (.ref e)) Q E s := by
  rcases he with ⟨old, he⟩ | ⟨a, f, old, oa, he, _⟩
  · exact wpAny_pyNext_enum_end hh he hi hl hx hQ
  · exact eno_end hh he hi hl hx hQ
theorem EnSt.keep {S : Addr} {h h' : Heap} {i : Nat} (q : EnSt h e it S i) (k : ∀ b o, b ≠ S → h.get? b = some o → h'.get? b = some o) (n : e ≠ S) : EnSt h' e it S i := by
  rcases q with ⟨old, q⟩ | ⟨a, f, old, oa, q, qa, ae, ai, aS⟩
  · exact .inl ⟨old, k _ _ n q⟩
  · exact .inr ⟨a, f, old, oa, k _ _ n q, k _ _ aS qa, ae, ai, aS⟩
/-- the pairs that stand so far -/
structure EnG (its : Array Value) (lo : Addr) (h : Heap) (as : List Addr) : Prop where
  rise : as.Pairwise (· < ·)
  above : ∀ a ∈ as, lo < a
  at_ : ∀ (j : Nat) (a : Addr), as[j]? = some a → ∃ x t, its[j]? = some x ∧ h.get? a = some { cls := .type "tuple", data := .seq #[.int j t, x] }
theorem EnG.lt {its : Array Value} {lo : Addr} {h : Heap} {as : List Addr} (g : EnG its lo h as) {b : Addr} (hb : b ∈ as) : b < h.objs.size := by
  obtain ⟨j, hj⟩ := List.mem_iff_getElem?.mp hb
  obtain ⟨x, t, _, q⟩ := g.at_ j b hj
  exact Heap.lt_size q
section
variable {R : Result → Shared → Prop} {its : Array Value}
theorem en_loop {S : Addr} (hh : A.handled = none) (nSe : S ≠ e) (nSi : S ≠ it) (ne : e ≠ it) (lS : l ≠ S) (le : l ≠ e) (li : l ≠ it) (hn : its.size ≤ sizeLine) (res : Value) {lo : Addr} (Slo : S ≤ lo) (elo : e ≤ lo) (ilo : it ≤ lo) {h0 : Heap}
    (hR : ∀ h' tk acc c as, (∀ b o, b ≠ S → b ≠ e → b ≠ it → h0.get? b = some o → h'.get? b = some o) → h'.get? S = some { cls := .type "list", data := .seq acc c } → as.length = its.size → EnG its lo h' as → acc.toList = as.map Value.ref →
      R (.ok (.ret res)) { s with heap := h', toks := tk }) :
    ∀ (k i : Nat) (h : Heap) (tk c : Nat) (acc : Array Value) (as : List Addr), its.size = i + k → EnSt h e it S i → h.IsListIter it l i → h.IsList l its → (∀ b o, b ≠ S → b ≠ e → b ≠ it → h0.get? b = some o → h.get? b = some o) →
      h.get? S = some { cls := .type "list", data := .seq acc c } → acc.toList = as.map Value.ref → as.length = i → EnG its lo h as → lo < h.objs.size →
      codeAny (model prog w) A (.builtin "list.extend.loop" ⟨[.ref S, .ref e, res], []⟩) R { s with heap := h, toks := tk } := by
  intro k
  induction k with
  | zero =>
    intro i h tk c acc as hk q1 q2 q3 q4 q5 q6 q7 q8 q9
    refine codeAny_builtin PySem.F.entry_extend_loop ?_
    rw [Around.under_plainId PySem.F.plain_extend_loop _]
    show wpAny _ A.in1 (pyNext (.ref e) >>= _) _ _ _
    refine wpAny_bind (en_done (s := { s with heap := h, toks := tk }) (A := A.in1) hh q1 q2 q3 (Array.getElem?_eq_none (by omega)) fun h' z => wpAny_pure ?_)
    refine hR h' tk acc c as (fun b o n1 n2 n3 y => z b o n3 (q4 b o n1 n2 n3 y)) (z S _ nSi q5) (by omega) ⟨q8.rise, q8.above, fun j b hj => ?_⟩ q6
    obtain ⟨x, t, y1, y2⟩ := q8.at_ j b hj
    exact ⟨x, t, y1, z b _ (Nat.ne_of_gt (Nat.lt_of_le_of_lt ilo (q8.above b (List.mem_of_getElem? hj)))) y2⟩
  | succ k ih =>
    intro i h tk c acc as hk q1 q2 q3 q4 q5 q6 q7 q8 q9
    have hx : its[i]? = some its[i] := Array.getElem?_eq_getElem (by omega)
    have sz : acc.size = i := by rw [← Array.length_toList, q6, List.length_map, q7]
    refine codeAny_builtin PySem.F.entry_extend_loop ?_
    rw [Around.under_plainId PySem.F.plain_extend_loop _]
    show wpAny _ A.in1 (pyNext (.ref e) >>= _) _ _ _
    refine wpAny_bind (en_next (s := { s with heap := h, toks := tk }) (S := S) q1 q2 q3 hx ne (Heap.lt_size q5) fun h' y1 y2 y3 y4 y5 => ?_)
    dsimp only at y3 y4 y5 ⊢
    have S' := y5 S _ nSe nSi q5
    have Sl : S < h.objs.size := Heap.lt_size q5
    have up : ∀ b o, b ≠ S → h'.get? b = some o → (h'.update S (Obj.mapSeq (·.push (Value.ref h.objs.size)))).get? b = some o := fun b o n y => (Heap.get?_update_other _ _ (Ne.symm n)).trans y
    show wpAny _ A.in1 (updateSeq S (·.push (Value.ref h.objs.size)) >>= _) _ _ _
    refine wpAny_bind (wpAny_updateSeq S' rfl (wpAny_pure ⟨plainId_quiet PySem.F.plain_extend_loop _, ih (i + 1) _ (tk + 1) _ (acc.push (Value.ref h.objs.size)) (as ++ [h.objs.size]) (by omega) (y1.keep up (Ne.symm nSe)) (y2.at fun o y => up it o (Ne.symm nSi) y)
      ((q3.at fun o y => y5 l o le li y).at fun o y => up l o lS y) (fun b o n1 n2 n3 y => up b o n1 (y5 b o n2 n3 (q4 b o n1 n2 n3 y))) (Heap.get?_update_self _ S' rfl) (by rw [Array.toList_push, q6, List.map_append]; rfl) (by rw [List.length_append, q7]; rfl) ⟨?_, ?_, ?_⟩ ?_⟩) (by rw [sz]; omega)
      (by show (acc.push (Value.ref h.objs.size)).size ≤ sizeLine + 1; rw [Array.size_push, sz]; omega))
    · refine List.pairwise_append.mpr ⟨q8.rise, List.pairwise_singleton _ _, fun b hb b' hb' => ?_⟩
      rw [List.mem_singleton.mp hb']
      exact q8.lt hb
    · intro b hb
      rcases List.mem_append.mp hb with hb | hb
      · exact q8.above b hb
      · rw [List.mem_singleton.mp hb]; exact q9
    · intro j b hj
      by_cases c1 : j < as.length
      · rw [List.getElem?_append_left c1] at hj
        obtain ⟨x, t, z1, z2⟩ := q8.at_ j b hj
        have hb := q8.above b (List.mem_of_getElem? hj)
        exact ⟨x, t, z1, up b _ (Nat.ne_of_gt (Nat.lt_of_le_of_lt Slo hb)) (y5 b _ (Nat.ne_of_gt (Nat.lt_of_le_of_lt elo hb)) (Nat.ne_of_gt (Nat.lt_of_le_of_lt ilo hb)) z2)⟩
      · by_cases c2 : j = as.length
        · subst c2
          have hb : h.objs.size = b := by simpa using hj
          subst hb
          exact ⟨its[i], tk, by rw [q7]; exact hx, by rw [q7]; exact up _ _ (Nat.ne_of_gt Sl) y3⟩
        · rw [List.getElem?_eq_none (by simp; omega)] at hj
          cases hj
    · have : (h'.update S (Obj.mapSeq (·.push (Value.ref h.objs.size)))).get? h.objs.size = _ := up _ _ (Nat.ne_of_gt Sl) y3
      exact Nat.lt_trans q9 (Heap.lt_size this)
end
theorem en_nolen : typeLookup (.type "enumerate") "__len__" = pure none := by rw [typeLookup_type, builtinLookup_eq_fast]; kernel_rfl
theorem en_nohint : typeLookup (.type "enumerate") "__length_hint__" = pure none := by rw [typeLookup_type, builtinLookup_eq_fast]; kernel_rfl
theorem en_hint {e : Addr} (hT : s.TypeIs (.ref e) "enumerate") {Q : Bool → Shared → Prop} (h : Q true s) : wpAny (model prog w) A (Builtin.List.listLengthHint (.ref e)) Q E s := by
  unfold Builtin.List.listLengthHint
  refine wpAny_bind (wpAny_specialOf hT en_nolen ?_)
  show wpAny _ _ (specialOf (Value.ref e) (Str.ofString "__length_hint__") >>= _) _ _ _
  refine wpAny_bind (wpAny_specialOf hT en_nohint ?_)
  exact wpAny_pure h
theorem en_extend {R : Result → Shared → Prop} {its : Array Value} {S : Addr} {c0 : Nat} (hh : A.handled = none) (he : IsEnum s.heap e it 0 .none) (hi : s.heap.IsListIter it l 0) (hl : s.heap.IsList l its) (ne : e ≠ it) (lS : l ≠ S) (le : l ≠ e) (li : l ≠ it) (eS : e < S) (iS : it < S)
    (hn : its.size ≤ sizeLine) (res : Value) (hS : s.heap.get? S = some { cls := .type "list", data := .seq #[] c0 })
    (hR : ∀ h' tk acc c as, (∀ b o, b ≠ S → b ≠ e → b ≠ it → s.heap.get? b = some o → h'.get? b = some o) → h'.get? S = some { cls := .type "list", data := .seq acc c } → as.length = its.size → EnG its S h' as → acc.toList = as.map Value.ref →
      R (.ok (.ret res)) { s with heap := h', toks := tk }) :
    wpAny (model prog w) A.in1 (Builtin.List.listExtendWith (.ref S) (.ref e) res)
      (fun fin s' => match fin with | .done f => R (.ok f) s' | .again c' => c'.quiet = true ∧ codeAny (model prog w) A c' R s') (fun e s' => R (.error e) s') s := by
  have hT : s.TypeIs (.ref e) "enumerate" := ⟨_, he, rfl⟩
  have key : ∀ (h : Heap) (c1 tk : Nat), (∀ b o, b ≠ S → s.heap.get? b = some o → h.get? b = some o) → h.get? S = some { cls := .type "list", data := .seq #[] c1 } →
      codeAny (model prog w) A (.builtin "list.extend.loop" ⟨[.ref S, .ref e, res], []⟩) R { s with heap := h, toks := tk } := by
    intro h c1 tk hk h1
    have Sl : S < h.objs.size := Heap.lt_size h1
    exact en_loop (s := s) (h0 := s.heap) hh (Nat.ne_of_gt eS) (Nat.ne_of_gt iS) ne lS le li hn res (Nat.le_refl S) (Nat.le_of_lt eS) (Nat.le_of_lt iS) hR its.size 0 h tk c1 #[] [] (Nat.zero_add _).symm (.inl ⟨.none, hk e _ (Nat.ne_of_lt eS) he⟩)
      (hi.at fun o y => hk it o (Nat.ne_of_lt iS) y) (hl.at fun o y => hk l o lS y) (fun b o n1 _ _ y => hk b o n1 y) h1 rfl rfl ⟨List.Pairwise.nil, (fun _ z => nomatch z), fun j b hj => by simp at hj⟩ Sl
  unfold Builtin.List.listExtendWith
  refine wpAny_bind (wpAny_typeOf (T := "enumerate") hT ?_)
  have h1 : Builtin.List.listSameRef (.ref S) (.ref e) = false := by simp [Builtin.List.listSameRef, Nat.ne_of_gt eS]
  have h2 : (Value.type "enumerate" == Value.type "list") = false := by decide
  have h3 : (Value.type "enumerate" == Value.type "tuple") = false := by decide
  simp only [h1, h2, h3, Bool.or_false, Bool.false_eq_true, if_false]
  refine wpAny_bind (wpAny_pyIter_enum he ?_)
  refine wpAny_bind (wpAny_holding (en_hint hT ?_))
  refine wpAny_ite_split (fun _ => ?_) (fun _ => wpAny_pure ⟨plainId_quiet PySem.F.plain_extend_loop _, key _ c0 _ (fun b o _ y => y) hS⟩)
  refine wpAny_bind (wpAny_rule (wpAny_bind ?_))
  show wpAny _ _ (updateSeq S (·.push .none) >>= fun _ => updateSeq S (·.pop)) _ _ _
  refine wpAny_bind (wpAny_updateSeq hS rfl ?_)
  have S2 := Heap.get?_update_self (Obj.mapSeq (·.push Value.none)) hS rfl
  refine wpAny_updateSeq (hz := by seq_fits) S2 rfl ?_
  have S3 := Heap.get?_update_self (Obj.mapSeq (·.pop)) S2 rfl
  exact wpAny_pure ⟨plainId_quiet PySem.F.plain_extend_loop _, key _ _ _ (fun b o n y => (Heap.get?_update_other _ _ (Ne.symm n)).trans ((Heap.get?_update_other _ _ (Ne.symm n)).trans y)) S3⟩
theorem en_list {its : Array Value} {Q : Value → Shared → Prop} (hh : A.handled = none) (he : IsEnum s.heap e it 0 .none) (hi : s.heap.IsListIter it l 0) (hl : s.heap.IsList l its) (ne : e ≠ it) (le : l ≠ e) (li : l ≠ it) (hn : its.size ≤ sizeLine)
    (hQ : ∀ h' tk acc c as, (∀ b o, b ≠ e → b ≠ it → s.heap.get? b = some o → h'.get? b = some o) → h'.get? s.heap.objs.size = some { cls := .type "list", data := .seq acc c } → as.length = its.size → EnG its s.heap.objs.size h' as → acc.toList = as.map Value.ref →
      Q (.ref s.heap.objs.size) { s with heap := h', toks := tk }) :
    wpAny (model prog w) A (call (.type "list") [.ref e]) Q E s := by
  have lt1 : e < s.heap.objs.size := Heap.lt_size he
  have lt2 : it < s.heap.objs.size := by obtain ⟨_, q, _⟩ := hi; exact Heap.lt_size q
  have lt3 : l < s.heap.objs.size := by obtain ⟨_, q, _⟩ := hl; exact Heap.lt_size q
  refine callType_codes (Q₁ := fun obj s1 => obj = .ref s.heap.objs.size ∧ s1 = { s with heap := s.heap.push { cls := .type "list", data := .seq #[] } }) PySem.F.called_list (PySem.F.typeCall_list_1 _) PySem.F.entry_list_init (code_list_new _ ⟨rfl, rfl⟩) fun obj s1 z => ?_
  obtain ⟨rfl, rfl⟩ := z
  have hS : (s.heap.push { cls := .type "list", data := .seq #[] }).get? s.heap.objs.size = some { cls := .type "list", data := .seq #[] } := Heap.get?_push_size _ rfl
  refine ⟨⟨_, hS, rfl⟩, PySem.F.args_list_init_2 _ _, ?_⟩
  show wpAny _ _ (do let old ← Builtin.List.listItems (.ref s.heap.objs.size); Builtin.List.listUpdate (.ref s.heap.objs.size) (fun _ => #[]); letGo old.toList.reverse; Builtin.List.listExtendWith (.ref s.heap.objs.size) (.ref e) .none) _ _ _
  refine wpAny_bind ?_
  unfold Builtin.List.listItems
  refine wpAny_bind (wpAny_seqItems hS rfl (wpAny_pure ?_))
  show wpAny _ _ (updateSeq s.heap.objs.size (fun _ => #[]) >>= fun _ => letGo (#[] : Array Value).toList.reverse >>= fun _ => Builtin.List.listExtendWith (.ref s.heap.objs.size) (.ref e) .none) _ _ _
  refine wpAny_bind (wpAny_updateSeq hS rfl ?_)
  have S2 := Heap.get?_update_self (Obj.mapSeq (fun _ => (#[] : Array Value))) hS rfl
  have oth : ∀ b o, s.heap.get? b = some o → ((s.heap.push { cls := .type "list", data := .seq #[] }).update s.heap.objs.size (Obj.mapSeq (fun _ => (#[] : Array Value)))).get? b = some o := fun b o y =>
    (Heap.get?_update_other _ _ (Nat.ne_of_gt (Heap.lt_size y))).trans (Heap.get?_push_of_some _ y)
  refine wpAny_bind (wpAny_letGo ?_)
  refine en_extend (A := A.in1) hh (oth _ _ he) (hi.at fun o y => oth it o y) (hl.at fun o y => oth l o y) ne (Nat.ne_of_lt lt3) le li lt1 lt2 hn .none S2 fun h' tk acc c as q1 q2 q3 q4 q5 => ?_
  exact ⟨rfl, hQ h' tk acc c as (fun b o n1 n2 y => q1 b o (Nat.ne_of_lt (Heap.lt_size y)) n1 n2 (oth b o y)) q2 q3 q4 q5⟩
end
/-- the pairs' tuples, tracked from turn k on -/
def putE : Hp → Nat → List Addr → List V → Hp
  | H, k, a :: as, x :: xs => putE (upd H a (.tup [.int (k : Nat), x])) (k + 1) as xs
  | H, _, _, _ => H
theorem putE_off {b : Addr} : ∀ (as : List Addr) (xs : List V) (k : Nat) (H : Hp), b ∉ as → putE H k as xs b = H b
  | [], _, _, _, _ => rfl
  | _ :: _, [], _, _, _ => rfl
  | a :: as, x :: xs, k, H, h => by
    have h1 : b ≠ a := fun z => h (z ▸ List.mem_cons_self)
    have h2 : b ∉ as := fun z => h (List.mem_cons_of_mem _ z)
    unfold putE
    rw [putE_off as xs _ _ h2, upd_ne h1]
theorem putE_on : ∀ (as : List Addr) (xs : List V) (k : Nat) (H : Hp) (j : Nat) (a : Addr) (x : V), as.Nodup → as[j]? = some a → xs[j]? = some x → putE H k as xs a = some (.tup [.int ((k + j : Nat) : Int), x])
  | [], _, _, _, _, _, _, _, h, _ => by simp at h
  | _ :: _, [], _, _, _, _, _, _, _, h => by simp at h
  | a :: as, x :: xs, k, H, 0, b, y, hn, h1, h2 => by
    have e1 : a = b := by simpa using h1
    have e2 : x = y := by simpa using h2
    subst e1; subst e2
    unfold putE
    rw [putE_off as xs _ _ (List.nodup_cons.mp hn).1, upd_same]
    rfl
  | a :: as, x :: xs, k, H, j + 1, b, y, hn, h1, h2 => by
    have ih := putE_on as xs (k + 1) (upd H a (.tup [.int (k : Nat), x])) j b y (List.nodup_cons.mp hn).2 (by simpa using h1) (by simpa using h2)
    unfold putE
    rw [ih, show k + 1 + j = k + (j + 1) by omega]
def tListEnum (K : PySem.W.Frag) (ta : TE) : TE := fun σ H Q => ta σ H fun x H1 => ∃ (l : Addr) (xs : List V), x = .ref l ∧ SqL K H1 l xs ∧ ∀ (H' : Hp) (p : Addr) (ts : List Addr), Same H1 H' → H1 p = none → (∀ t ∈ ts, H1 t = none ∧ t ≠ p) → H' p = some (.lst (ts.map V.ref)) → ts.length = xs.length →
  (∀ (j : Nat) (t : Addr) (x : V), ts[j]? = some t → xs[j]? = some x → H' t = some (.tup [.int (j : Nat), x])) → Q (.ref p) H'
section
variable {X : Cx} {e : Expr} {te : TE} {p p2 pos cpos : Pos}
theorem vals_ref : ∀ as : List Addr, Vals (as.map V.ref) (as.map Value.ref)
  | [] => .nil
  | _ :: as => .cons rfl (vals_ref as)
theorem enum_laid {pins : List (Addr × Obj)} {σ : L2.St} {H : Hp} {s : Shared} {h' : Heap} {tk : Nat} {xs : List V} {its : List Value} {acc : Array Value} {c : Nat} {as : List Addr} {q : Addr} (I : Inv X pins σ H s) (hz : xs.length ≤ sizeLine) (rv : Vals xs its) (hq : s.heap.objs.size ≤ q)
    (hk : ∀ b o, s.heap.get? b = some o → h'.get? b = some o) (hS : h'.get? q = some { cls := .type "list", data := .seq acc c }) (hl : as.length = its.length) (hG : EnG its.toArray q h' as) (ha : acc.toList = as.map Value.ref) :
    ∃ H' : Hp, Same H H' ∧ H q = none ∧ (∀ t ∈ as, H t = none ∧ t ≠ q) ∧ H' q = some (.lst (as.map V.ref)) ∧ as.length = xs.length ∧ (∀ (j : Nat) (t : Addr) (x : V), as[j]? = some t → xs[j]? = some x → H' t = some (.tup [.int (j : Nat), x])) ∧ Inv X pins σ H' { s with heap := h', toks := tk } := by
  have lx : xs.length = its.length := rv.length
  have nd : as.Nodup := List.Pairwise.imp (fun {a b} (h : a < b) => Nat.ne_of_lt h) hG.rise
  have nw : ∀ t ∈ as, H t = none := fun t ht => I.hok.fresh (Nat.le_trans hq (Nat.le_of_lt (hG.above t ht)))
  have nq : H q = none := I.hok.fresh hq
  have qn : ∀ t ∈ as, t ≠ q := fun t ht z => Nat.lt_irrefl _ (z ▸ hG.above t ht)
  obtain ⟨H', hH'⟩ : ∃ H', H' = putE (upd H q (.lst (as.map V.ref))) 0 as xs := ⟨_, rfl⟩
  have off : ∀ b, b ∉ as → b ≠ q → H' b = H b := fun b h1 h2 => by rw [hH', putE_off _ _ _ _ h1, upd_ne h2]
  have on : ∀ (j : Nat) (t : Addr) (x : V), as[j]? = some t → xs[j]? = some x → H' t = some (.tup [.int (j : Nat), x]) := fun j t x h1 h2 => by
    rw [hH', putE_on as xs 0 _ j t x nd h1 h2, Nat.zero_add]
  have eq : H' q = some (.lst (as.map V.ref)) := by rw [hH', putE_off _ _ _ _ (fun z => qn q z rfl), upd_same]
  have kp : Same H H' := fun b u y => by
    rw [off b (fun z => by rw [nw b z] at y; cases y) (fun z => by rw [z, nq] at y; cases y)]
    exact y
  refine ⟨H', kp, nq, fun t ht => ⟨nw t ht, qn t ht⟩, eq, by omega, on, ?_⟩
  refine I.call' (ch := []) rfl ⟨fun b o y _ _ _ => hk b o y, fun b o y _ _ _ => ⟨o.slots, hk b o y⟩, fun b o y n _ => ?_, fun b o y _ => ⟨o, hk b o y⟩, fun b _ y => kp b _ y, fun b o u y => kp b _ y, fun b ps y => ⟨#[], by rw [kp b _ y]; simp⟩⟩ (fun b u y => ?_) I.bare fun b z => by simp at z
  · have lb : b < s.heap.objs.size := Heap.lt_size y
    rw [off b (fun z => Nat.lt_irrefl _ (Nat.lt_trans lb (Nat.lt_of_le_of_lt hq (hG.above b z)))) (fun z => by subst z; exact Nat.lt_irrefl _ (Nat.lt_of_lt_of_le lb hq))]
    exact n
  · by_cases hb : b ∈ as
    · obtain ⟨j, hj⟩ := List.mem_iff_getElem?.mp hb
      have jl : j < as.length := (List.getElem?_eq_some_iff.mp hj).1
      have hx : xs[j]? = some (xs[j]'(by omega)) := List.getElem?_eq_getElem _
      obtain ⟨v, t, e1, e2⟩ := hG.at_ j b hj
      obtain ⟨v', g1, g2⟩ := rv.get hx
      have : v' = v := by
        have e3 : its[j]? = some v := by simpa using e1
        rw [e3] at g1; cases g1; rfl
      subst this
      rw [on j b _ hj hx] at y
      cases y
      exact ⟨by show 2 ≤ sizeLine; decide, [.int j t, v'], .cons ⟨_, rfl⟩ (.cons g2 .nil), ⟨_, e2, rfl, _, rfl⟩⟩
    · by_cases hb2 : b = q
      · subst hb2
        rw [eq] at y
        cases y
        exact ⟨by rw [List.length_map]; omega, acc.toList, c, by rw [ha]; exact vals_ref as, by rw [Array.toArray_toList]; exact hS⟩
      · rw [off b hb hb2] at y
        exact (I.hok b u y).stay (fun d v _ z => hk d v z) (fun d z => kp d _ z) fun d xs z => kp d _ z
theorem pe_listEnum (hc : X.calm = true) (he : PE X e te) (hg : Gl X "list") (hm : X.mg "list" = none) (hg2 : Gl X "enumerate") (hm2 : X.mg "enumerate" = none)
    (hs : starEach [.Call (.Name "enumerate" p2) [e] [] cpos] X.env = (false, eval (.Call (.Name "enumerate" p2) [e] [] cpos) X.env) :: starEach [] X.env := by rfl) (hs2 : starEach [e] X.env = [(false, eval e X.env)] := by rfl) (hs2' : starEach [e] X.env = (false, eval e X.env) :: starEach [] X.env := by rfl) :
    PE X (.Call (.Name "list" p) [.Call (.Name "enumerate" p2) [e] [] cpos] [] pos) (tListEnum X.K te) := by
  refine ⟨fun pins s σ H Q I hq => ?_⟩
  refine Call_ (ld_blt I hg hm boot_list (PyProof.Rows.callWith_type1 ?_ hs rfl))
  rw [hs]
  show wpAny _ _ (spliced ((false, eval (.Call (.Name "enumerate" p2) [e] [] cpos) X.env) :: backTo pos (starEach [] X.env))) _ _ s
  refine Calls.spliced_cons ?_
  have h0 := (pa_cons he pa_nil hs2').run cpos pins s σ H (fun vs H1 => match vs with
    | [x] => ∃ (l : Addr) (xs : List V), x = .ref l ∧ SqL X.K H1 l xs ∧ ∀ (H' : Hp) (p : Addr) (ts : List Addr), Same H1 H' → H1 p = none → (∀ t ∈ ts, H1 t = none ∧ t ≠ p) → H' p = some (.lst (ts.map V.ref)) → ts.length = xs.length →
      (∀ (j : Nat) (t : Addr) (x : V), ts[j]? = some t → xs[j]? = some x → H' t = some (.tup [.int (j : Nat), x])) → Q (.ref p) H'
    | _ => False) I hq
  refine Call_ (ld_blt I hg2 hm2 boot_enumerate (PyProof.Rows.callWith_type1 (thn h0 fun us s1 ⟨vs, H1, I1, r1, q⟩ => ?_) hs2 rfl))
  match vs, r1, q with
  | [x], r1, ⟨l, xs, ex, hl, q⟩ =>
    subst ex
    obtain ⟨u, rfl, ru⟩ := r1.one
    cases ru
    obtain ⟨its, rv, pl, hz⟩ := I1.list hl
    have ll : l < s1.heap.objs.size := by obtain ⟨_, y, _⟩ := pl.isList; exact Heap.lt_size y
    refine call_enumerate_list pl.isList fun h2 he2 hi2 hz2 hk2 => ?_
    refine Calls.spliced_nil ?_
    refine en_list (s := { s1 with heap := h2 }) (its := its.toArray) (I1.ok.hd hc) he2 hi2 (pl.isList.at fun o y => hk2 l o y) (Nat.succ_ne_self _) (Nat.ne_of_lt (Nat.lt_succ_of_lt ll)) (Nat.ne_of_lt ll) (by rw [List.size_toArray, ← rv.length]; exact hz) fun h' tk acc c as q1 q2 q3 q4 q5 => ?_
    have hk : ∀ b o, s1.heap.get? b = some o → h'.get? b = some o := fun b o y => q1 b o (Nat.ne_of_lt (Nat.lt_succ_of_lt (Heap.lt_size y))) (Nat.ne_of_lt (Heap.lt_size y)) (hk2 b o y)
    obtain ⟨H', k1, k2, k3, k4, k5, k6, J⟩ := enum_laid (tk := tk) I1 hz rv (show s1.heap.objs.size ≤ h2.objs.size by omega) hk q2 (by simpa using q3) q4 q5
    exact ⟨.ref _, H', J, rfl, q H' _ as k1 k2 k3 k4 k5 k6⟩
end
end C
namespace C
open PySem PySem.Spec PyProof.Rows L2
section
variable {X : Cx} {cl : Nat → Addr} {a b c e : Expr} {es : List Expr} {fa fb fc : EX} {qa qb qc : QX} {ta tb : TX} {ga : AX} {na : NX} {pos p2 p cpos : Pos} {x : Str}
theorem Reps.of_at {K : PySem.W.Frag} {G : Hp} : ∀ (ms : List MV) (vs : List V), vs.length = ms.length → (∀ (j : Nat) (m : MV) (v : V), ms[j]? = some m → vs[j]? = some v → Rep K cl G m v) → Reps K cl G ms vs
  | [], [], _, _ => Reps.nil
  | [], _ :: _, h, _ => by simp at h
  | _ :: _, [], h, _ => by simp at h
  | m :: ms, v :: vs, h, k => Reps.cons (k 0 m v rfl rfl) (Reps.of_at ms vs (by simpa using h) fun j m v h1 h2 => k (j + 1) m v (by simpa using h1) (by simpa using h2))
/-- list(enumerate(xs)) -/
def nEnum (qa : QX) : NX := fun env Q => qa env fun o => asL o fun ms => Q (.lst (enM ms))
theorem mn_enum (hc : X.calm = true) (ha : MQ X cl a qa) (hg : Gl X "list") (hm : X.mg "list" = none) (hg2 : Gl X "enumerate") (hm2 : X.mg "enumerate" = none)
    (hs : starEach [.Call (.Name "enumerate" p2) [a] [] cpos] X.env = (false, eval (.Call (.Name "enumerate" p2) [a] [] cpos) X.env) :: starEach [] X.env := by rfl) (hs2 : starEach [a] X.env = [(false, eval a X.env)] := by rfl) (hs2' : starEach [a] X.env = (false, eval a X.env) :: starEach [] X.env := by rfl) :
    MN X cl (.Call (.Name "list" p) [.Call (.Name "enumerate" p2) [a] [] cpos] [] pos) (nEnum qa) := by
  refine ⟨fun env Q Q' k q => ha.mo _ _ _ (fun m z => asL_mo (fun _ z => k _ z) z) q, PEmono (pe_listEnum hc ha.pe hg hm hg2 hm2 hs hs2 hs2') fun σ H Q ⟨β, G, env, r0, q⟩ => ?_⟩
  refine ⟨β, G, env, r0, ha.mo _ _ _ (fun o z v H' G' e rv => ?_) q⟩
  obtain ⟨ms, l, vs, rfl, y1, y2, z⟩ := asL_rep e.gh z rv
  refine ⟨l, vs, rfl, SqL.of y1, fun H2 q ts k1 k2 k3 k4 k5 k6 => ?_⟩
  have lm : vs.length = ms.length := Reps.len _ _ y2
  have gn : ∀ b ∈ ts, G' b = none := fun b hb => e.gh.free (k3 b hb).1
  have e2 : Ext H' G' H2 (frzG H2 G' ts) := by
    refine ⟨k1, frzG_same gn, fun b u h => ?_, fun b h1 h2 => ?_⟩
    · unfold frzG at h
      split at h
      · exact h
      · exact k1 b u (e.gh b u h)
    · unfold frzG
      rw [if_neg (fun z => h1 (k3 b z).1)]
      exact h2
  refine z _ _ _ [q] (e.trans e2) ?_ fun b hb => ?_
  · unfold RepO
    refine ⟨q, ts.map V.ref, rfl, rfl, k4, Reps.of_at _ _ (by unfold enM; simp; omega) fun j m v h1 h2 => ?_⟩
    unfold enM at h1
    rw [List.getElem?_mapIdx] at h1
    rw [List.getElem?_map] at h2
    cases em : ms[j]? with
    | none => rw [em] at h1; cases h1
    | some m0 =>
      cases et : ts[j]? with
      | none => rw [et] at h2; cases h2
      | some t =>
        rw [em] at h1; rw [et] at h2
        have h1' : MV.tup [.int (j : Nat), m0] = m := by simpa using h1
        have h2' : V.ref t = v := by simpa using h2
        subst h1'; subst h2'
        obtain ⟨w, w1, w2⟩ := Reps.get _ _ j m0 y2 em
        have tt := k6 j t w et w1
        unfold Rep
        exact ⟨t, [.int (j : Nat), w], rfl, SqT.of (by unfold frzG; rw [if_pos (List.mem_of_getElem? et)]; exact tt), Reps.cons rep_int (Reps.cons (Rep.same e2.gg _ _ w2) Reps.nil)⟩
  · have : b = q := by simpa using hb
    subst this
    refine ⟨e.hh.free k2, ?_, by rw [k4]; simp⟩
    unfold frzG
    rw [if_neg (fun z => (k3 b z).2 rfl)]
    exact e.gh.free k2
/-! range(i, j, -1) -/
@[irreducible] def rdM (lo : Int) (n : Nat) : List MV := (List.range n).map fun i => .int (lo - (i : Nat))
theorem rdM_len {lo : Int} {n : Nat} : (rdM lo n).length = n := by unfold rdM; simp
theorem rdM_at {lo : Int} {n i : Nat} {m : MV} (h : (rdM lo n)[i]? = some m) : i < n ∧ m = .int (lo - i) := by
  unfold rdM at h
  rw [List.getElem?_map] at h
  by_cases c : i < n
  · rw [List.getElem?_range c] at h
    exact ⟨c, by simpa using h.symm⟩
  · rw [List.getElem?_eq_none (by simp; omega)] at h
    cases h
theorem it_rangeD {K : PySem.W.Frag} {G KH : Hp} {lo : Int} {n : Nat} : ItOk K cl (Itc lo (-1) n) (rdM lo n) G KH := by
  refine ⟨YFn fun i => .int (lo - (i : Nat)), ?_, fun i H G1 x H' hi hk hg hh y => ?_⟩
  · rw [rdM_len]
    refine ⟨fun i H hi _ => hi, fun H _ => Nat.le_refl _, fun i H x H' hi _ y => ?_⟩
    obtain ⟨rfl, y⟩ := y
    subst y
    refine ⟨rfl, ?_⟩
    show V.int _ = V.int _
    congr 1
    omega
  · obtain ⟨rfl, y⟩ := y
    subst y
    rw [rdM_len] at hi
    exact ⟨G1, .int (lo - (i : Nat)), Ext.refl hh, by unfold rdM; simp [hi], rep_int⟩
def lRD (qa qb : QX) : LX := fun env Q => qa env fun m => qb env fun n => asFro m fun m => asFro n fun n => asInt m fun i => asInt n fun j => (small i ∧ small j) ∧ Q (rdM i (i - j).toNat)
theorem m_neg1 {j} {p3 : Pos} : PE X (.UnaryOp .USub (.Constant (.int 1) j p2) p3) (fun σ H Q => Q (.int (-1)) H) := PEmono (pe_un un_neg pe_int) fun σ H Q q => ⟨1, rfl, q⟩
theorem mi_rangeD {tg : Expr} {jj} {p3 : Pos} (hg : Gl X "range") (hm : X.mg "range" = none) (ha : MQ X cl a qa) (hb : MQ X cl b qb)
    (hs : starEach [a, b, .UnaryOp .USub (.Constant (.int 1) jj p2) p3] X.env = (false, eval a X.env) :: starEach [b, .UnaryOp .USub (.Constant (.int 1) jj p2) p3] X.env := by rfl)
    (hsb : starEach [b, .UnaryOp .USub (.Constant (.int 1) jj p2) p3] X.env = (false, eval b X.env) :: starEach [.UnaryOp .USub (.Constant (.int 1) jj p2) p3] X.env := by rfl)
    (hsc : starEach [.UnaryOp .USub (.Constant (.int 1) jj p2) p3] X.env = (false, eval (.UnaryOp .USub (.Constant (.int 1) jj p2) p3) X.env) :: starEach [] X.env := by rfl)
    (hpl : (backTo pos (starEach [b, .UnaryOp .USub (.Constant (.int 1) jj p2) p3] X.env)).any (·.1) = false := by rfl) :
    MI X cl tg (.Call (.Name "range" p) [a, b, .UnaryOp .USub (.Constant (.int 1) jj p2) p3] [] pos) (lRD qa qb) := by
  refine ⟨fun env Q Q' k q => ha.mo _ _ _ (fun m z => hb.mo _ _ _ (fun n z => asFro_mo (fun _ z => asFro_mo (fun _ z => asInt_mo (fun _ z => asInt_mo (fun _ z => ⟨z.1, k _ z.2⟩) z) z) z) z) z) q, PImono (pi_range3 hg hm (pa_cons ha.pe (pa_cons hb.pe (pa_cons m_neg1 pa_nil hsc) hsb) hs) hs hpl) fun σ H Q ⟨β, G, env, r0, q⟩ => ?_⟩
  refine ⟨β, G, env, r0, ha.mo _ _ _ (fun m z v H' G' e rv => ?_) q⟩
  refine ⟨β, G', env, r0.ext e, hb.mo _ _ _ (fun n z w H2 G2 e2 rw => ?_) z⟩
  have rv' := Same.repB rv e2
  cases m with
  | fro m =>
    cases n with
    | fro n =>
      unfold RepB at rv' rw
      obtain ⟨i, rfl, rfl, z⟩ := asInt_rep (show asInt m _ from z) rv'
      obtain ⟨j, rfl, rfl, z⟩ := asInt_rep z rw
      exact ⟨i, j, -1, _, rfl, RgC.neg z.1.1.1 z.1.1.2 z.1.2.1 z.1.2.2, z.2 _ H2 G2 G2 (e.trans e2) (Same.refl _) it_rangeD⟩
    | _ => exact (asFro_mo (Q' := fun _ => False) (fun _ z => z) z).elim
  | _ => exact z.elim
/-! sorted(ints), sorted(pairs) -/
def gSortI := onInts fun ns Q => ∀ ns' : List Int, ns'.Perm ns → ns'.Pairwise (· ≤ ·) → Q (.lst (ns'.map .int))
theorem gb_sortI : GB X cl (.builtin "sorted") gSortI := by
  refine ⟨onInts_mo fun i Q Q' k q ns' h1 h2 => k _ (q ns' h1 h2), _, cr_sortedI, fun m x H G Q g r q => ?_⟩
  obtain ⟨p, bs, rfl, h, q⟩ := onInts_rep g q r
  exact ⟨p, bs, rfl, h, fun ns' l h1 h2 hl => q ns' h1 h2 _ _ _ (Ext.new g hl) (new_lst g hl (reps_ints ns'))⟩
/-- xs[::-1] -/
def nRev (qa : QX) : NX := fun env Q => qa env fun o => asL o fun ms => Q (.lst ms.reverse)
theorem mn_rev {j} {p1 p2 p3 : Pos} (ha : MQ X cl a qa) : MN X cl (.Subscript a (.Slice none none (some (.UnaryOp .USub (.Constant (.int 1) j p1) p2)) p3) pos) (nRev qa) := by
  refine ⟨fun env Q Q' k q => ha.mo _ _ _ (fun m z => asL_mo (fun _ z => k _ z) z) q, PEmono (pe_revL ha.pe) fun σ H Q ⟨β, G, env, r0, q⟩ => ?_⟩
  refine ⟨β, G, env, r0, ha.mo _ _ _ (fun o z v H' G' e rv => ?_) q⟩
  obtain ⟨ms, l, vs, rfl, y1, y2, z⟩ := asL_rep e.gh z rv
  exact ⟨l, vs, rfl, SqL.of y1, fun p hp => new_own (Q := fun _ v H => Q v H) e hp (Reps.rev _ _ y2) z⟩
/-! x in xs, of ints -/
def gInI (neg : Bool) : GR := fun m n Q => asFro m fun m => asInt m fun i => asL n fun ms => match intsL ms with
  | some ns => Q (neg ^^ dB (i ∈ ns))
  | none => False
theorem gInI_mo {neg : Bool} : ∀ m n (Q Q' : Bool → Prop), (∀ k, Q k → Q' k) → gInI neg m n Q → gInI neg m n Q' := fun m n Q Q' k q =>
  asFro_mo (fun _ z => asInt_mo (fun _ z => asL_mo (fun _ z => by
    split at z
    · exact k _ z
    · exact z) z) z) q
theorem inV_ints (i : Int) (ns : List Int) : inV (.int i) (ns.map V.int) = dB (i ∈ ns) := by
  rw [dB_eq]
  unfold inV
  rw [List.any_map, Bool.eq_iff_iff, List.any_eq_true, decide_eq_true_iff]
  constructor
  · rintro ⟨y, h1, h2⟩
    have : y = i := by simpa [eqV] using h2
    exact this ▸ h1
  · intro h
    exact ⟨i, h, by simp [eqV]⟩
theorem gInI_out {neg : Bool} {K : PySem.W.Frag} {H G : Hp} {m n : OV} {x y : V} {Q : Bool → Prop} (g : Same G H) (rx : RepB K cl H G m x) (ry : RepB K cl H G n y) (q : gInI neg m n Q) : ∃ (p : Addr) (i : Int) (ns : List Int), x = .int i ∧ y = .ref p ∧ SqL K H p (ns.map V.int) ∧ Q (neg ^^ inV (.int i) (ns.map V.int)) := by
  cases m with
  | fro m =>
    unfold RepB at rx
    obtain ⟨i, rfl, rfl, q⟩ := asInt_rep (show asInt m _ from q) rx
    obtain ⟨ms, p, vs, rfl, h2, h3, q⟩ := asL_rep g q ry
    split at q
    · rename_i ns e
      rw [ints_rep e h3] at h2
      exact ⟨p, i, ns, rfl, rfl, SqL.of h2, by rw [inV_ints]; exact q⟩
    · exact q.elim
  | _ => exact q.elim
theorem ints_flat (ns : List Int) : (ns.map V.int).all flatV = true := by
  rw [List.all_map, List.all_eq_true]
  intro i _
  rfl
theorem gc_in : GC X cl .In (gInI false) := by
  refine ⟨gInI_mo, _, op_in_seq, fun m n x y H G Q g rx ry q => ?_⟩
  obtain ⟨p, i, ns, rfl, rfl, h, q⟩ := gInI_out (Q := fun k => Q (.bl k) H) g rx ry q
  exact ⟨p, _, rfl, .inl h, rfl, ints_flat ns, by simpa using q⟩
theorem gc_notin : GC X cl .NotIn (gInI true) := by
  refine ⟨gInI_mo, _, op_notIn_seq, fun m n x y H G Q g rx ry q => ?_⟩
  obtain ⟨p, i, ns, rfl, rfl, h, q⟩ := gInI_out (Q := fun k => Q (.bl k) H) g rx ry q
  exact ⟨p, _, rfl, .inl h, rfl, ints_flat ns, by simpa using q⟩
end
end C
namespace C
open PySem PySem.Spec PyProof.Rows L2
section
variable {X : Cx} {cl : Nat → Addr} {pos : Pos} {x : Str}
theorem m_globI {i : Int} (hg : Gl X x) (hm : ∃ t, X.mg x = some (.int i t)) (hd : (x == ("__debug__" : Str)) = false := by decide) : ME X cl (.Name x pos) (eK (.int i)) := by
  obtain ⟨t, hm⟩ := hm
  exact ⟨fun _ _ _ k q => k _ q, PEmono (pe_glob hg hm (v := .int i) ⟨t, rfl⟩ hd) fun σ H Q ⟨β, G, env, r0, q⟩ => q _ H G (Ext.refl r0.gh) rep_int⟩
theorem m_globS {i : Str} (hg : Gl X x) (hm : ∃ t, X.mg x = some (.str i t)) (hd : (x == ("__debug__" : Str)) = false := by decide) : ME X cl (.Name x pos) (eK (.str i)) := by
  obtain ⟨t, hm⟩ := hm
  exact ⟨fun _ _ _ k q => k _ q, PEmono (pe_glob hg hm (v := .str i) ⟨t, rfl⟩ hd) fun σ H Q ⟨β, G, env, r0, q⟩ => q _ H G (Ext.refl r0.gh) rep_str⟩
end
end C
namespace C
open PySem PySem.Spec PyProof.Rows L2
section
variable {X : Cx} {cl : Nat → Addr} {W : WX} {e : Expr} {fa : EX} {na : NX} {pos : Pos}
/-- a list that nobody holds gets an item -/
def xAppN (na : NX) (fa : EX) : XX := fun env Q _ => na env fun o => match o with
  | .lst ms => fa env fun m => ms.length < sizeLine ∧ Q (.fro .non) env
  | _ => False
theorem mx_appN {o : Expr} {apos cpos : Pos} (ho : MN X cl o na) (ha : ME X cl e fa) (he : starEach [e] X.env = (false, eval e X.env) :: starEach [] X.env := by rfl)
    (hbase : attributeBase o "append" X.env (eval o X.env) = eval o X.env := by rfl)
    (hfew : ((backTo cpos (starEach [e] X.env)).all (fun x => !x.1) && (backToKw cpos (keywordEach [] X.env)).all (fun x => x.1.isSome) && decide ([e].length + ([] : List Keyword).length + (if ([] : List Keyword).isEmpty then 0 else 1) < 30)) = true := by rfl)
    (hline : (apos.endLine == cpos.line) = true := by rfl) : MX X cl W (.Call (.Attribute o "append" apos) [e] [] cpos) (xAppN na fa) := by
  refine ⟨fun env Q Q' E E' k _ q => ?_, PEmono (pe_bm PySem.F.plainAttrs_list PySem.F.slot_list_append PySem.F.type_list_append mt_append ho.pe (pa_cons ha.pe pa_nil he) hbase hfew hline he rfl) fun σ H Q ⟨β, G, env, r0, q⟩ => ?_⟩
  · unfold xAppN at q ⊢
    refine ho.mo _ _ _ (fun o z => ?_) q
    split at z
    · exact ha.mo _ _ _ (fun m z => ⟨z.1, k _ _ z.2⟩) z
    · exact z.elim
  · unfold xAppN at q
    refine ⟨β, G, env, r0, ho.mo _ _ _ (fun o z v H' G' Xs e1 ro hX => ?_) q⟩
    split at z
    · unfold RepO at ro
      obtain ⟨p, vs, rfl, rfl, hp1, hp2⟩ := ro
      have hXp := hX p (by simp)
      refine ⟨.inl ⟨rfl, vs, SqL.of hp1⟩, β, G', env, r0.ext e1, ha.mo _ _ _ (fun m z2 w H2 G2 e2 rv => ?_) z⟩
      refine ⟨p, vs, w, rfl, rfl, e2.hh p _ hp1, by rw [Reps.len _ _ hp2]; exact z2.1, ?_⟩
      have hh : Same H (upd H2 p (.lst (vs ++ [w]))) := fun b u q => upd_off (fun y => by subst y; rw [hXp.1] at q; cases q) ((e1.hh.trans e2.hh) b u q)
      exact z2.2 .non _ G [] (r0.ext ⟨hh, Same.refl _, fun b u q => hh b u (r0.gh b u q), fun _ _ q => q⟩) (Same.refl _) rn
    · exact z.elim
end
section
variable {X : Cx} {cl : Nat → Addr} {W : WX} {a b c e : Expr} {es : List Expr} {sts : List Stmt} {s : SX} {g : GX} {vs : List Nat} {pos pp : Pos} {i : Nat} {pl : List Nat}
/-- ms_forBE, its place binder ahead (so that the kind of goal is known first) -/
theorem ms_forBE' {fpos : Pos} {elts : List Expr} {kk : Nat} {tpos : Pos} (hp : PassesOwn (model X.prog X.w) X.A X.env X.xe) (hc : X.calm = true) (hgl : Gl X "enumerate") (hm : X.mg "enumerate" = none) (ho : MP X a i pl) (hg : MG X cl (.Tuple elts kk tpos) g vs) (hb : MSs X cl W sts s) (hpl : fld38 pl = true := by rfl)
    (hs1 : starEach [a] X.env = (false, eval a X.env) :: starEach [] X.env := by rfl) (hs2 : starEach [a] X.env = [(false, eval a X.env)] := by rfl) (hs : ∀ x, foldedSetIterable (.Call (.Name "enumerate" pp) [a] [] pos) X.env x = pure x := by intro _; rfl) : MS X cl W (.For (.Tuple elts kk tpos) (.Call (.Name "enumerate" pp) [a] [] pos) sts [] fpos) (forBE i pl g s) :=
  ms_forBE hp hc hgl hm ho hg hb hpl hs1 hs2 hs
end
end C
namespace C
open PySem PySem.Spec PyProof.Rows L2
/-! ### for x in [a, b, c]: x.append(j), where a, b, c are new lists: nobody sees it but x -/
section
variable {X : Cx} {cl : Nat → Addr} {W : WX} {e1 e2 e3 : Expr} {n1 n2 n3 : NX} {pos : Pos} {x : Str} {i : Nat}
def lstO (o : OV) (Q : List MV → Prop) : Prop := match o with
  | .lst ms => ms.length < sizeLine ∧ Q ms
  | _ => False
theorem lstO_mo {o : OV} {Q Q' : List MV → Prop} (k : ∀ m, Q m → Q' m) (h : lstO o Q) : lstO o Q' := by
  unfold lstO at h ⊢
  split at h
  · exact ⟨h.1, k _ h.2⟩
  · exact h
def for3 (i : Nat) (n1 n2 n3 : NX) (j : Int) : SX := fun env k => n1 env fun o1 => lstO o1 fun m1 => n2 env fun o2 => lstO o2 fun m2 => n3 env fun o3 => lstO o3 fun m3 => i < env.length ∧ k.nx (env.set i (.ow (.lst (m3 ++ [.int j]))))
theorem repl {K : PySem.W.Frag} {H G : Hp} {o : OV} {v : V} {Xs : List Addr} {Q : List MV → Prop} (h : RepO K cl H G o v Xs) (q : lstO o Q) : ∃ p vs ms, o = .lst ms ∧ v = .ref p ∧ Xs = [p] ∧ H p = some (.lst vs) ∧ Reps K cl G ms vs ∧ ms.length < sizeLine ∧ Q ms := by
  unfold lstO at q
  split at q
  · unfold RepO at h
    obtain ⟨p, vs, rfl, rfl, h1, h2⟩ := h
    exact ⟨p, vs, _, rfl, rfl, rfl, h1, h2, q.1, q.2⟩
  · exact q.elim
theorem ms_for3 {p1 p2 p3 p4 p5 apos cpos : Pos} {j : Int} {jj} (hp : PassesOwn (model X.prog X.w) X.A X.env X.xe) (hc : X.calm = true) (hN : X.N.Nodup) (hv : Vis X.env.scope x) (h1 : MN X cl e1 n1) (h2 : MN X cl e2 n2) (h3 : MN X cl e3 n3)
    (hi : X.N[i]? = some x := by rfl) (hx : Loc X.env.scope x := by first | exact Or.inl rfl | exact Or.inr rfl) (hf : X.fn x = true ∨ X.env.scope.names.lookup x = some .local := by first | exact .inl rfl | exact .inr rfl | assumption)
    (hd : (x == ("__debug__" : Str)) = false := by decide) (hcd : (x == ("__classdict__" : Str)) = false := by decide)
    (s1 : starEach [e1, e2, e3] X.env = (false, eval e1 X.env) :: starEach [e2, e3] X.env := by rfl) (s2 : starEach [e2, e3] X.env = (false, eval e2 X.env) :: starEach [e3] X.env := by rfl) (s3 : starEach [e3] X.env = (false, eval e3 X.env) :: starEach [] X.env := by rfl)
    (he : starEach [.Constant (.int j) jj p4] X.env = (false, eval (.Constant (.int j) jj p4) X.env) :: starEach [] X.env := by rfl)
    (hbase : attributeBase (.Name x p3) "append" X.env (eval (.Name x p3) X.env) = eval (.Name x p3) X.env := by rfl)
    (hfew : ((backTo cpos (starEach [.Constant (.int j) jj p4] X.env)).all (fun x => !x.1) && (backToKw cpos (keywordEach [] X.env)).all (fun x => x.1.isSome) && decide ([(Expr.Constant (.int j) jj p4)].length + ([] : List Keyword).length + (if ([] : List Keyword).isEmpty then 0 else 1) < 30)) = true := by rfl)
    (hline : (apos.endLine == cpos.line) = true := by rfl) (hsw : swapsWith (.Call (.Attribute (.Name x p3) "append" apos) [.Constant (.int j) jj p4] [] cpos) none p5.line X.env = pure false := by rfl)
    (hs : ∀ y, foldedSetIterable (.List [e1, e2, e3] p2) X.env y = pure y := by intro _; rfl) :
    MS X cl W (.For (.Name x p1) (.List [e1, e2, e3] p2) [.Expr (.Call (.Attribute (.Name x p3) "append" apos) [.Constant (.int j) jj p4] [] cpos) p5] [] pos) (for3 i n1 n2 n3 j) := by
  have pb := pss_one (X := X) (ps_expr (pos := p5) (pe_bm (cpos := cpos) PySem.F.plainAttrs_list PySem.F.slot_list_append PySem.F.type_list_append mt_append (pe_var (pos := p3) hi hv hd hcd) (pa_cons (pe_int (i := j) (j := jj) (pos := p4)) pa_nil he) hbase hfew hline he rfl) hsw)
  have pl := pi_list (X := X) (tg := .Name x p1) (pe_lst (pos := p2) (pa_cons h1.pe (pa_cons h2.pe (pa_cons h3.pe pa_nil s3) s2) s1))
  refine ⟨fun env k k' l q => h1.mo _ _ _ (fun o z => lstO_mo (fun m z => h2.mo _ _ _ (fun o z => lstO_mo (fun m z => h3.mo _ _ _ (fun o z => lstO_mo (fun m z => ⟨z.1, l.nx _ z.2⟩) z) z) z) z) z) q, PSmono (ps_for hp hc pl (pg_name hN hi hx hf) pb hs) fun D σ H ⟨β, G, env, r0, q⟩ => ?_⟩
  refine ⟨β, G, env, r0, h1.mo _ _ _ (fun o1 z v1 H1 G1 X1 x1 ro1 f1 => ?_) q⟩
  obtain ⟨q1, vs1, ms1, rfl, rfl, rfl, a1, b1, c1, z⟩ := repl ro1 z
  have g1 := f1 q1 (by simp)
  refine ⟨β, G1, env, r0.ext x1, h2.mo _ _ _ (fun o2 z v2 H2 G2 X2 x2 ro2 f2 => ?_) z⟩
  obtain ⟨q2, vs2, ms2, rfl, rfl, rfl, a2, b2, c2, z⟩ := repl ro2 z
  have g2 := f2 q2 (by simp)
  refine ⟨β, G2, env, (r0.ext x1).ext x2, h3.mo _ _ _ (fun o3 z v3 H3 G3 X3 x3 ro3 f3 => ?_) z⟩
  obtain ⟨q3, vs3, ms3, rfl, rfl, rfl, a3, b3, c3, z⟩ := repl ro3 z
  have g3 := f3 q3 (by simp)
  refine ⟨(by decide : 3 ≤ sizeLine), fun p hp0 => ⟨p, rfl, ⟨_, SqL.of upd_same⟩, ?_⟩⟩
  obtain ⟨il, z⟩ := z
  have iσ : i < σ.length := by rw [← r0.len]; exact il
  -- what stands where
  have k1 : H3 q1 = some (.lst vs1) := x3.hh _ _ (x2.hh _ _ a1)
  have k2 : H3 q2 = some (.lst vs2) := x3.hh _ _ a2
  have d21 : q2 ≠ q1 := fun y => by rw [y] at g2; exact g1.2.2 g2.1
  have d31 : q3 ≠ q1 := fun y => by rw [y, x2.hh _ _ a1] at g3; cases g3.1
  have d32 : q3 ≠ q2 := fun y => by rw [y] at g3; exact g2.2.2 g3.1
  have dp1 : q1 ≠ p := fun y => by rw [y, hp0] at k1; cases k1
  have dp2 : q2 ≠ p := fun y => by rw [y, hp0] at k2; cases k2
  have dp3 : q3 ≠ p := fun y => by rw [y, hp0] at a3; cases a3
  obtain ⟨HP, hHP⟩ : ∃ HP, HP = upd H3 p (.lst [.ref q1, .ref q2, .ref q3]) := ⟨_, rfl⟩
  obtain ⟨A1, hA1⟩ : ∃ A, A = upd HP q1 (.lst (vs1 ++ [.int j])) := ⟨_, rfl⟩
  obtain ⟨A2, hA2⟩ : ∃ A, A = upd A1 q2 (.lst (vs2 ++ [.int j])) := ⟨_, rfl⟩
  obtain ⟨A3, hA3⟩ : ∃ A, A = upd A2 q3 (.lst (vs3 ++ [.int j])) := ⟨_, rfl⟩
  have P0 : HP p = some (.lst [.ref q1, .ref q2, .ref q3]) := by rw [hHP]; exact upd_same
  have P1 : A1 p = some (.lst [.ref q1, .ref q2, .ref q3]) := by rw [hA1, upd_ne (Ne.symm dp1)]; exact P0
  have P2 : A2 p = some (.lst [.ref q1, .ref q2, .ref q3]) := by rw [hA2, upd_ne (Ne.symm dp2)]; exact P1
  have P3 : A3 p = some (.lst [.ref q1, .ref q2, .ref q3]) := by rw [hA3, upd_ne (Ne.symm dp3)]; exact P2
  have M1 : HP q1 = some (.lst vs1) := by rw [hHP, upd_ne dp1]; exact k1
  have M2 : A1 q2 = some (.lst vs2) := by rw [hA1, upd_ne d21, hHP, upd_ne dp2]; exact k2
  have M3 : A2 q3 = some (.lst vs3) := by rw [hA2, upd_ne d32, hA1, upd_ne d31, hHP, upd_ne dp3]; exact a3
  rw [← hHP]
  refine ⟨fun n m σ' H' => (n = 0 ∧ m = 3 ∧ σ' = σ ∧ H' = HP) ∨ (n = 1 ∧ m = 2 ∧ σ' = σ.set i (some (.ref q1)) ∧ H' = A1) ∨ (n = 2 ∧ m = 1 ∧ σ' = σ.set i (some (.ref q2)) ∧ H' = A2) ∨ (n = 3 ∧ m = 0 ∧ σ' = σ.set i (some (.ref q3)) ∧ H' = A3), ⟨3, .inl ⟨rfl, rfl, rfl, rfl⟩⟩, ?_⟩
  have turn : ∀ (N : L2.St → Hp → Prop) (D' : Ends) (σ' : L2.St) (H' : Hp) (q : Addr) (vs : List V), σ'.length = σ.length → H' q = some (.lst vs) → vs.length < sizeLine → (∀ σ2 H2, σ2 = σ'.set i (some (.ref q)) → H2 = upd H' q (.lst (vs ++ [.int j])) → N σ2 H2) → gName i (.ref q) σ' H' fun σ2 H2 => tDrop (tBM X.K "list" rAppend (tVar i) (tCons (tC (V.int j)) tNil)) { D' with nx := N } σ2 H2 := fun N D' σ' H' q vs hl hq hs hN => by
    refine ⟨.ref q, ?_, .inl ⟨rfl, vs, SqL.of hq⟩, q, vs, .int j, rfl, rfl, hq, hs, hN _ _ rfl rfl⟩
    rw [List.getElem?_set_self (by omega)]
  have item : ∀ {H' : Hp} {n : Nat} {x : V} {q : Addr}, H' p = some (.lst [.ref q1, .ref q2, .ref q3]) → ([V.ref q1, .ref q2, .ref q3] : List V)[n]? = some (.ref q) → (∀ xs, SqL X.K H' p xs → xs[n]? = some x) → x = .ref q := fun h1 h2 h3 => by
    have := h3 _ (SqL.of h1)
    rw [h2] at this
    exact (Option.some.inj this).symm
  have cvs1 : vs1.length < sizeLine := by rw [Reps.len _ _ b1]; exact c1
  have cvs2 : vs2.length < sizeLine := by rw [Reps.len _ _ b2]; exact c2
  have cvs3 : vs3.length < sizeLine := by rw [Reps.len _ _ b3]; exact c3
  rintro n m σ' H' (⟨e1, e2, e3, e4⟩ | ⟨e1, e2, e3, e4⟩ | ⟨e1, e2, e3, e4⟩ | ⟨e1, e2, e3, e4⟩)
  · subst e1 e2 e3 e4
    refine Or.inr ⟨⟨[.ref q1, .ref q2, .ref q3], .ref q1, SqL.of P0, rfl⟩, fun σ2 H2 => σ2 = σ'.set i (some (.ref q1)) ∧ H2 = A1, fun σ2 H2 w => ⟨2, by decide, Or.inr (Or.inl ⟨rfl, rfl, w.1, w.2⟩)⟩, fun x H2 w => ?_⟩
    obtain ⟨w1, w2⟩ := w
    subst w1
    rw [item P0 rfl w2]
    exact turn (fun σ2 H2 => σ2 = σ'.set i (some (.ref q1)) ∧ H2 = A1) D σ' H2 q1 vs1 rfl M1 cvs1 fun σ2 H3 w3 w4 => ⟨w3, by rw [w4, hA1]⟩
  · subst e1 e2 e3 e4
    refine Or.inr ⟨⟨[.ref q1, .ref q2, .ref q3], .ref q2, SqL.of P1, rfl⟩, fun σ2 H2 => σ2 = σ.set i (some (.ref q2)) ∧ H2 = A2, fun σ2 H2 w => ⟨1, by decide, Or.inr (Or.inr (Or.inl ⟨rfl, rfl, w.1, w.2⟩))⟩, fun x H2 w => ?_⟩
    obtain ⟨w1, w2⟩ := w
    subst w1
    rw [item P1 rfl w2]
    exact turn (fun σ2 H2 => σ2 = σ.set i (some (.ref q2)) ∧ H2 = A2) D _ H2 q2 vs2 (by simp) M2 cvs2 fun σ2 H3 w3 w4 => ⟨by rw [w3, List.set_set], by rw [w4, hA2]⟩
  · subst e1 e2 e3 e4
    refine Or.inr ⟨⟨[.ref q1, .ref q2, .ref q3], .ref q3, SqL.of P2, rfl⟩, fun σ2 H2 => σ2 = σ.set i (some (.ref q3)) ∧ H2 = A3, fun σ2 H2 w => ⟨0, by decide, Or.inr (Or.inr (Or.inr ⟨rfl, rfl, w.1, w.2⟩))⟩, fun x H2 w => ?_⟩
    obtain ⟨w1, w2⟩ := w
    subst w1
    rw [item P2 rfl w2]
    exact turn (fun σ2 H2 => σ2 = σ.set i (some (.ref q3)) ∧ H2 = A3) D _ H2 q3 vs3 (by simp) M3 cvs3 fun σ2 H3 w3 w4 => ⟨by rw [w3, List.set_set], by rw [w4, hA3]⟩
  · subst e1 e2 e3 e4
    refine Or.inl ⟨⟨_, SqL.of P3, Nat.le_refl 3⟩, ?_⟩
    have xx := x1.trans (x2.trans x3)
    have n1 : G3 q1 = none := x3.gn _ (by rw [x2.hh _ _ a1]; simp) (x2.gn _ g1.2.2 g1.2.1)
    have n2 : G3 q2 = none := x3.gn _ g2.2.2 g2.2.1
    have n3 : G3 q3 = none := g3.2.1
    have np : G3 p = none := x3.gh.free hp0
    have h1 : H q1 = none := g1.1
    have h2 : H q2 = none := x1.hh.free g2.1
    have h3 : H q3 = none := (x1.hh.trans x2.hh).free g3.1
    have hp' : H p = none := xx.hh.free hp0
    have off : ∀ b, b ≠ p → b ≠ q1 → b ≠ q2 → b ≠ q3 → H' b = H3 b := fun b y0 y1 y2 y3 => by rw [hA3, upd_ne y3, hA2, upd_ne y2, hA1, upd_ne y1, hHP, upd_ne y0]
    have E : Ext H G H' G3 := by
      refine ⟨fun b u y => ?_, xx.gg, fun b u y => ?_, xx.gn⟩
      · rw [off b (ne_of_none y hp') (ne_of_none y h1) (ne_of_none y h2) (ne_of_none y h3)]; exact xx.hh b u y
      · rw [off b (ne_of_none y np) (ne_of_none y n1) (ne_of_none y n2) (ne_of_none y n3)]; exact x3.gh b u y
    have hq3 : H' q3 = some (.lst (vs3 ++ [.int j])) := by rw [hA3]; exact upd_same
    have ro : RepO X.K cl H' G3 (.lst (ms3 ++ [.int j])) (.ref q3) [q3] := by
      unfold RepO
      exact ⟨q3, _, rfl, rfl, hq3, Reps.app _ _ _ _ b3 (Reps.one (by unfold Rep; rfl))⟩
    have hz : ∀ b ∈ [q3], H b = none ∧ G3 b = none ∧ H' b ≠ none := fun b hb => by
      have : b = q3 := by simpa using hb
      subst this
      exact ⟨h3, n3, by rw [hq3]; simp⟩
    exact z _ H' G3 ((r0.extX E hz).setv il ro) xx.gg
end
end C
namespace C
open PySem PySem.Spec PyProof.Rows L2
/-! ### o.m()[0].append(j), where m() is a new list of new lists: nobody sees it -/
section
variable {X : Cx} {cl : Nat → Addr} {W : WX} {a b c e : Expr} {g : GX} {na : NX} {pos : Pos}
def nnLc (vs : List Nat) (f : LX) (g : GX) (na : NX) : Env → Prop := fun env => f env fun ms => ms.length < sizeLine ∧ 0 < ms.length ∧ ∀ m ∈ ms, g m (wipeE env vs) fun e => na e fun o => lstO o fun _ => True
def nnQ (H : Hp) (Q : VK) : Prop := ∀ D us H', Same H H' → H D = none → H' D = some (.lst us) → 0 < us.length → (∀ u ∈ us, ∃ q xs, u = .ref q ∧ H q = none ∧ H' q = some (.lst xs) ∧ xs.length < sizeLine) → Q (.ref D) H'
def nnOf (K : PySem.W.Frag) (cl : Nat → Addr) (f : Env → Prop) : TE := fun σ H Q => ∃ β G env, R K cl β σ H G env [] ∧ f env ∧ nnQ H Q
theorem pe_nn {scope : Scope} {tg iter elt : Expr} {own : List (Str × Nat)} {f : LX} (hc : X.calm = true) (hN : X.N.Nodup) (hi : MJ X cl tg iter f) (ok : BlkOk X.N X.env.scope scope own)
    (hg : ∃ is, (∀ j ∈ is, j ∈ own.map (·.2)) ∧ ∀ (s : Shared) (H : Hp) (C : Addr) (cl' : List (Str × Addr)) (fp : List Addr), MG (BlkX X scope s H C cl' fp) cl tg g is)
    (he : ∀ (s : Shared) (H : Hp) (C : Addr) (cl' : List (Str × Addr)) (fp : List Addr), MN (BlkX X scope s H C cl' fp) cl elt na) (m0 : Nonempty (Shared × Hp)) (hs : ∀ x, foldedSetIterable iter X.env x = pure x := by intro _; rfl) :
    PE X (.ListComp elt [⟨tg, iter, [], 0⟩] scope pos) (nnOf X.K cl (nnLc (own.map (·.2)) f g na)) := by
  obtain ⟨is, his, hg⟩ := hg
  obtain ⟨s0, H0⟩ := m0
  have gmo := (hg s0 H0 0 [] []).mo
  have emo := (he s0 H0 0 [] []).mo
  refine PEmono (pe_lc (te := nOf X.K cl na) (tt := tOf X.K cl tYesX) (g := gOf X.K cl g is) hc hN hi.pi ok (fun s H C cl' fp => (hg s H C cl' fp).pg) (fun s H C cl' fp => (mts_nil (X := BlkX X scope s H C cl' fp) (cl := cl)).pt) (fun s H C cl' fp => (he s H C cl' fp).pe) hs) fun σ H Q ⟨β, G, env, r0, q, hQ⟩ => ?_
  refine ⟨β, G, env, r0, hi.mo _ _ _ (fun ms z J H1 G1 KH e1 hk it D hD => ?_) q⟩
  obtain ⟨Y, w, hy⟩ := it
  obtain ⟨zl, z0, z⟩ := z
  generalize own.map (·.2) = vs at *
  refine lc_it w (fun i H2 => ∃ G2 us, Ext H1 G1 H2 G2 ∧ H2 D = some (.lst us) ∧ G2 D = none ∧ us.length = i ∧ ∀ u ∈ us, ∃ q xs, u = .ref q ∧ q ≠ D ∧ H q = none ∧ H2 q = some (.lst xs) ∧ xs.length < sizeLine)
    ⟨G1, [], Ext.new0 e1.gh hD, upd_same, e1.gh.free hD, rfl, fun u hu => (by cases hu)⟩ (fun i H2 _ ⟨G2, _, e2, _⟩ => hk.trans e2.hh) (fun i x H2 H3 hi' ⟨G2, us, e2, hd, gd, lu, ra⟩ y => ?_) fun H2 ⟨G2, us, e2, hd, gd, lu, ra⟩ => ?_
  · obtain ⟨G3, m, e3, hm, rm⟩ := hy i H2 G2 x H3 hi' (hk.trans e2.hh) e2.gg e2.gh y
    have qm := z m (List.mem_of_getElem? hm)
    have e13 := e2.trans e3
    have r3 := (r0.ext (e1.trans e13)).wipe vs
    have hd3 := e3.hh _ _ hd
    have gd3 := e3.gn D (by rw [hd]; simp) gd
    refine ⟨β, G3, _, m, r3, rm, gmo _ _ _ _ (fun en z2 σ2 r4 ag => ⟨wipe_agr ag his, β, G3, en, r4, (fun H5 G5 e5 => ?_ : ∀ H5 G5, Ext H3 G3 H5 G5 → _)⟩) qm⟩
    show if (true = true) then _ else _
    rw [if_pos rfl]
    refine ⟨β, G5, en, r4.ext e5, emo _ _ _ (fun o z3 v H6 G6 X6 e6 ro hX => ?_) z2⟩
    obtain ⟨q, xs, ms', rfl, rfl, rfl, h6, _, l6, _⟩ := repl ro z3
    have hq := hX q (by simp)
    have e56 := e5.trans e6
    have hd6 := e56.hh _ _ hd3
    have gd6 := e56.gn D (by rw [hd3]; simp) gd3
    have e16 := e13.trans e56
    have qD : q ≠ D := fun y => by rw [y, e5.hh _ _ hd3] at hq; cases hq.1
    have lx : xs.length < sizeLine := by rw [Reps.len _ _ ‹_›]; exact l6
    refine ⟨us, hd6, by omega, G6, us ++ [.ref q], ⟨fun b u hb => ?_, e16.gg, fun b u hb => ?_, e16.gn⟩, upd_same, gd6, by simp [lu], fun u hu => ?_⟩
    · rw [upd_ne (ne_of_none hb hD)]; exact e16.hh b u hb
    · rw [upd_ne (ne_of_none hb gd6)]; exact e16.gh b u hb
    · rcases List.mem_append.mp hu with y | y
      · obtain ⟨q', xs', w1, w2, w3, w4, w5⟩ := ra u y
        exact ⟨q', xs', w1, w2, w3, by rw [upd_ne w2]; exact (e3.trans e56).hh _ _ w4, w5⟩
      · have : u = .ref q := by simpa using y
        exact ⟨q, xs, this, qD, ((e1.trans e13).trans e5).hh.free hq.1, by rw [upd_ne qD]; exact h6, lx⟩
  · exact hQ D us H2 (e1.hh.trans e2.hh) (e1.hh.free hD) hd (by omega) fun u hu => by
      obtain ⟨q', xs', w1, w2, w3, w4, w5⟩ := ra u hu
      exact ⟨q', xs', w1, w3, w4, w5⟩
def sp2 (K : PySem.W.Frag) (cl : Nat → Addr) (n : Nat) (F2 : Env → Prop) : Sp := fun vs H Q _ => sp0 K cl n (fun ss _ _ => F2 ss) vs H (fun _ _ => True) E0 ∧ nnQ H Q
structure FB2 (P : Program) (w : World) (K : PySem.W.Frag) (mg : Str → Option Value) (base : Heap) (cl : Nat → Addr) (k n : Nat) (f : Addr) (F2 : Env → Prop) : Prop where
  ex : ∃ fd ps, FnOk P w K mg base CX0 k f fd ps (sp2 K cl n F2) ∧ Binds K fd ps []
theorem fb2_mk {P : Program} {w : World} {K : PySem.W.Frag} {mg : Str → Option Value} {base : Heap} {cl : Nat → Addr} {x qual : Str} {st : Stmt} {f : Addr} {fd : FuncData} {N ps : List Str} {k : Nat} {s : Env → Prop} (F : Fun K x qual st f fd) (S : FnScope N ps (defScope st)) (B : Binds K fd ps [])
    {p3 : Pos} {e : Expr} (hd : defBody st = [.Return (some e) p3])
    (body : ∀ (cdv : Value) (A : Around) (outer : List PySem.Env) (sh : Shared) (H : Hp) (E : XK), Room k (A.deeper (envOfC qual (defScope st) sh.heap.objs.size f cdv)) → PE (cxOf CX0 P w K mg base N qual (defScope st) f cdv A outer sh H E).nox e (nnOf K cl s)) :
    FB2 P w K mg base cl (k + 1) ps.length f (fun ss => s (ss ++ List.replicate (N.length - ps.length) .un)) := by
  refine ⟨fd, ps, F.ok S (fun vs H Q E h => h.1.1) fun cdv A outer sh H vs Q E hr h => ?_, B⟩
  obtain ⟨⟨hl, G, Fl, ss, r, q⟩, hQ⟩ := h
  refine ⟨_, hd ▸ pss_one (ps_ret (body cdv A outer sh H E hr)), ⟨H, G, Fl, vs.map some⟩, G, ss ++ List.replicate (N.length - ps.length) .un, ?_, q, hQ⟩
  have := r.pad (N.length - ps.length)
  unfold L2.start
  rw [hl]
  exact this
def sNN (n : Nat) (F2 : Env → Prop) (ga : AX) : SX := fun env k => ga env fun as => match arSlots env as with
  | some ss => ((arOk (muS as) as && noMu as) && Nat.beq as.length n) = true ∧ F2 ss ∧ k.nx env
  | none => False
theorem ms_nnApp {k n : Nat} {f : Addr} {F2 : Env → Prop} {rx : RX} {o : Expr} {m : Str} {apos0 cpos0 apos cpos spos pz p4 p5 : Pos} {jz jj} {j : Int} {pl : Sem Bool} (c : Nat) (hF : FB2 X.prog X.w X.K X.mg X.base cl k n f F2) (hr : Room k X.A) (hx : MR X cl o rx) (hC : Cls X.K (cl c)) (hM : Meth X.K (cl c) m f) (hno : ∀ f ∈ fsOf c, fn f ≠ m)
    (ht : eval (.Call (.Attribute o m apos0) [] [] cpos0) X.env = (do
      let ov ← eval o X.env
      standAt apos0.atName
      let (f, first) ← holding [ov] (getMethod ov m pl)
      callWith cpos0 f first (backTo cpos0 (starEach [] X.env)) (backToKw cpos0 (keywordEach [] X.env))) := by rfl)
    (he : starEach [.Constant (.int j) jj p4] X.env = (false, eval (.Constant (.int j) jj p4) X.env) :: starEach [] X.env := by rfl)
    (hbase : attributeBase (.Subscript (.Call (.Attribute o m apos0) [] [] cpos0) (.Constant (.int 0) jz pz) spos) "append" X.env (eval (.Subscript (.Call (.Attribute o m apos0) [] [] cpos0) (.Constant (.int 0) jz pz) spos) X.env) = eval (.Subscript (.Call (.Attribute o m apos0) [] [] cpos0) (.Constant (.int 0) jz pz) spos) X.env := by rfl)
    (hfew : ((backTo cpos (starEach [.Constant (.int j) jj p4] X.env)).all (fun x => !x.1) && (backToKw cpos (keywordEach [] X.env)).all (fun x => x.1.isSome) && decide ([(Expr.Constant (.int j) jj p4)].length + ([] : List Keyword).length + (if ([] : List Keyword).isEmpty then 0 else 1) < 30)) = true := by rfl)
    (hline : (apos.endLine == cpos.line) = true := by rfl) (hsw : swapsWith (.Call (.Attribute (.Subscript (.Call (.Attribute o m apos0) [] [] cpos0) (.Constant (.int 0) jz pz) spos) "append" apos) [.Constant (.int j) jj p4] [] cpos) none p5.line X.env = pure false := by rfl)
    (hpx : PlainIx (.Constant (.int 0) jz pz) := by exact fun _ _ => rfl) :
    MS X cl W (.Expr (.Call (.Attribute (.Subscript (.Call (.Attribute o m apos0) [] [] cpos0) (.Constant (.int 0) jz pz) spos) "append" apos) [.Constant (.int j) jj p4] [] cpos) p5) (sNN n F2 (rcG c rx aN)) := by
  obtain ⟨fd, ps, F0, hb⟩ := hF.ex
  have ha : MA X cl [] aN := ma_nil
  have ga := rcG_mo (c := c) hx.mo ha.mo
  have pe := ps_expr (pos := p5) (pe_bm (cpos := cpos) (apos := apos) PySem.F.plainAttrs_list PySem.F.slot_list_append PySem.F.type_list_append mt_append (pe_ix (pos := spos) ix_list (pe_meth0 (E := E0) hx.pe hC hM F0 hr hb .nil pass0 ht) (pe_int (i := 0) (j := jz) (pos := pz)) hpx) (pa_cons (pe_int (i := j) (j := jj) (pos := p4)) pa_nil he) hbase hfew hline he rfl) hsw
  refine ⟨fun env k k' l q => ga _ _ _ (fun as z => ?_) q, PSmono pe fun D σ H ⟨β, G, env, r0, q⟩ => ?_⟩
  · cases h : arSlots env as with
    | none => rw [h] at z; exact z.elim
    | some ss => rw [h] at z; exact ⟨z.1, z.2.1, l.nx _ z.2.2⟩
  · have key : ∀ as, (match arSlots env as with
      | some ss => ((arOk (muS as) as && noMu as) && Nat.beq as.length n) = true ∧ F2 ss ∧ (kOf X.K cl W β G D).nx env
      | none => False) → ∀ vs H' G', Ext H G H' G' → ArReps X.K cl σ H' G' as vs → sp2 X.K cl n F2 vs H' (fun x H1 => rIxL X.K x (.int 0) H1 fun v H3 => tyV X.K "list" v H3 ∧ rAppend v [.int j] H3 fun _ H5 => D.nx σ H5) E0 := fun as z vs H' G' e rs => by
      cases h : arSlots env as with
      | none => rw [h] at z; exact z.elim
      | some ss =>
        rw [h] at z
        obtain ⟨z1, z2, z3⟩ := z
        refine ⟨nCall_in (X := X) (n := n) (F := fun ss _ _ => F2 ss) (fun _ _ _ _ _ _ _ q => q) r0 e rs (by rw [h]; exact ⟨z1, z2⟩) rfl, fun D1 us H2 s1 d1 d2 d3 d4 => ?_⟩
        cases us with
        | nil => exact absurd d3 (by simp)
        | cons u us =>
          obtain ⟨q, xs, rfl, w1, w2, w3⟩ := d4 u List.mem_cons_self
          refine ⟨D1, _, 0, .ref q, rfl, rfl, SqL.of d2, atI_nat (j := 0) rfl, .inl ⟨rfl, xs, SqL.of w2⟩, q, xs, .int j, rfl, rfl, w2, w3, ?_⟩
          have hq : H q = none := e.hh.free w1
          have hh : Same H (upd H2 q (.lst (xs ++ [.int j]))) := fun b u y => by rw [upd_ne (ne_of_none y hq)]; exact (e.hh.trans s1) b u y
          exact z3 σ _ G (r0.ext ⟨hh, Same.refl _, fun b u y => hh b u (r0.gh b u y), fun _ _ y => y⟩) (Same.refl _)
    obtain ⟨β', G', env', r1, q1⟩ := meth_in (n := n) (sp := sp2 X.K cl n F2) (E := E0) hx ha hno r0 (ga _ _ _ key q)
    refine ⟨β', G', env', r1, hx.mo _ _ _ (fun r z v H2 G2 e2 rr => ?_) q1⟩
    obtain ⟨a, dx, fs, h1, h2, h3, β3, G3, env3, r3, h4⟩ := z v H2 G2 e2 rr
    exact ⟨a, dx, fs, h1, h2, h3, h4 [] H2 G3 (Ext.refl r3.gh) rfl⟩
end
end C
namespace C
open PySem PySem.Spec PyProof.Rows L2
/-! ### dicts -/
def dGet (kvs : List (Key × MV)) (k : Key) : Option MV := (kvs.find? fun kv => decide (kv.1 = k)).map (·.2)
def dPut (kvs : List (Key × MV)) (k : Key) (m : MV) : List (Key × MV) := if (kvs.any fun kv => decide (kv.1 = k)) = true then kvs.map (fun kv => if kv.1 = k then (kv.1, m) else kv) else kvs ++ [(k, m)]
def dDrop (kvs : List (Key × MV)) (k : Key) : List (Key × MV) := kvs.filter fun kv => decide (kv.1 ≠ k)
def kMV : Key → MV
  | .inl i => .int i
  | .inr x => .str x
section
variable {K : PySem.W.Frag} {cl : Nat → Addr} {G : Hp}
def DR (K : PySem.W.Frag) (cl : Nat → Addr) (G : Hp) (kvs : List (Key × MV)) (vs : List (Key × V)) : Prop := vs.map (·.1) = kvs.map (·.1) ∧ Reps K cl G (kvs.map (·.2)) (vs.map (·.2))
theorem DR.out {p : Key × MV} {kvs : List (Key × MV)} : ∀ {ws : List (Key × V)}, DR K cl G (p :: kvs) ws → ∃ v vs, ws = (p.1, v) :: vs ∧ Rep K cl G p.2 v ∧ DR K cl G kvs vs
  | [], h => by cases h.1
  | w :: ws, h => by
    obtain ⟨h1, h2⟩ := h
    rw [List.map_cons, List.map_cons] at h1 h2
    injection h1 with h3 h4
    unfold Reps at h2
    obtain ⟨v, ws', e, h5, h6⟩ := h2
    injection e with e1 e2
    subst e1 e2
    exact ⟨w.2, ws, by rw [← h3], h5, h4, h6⟩
theorem DR.mk1 {p : Key × MV} {v : V} {kvs : List (Key × MV)} {vs : List (Key × V)} (h : Rep K cl G p.2 v) (r : DR K cl G kvs vs) : DR K cl G (p :: kvs) ((p.1, v) :: vs) :=
  ⟨by rw [List.map_cons, List.map_cons, r.1], by rw [List.map_cons, List.map_cons]; exact Reps.cons h r.2⟩
theorem DR.nil : DR K cl G [] [] := ⟨rfl, Reps.nil⟩
theorem DR.nil_out {ws : List (Key × V)} (h : DR K cl G [] ws) : ws = [] := by
  have := h.1
  simpa using this
theorem DR.len {kvs : List (Key × MV)} {vs : List (Key × V)} (h : DR K cl G kvs vs) : vs.length = kvs.length := by
  have := congrArg List.length h.1
  simpa using this
theorem DR.get (k : Key) : ∀ {kvs : List (Key × MV)} {vs : List (Key × V)}, DR K cl G kvs vs → (dGet kvs k = none ∧ valV vs k = none) ∨ ∃ m v, dGet kvs k = some m ∧ valV vs k = some v ∧ Rep K cl G m v
  | [], vs, h => by
    have e := h.nil_out
    subst e
    exact .inl ⟨rfl, rfl⟩
  | p :: kvs, vs, h => by
    obtain ⟨v, ws, rfl, h1, h2⟩ := h.out
    by_cases c : p.1 = k
    · exact .inr ⟨p.2, v, by simp [dGet, List.find?_cons, c], valV_pos (p := (p.1, v)) c, h1⟩
    · rw [valV_neg (p := (p.1, v)) c, show dGet (p :: kvs) k = dGet kvs k by simp [dGet, List.find?_cons, c]]
      exact DR.get k h2
theorem DR.any (k : Key) {kvs : List (Key × MV)} {vs : List (Key × V)} (h : DR K cl G kvs vs) : (vs.any fun kv => decide (kv.1 = k)) = kvs.any fun kv => decide (kv.1 = k) := by
  have e1 : ∀ (l : List (Key × V)), (l.any fun kv => decide (kv.1 = k)) = (l.map (·.1)).any fun j => decide (j = k) := fun l => by rw [List.any_map]; rfl
  have e2 : ∀ (l : List (Key × MV)), (l.any fun kv => decide (kv.1 = k)) = (l.map (·.1)).any fun j => decide (j = k) := fun l => by rw [List.any_map]; rfl
  rw [e1, e2, h.1]
theorem DR.repl {m : MV} {x : V} (k : Key) (r : Rep K cl G m x) : ∀ {kvs : List (Key × MV)} {vs : List (Key × V)}, DR K cl G kvs vs → DR K cl G (kvs.map fun kv => if kv.1 = k then (kv.1, m) else kv) (vs.map fun kv => if kv.1 = k then (kv.1, x) else kv)
  | [], vs, h => by rw [h.nil_out]; exact DR.nil
  | p :: kvs, vs, h => by
    obtain ⟨v, ws, rfl, h1, h2⟩ := h.out
    rw [List.map_cons, List.map_cons]
    have ih := DR.repl k r h2
    by_cases c : p.1 = k
    · rw [if_pos c, if_pos (show ((p.1, v) : Key × V).1 = k from c)]
      exact DR.mk1 (p := (p.1, m)) r ih
    · rw [if_neg c, if_neg (show ¬ ((p.1, v) : Key × V).1 = k from c)]
      exact DR.mk1 h1 ih
theorem DR.app {a b : List (Key × MV)} {x y : List (Key × V)} (h : DR K cl G a x) (h' : DR K cl G b y) : DR K cl G (a ++ b) (x ++ y) :=
  ⟨by rw [List.map_append, List.map_append, h.1, h'.1], by rw [List.map_append, List.map_append]; exact Reps.app _ _ _ _ h.2 h'.2⟩
theorem DR.put {m : MV} {x : V} (k : Key) (r : Rep K cl G m x) {kvs : List (Key × MV)} {vs : List (Key × V)} (h : DR K cl G kvs vs) : DR K cl G (dPut kvs k m) (putK vs k x) := by
  unfold dPut putK
  rw [h.any]
  split
  · exact h.repl k r
  · exact h.app (DR.mk1 (p := (k, m)) r DR.nil)
theorem DR.drop (k : Key) : ∀ {kvs : List (Key × MV)} {vs : List (Key × V)}, DR K cl G kvs vs → DR K cl G (dDrop kvs k) (dropK vs k)
  | [], vs, h => by rw [h.nil_out]; exact DR.nil
  | p :: kvs, vs, h => by
    obtain ⟨v, ws, rfl, h1, h2⟩ := h.out
    have ih := DR.drop k h2
    unfold dDrop dropK at ih ⊢
    by_cases c : p.1 = k
    · rw [List.filter_cons_of_neg (by simp [c]), List.filter_cons_of_neg (by simp [c])]
      exact ih
    · rw [List.filter_cons_of_pos (by simp [c]), List.filter_cons_of_pos (by simp [c])]
      exact DR.mk1 h1 ih
theorem DR.keys : ∀ {kvs : List (Key × MV)} {vs : List (Key × V)}, DR K cl G kvs vs → Reps K cl G (kvs.map fun kv => kMV kv.1) (vs.map fun kv => kV kv.1)
  | [], vs, h => by rw [h.nil_out]; exact Reps.nil
  | p :: kvs, vs, h => by
    obtain ⟨v, ws, rfl, h1, h2⟩ := h.out
    rw [List.map_cons, List.map_cons]
    refine Reps.cons ?_ (DR.keys h2)
    cases e : p.1 with
    | inl i => unfold kMV kV Rep; rfl
    | inr x => unfold kMV kV Rep; rfl
end
/-- d[k], the key there: not unfolded by itself -/
inductive gDG (kvs : List (Key × MV)) (k : Key) (Q : MV → Prop) : Prop where
  | mk (m : MV) (h : dGet kvs k = some m) (q : Q m)
def gDx (m n : OV) (Q : MV → Prop) : Prop := match m, n with
  | .dct kvs, .fro (.int j) => gDG kvs (.inl j) Q
  | _, _ => False
def nDict : NX := fun _ Q => Q (.dct [])
/-- list(d) -/
def gListD (o : OV) (Q : MV → Prop) : Prop := match o with
  | .dct kvs => Q (.lst (kvs.map fun kv => kMV kv.1))
  | _ => False
section
variable {X : Cx} {cl : Nat → Addr} {W : WX} {a b c e value o ix : Expr} {fa fb fc : EX} {qa qb qc : QX} {xa : XX} {pos p : Pos} {i : Nat} {pl : List Nat}
theorem gDx_mo : ∀ m n (Q Q' : MV → Prop), (∀ k, Q k → Q' k) → gDx m n Q → gDx m n Q' := fun m n Q Q' k q => by
  unfold gDx at q ⊢
  split at q
  · obtain ⟨m, h, q⟩ := q
    exact .mk m h (k _ q)
  · exact q.elim
theorem m_dx (hu : X.A.units + 64 < cLine) (ha : MQ X cl a qa) (hb : MQ X cl b qb) (hs : NoSl b := by exact fun _ _ => rfl) : ME X cl (.Subscript a b pos) (eBin gDx qa qb) := by
  refine ⟨fun env Q Q' k q => ha.mo _ _ _ (fun m z => hb.mo _ _ _ (fun n z' => gDx_mo m n _ _ k z') z) q, PEmono (pe_dget (by omega) ha.pe hb.pe hs) fun σ H Q ⟨β, G, env, r0, q⟩ => ?_⟩
  refine ⟨β, G, env, r0, ha.mo _ _ _ (fun m q1 v H' G' e1 rv => ?_) q⟩
  refine ⟨β, G', env, r0.ext e1, hb.mo _ _ _ (fun n q2 w H2 G2 e2 rw => ?_) q1⟩
  have rv' := Same.repB rv e2
  have ee := e1.trans e2
  have q3 : gDx m n (fun k => ∀ v H' G', Ext H G H' G' → Rep X.K cl G' k v → Q v H') := q2
  unfold gDx at q3
  split at q3
  · rename_i kvs j
    unfold RepB at rv'
    obtain ⟨p, vs, rfl, h2, h3, h4⟩ := rv'
    unfold RepB Rep at rw
    subst rw
    obtain ⟨mm, hm, q4⟩ := q3
    rcases DR.get (.inl j) (show DR X.K cl G2 kvs vs from ⟨h3, h4⟩) with ⟨z, _⟩ | ⟨m', x, z, y1, y2⟩
    · rw [z] at hm; cases hm
    · rw [z] at hm; cases hm
      refine ⟨p, x, rfl, ?_, q4 x H2 G2 ee y2⟩
      have := DGet.k (k := .inl j) h2
      rw [y1] at this
      exact this
  · exact q3.elim
theorem mn_dict : MN X cl (.Dict [] [] pos) nDict := by
  refine ⟨fun env Q Q' k q => k _ q, PEmono pe_dnewK fun σ H Q ⟨β, G, env, r0, q⟩ p hp => ?_⟩
  refine q _ _ G [p] (Ext.new0 r0.gh hp) ?_ fun b hb => ?_
  · unfold RepO
    exact ⟨p, [], rfl, rfl, upd_same, rfl, Reps.nil⟩
  · have : b = p := by simpa using hb
    subst this
    exact ⟨hp, r0.gh.free hp, by rw [upd_same]; simp⟩
theorem gb_listD (hc : X.calm = true) : GB X cl (.type "list") gListD := by
  refine ⟨fun m Q Q' k q => ?_, _, call_listD hc, fun m x H G Q g r q => ?_⟩
  · unfold gListD at q ⊢
    split at q
    · exact k _ q
    · exact q.elim
  · unfold gListD at q
    split at q
    · rename_i kvs
      unfold RepB at r
      obtain ⟨p, vs, rfl, h2, h3, h4⟩ := r
      refine ⟨p, vs, rfl, .inl h2, fun l hl => ?_⟩
      refine q _ _ (upd G l (.lst (vs.map fun kv => kV kv.1))) (Ext.new g hl) ?_
      unfold Rep
      exact ⟨l, _, rfl, upd_same, Reps.same (same_upd (g.free hl)) _ _ (DR.keys ⟨h3, h4⟩)⟩
    · exact q.elim
theorem dct_write {K : PySem.W.Frag} {β : Bs} {σ : L2.St} {H G : Hp} {env : Env} {i : Nat} {p : List Nat} {kvs : List (Key × MV)} (r : R K cl β σ H G env []) (hp : ∀ f ∈ p, f < 38) (h : ownP env i p = some (.dct kvs)) :
    ∃ v0 l vs, σ[i]? = some (some v0) ∧ PAt K H v0 p (.ref l) ∧ H l = some (.dK vs) ∧ DR K cl G kvs vs ∧ ∀ kvs' vs', DR K cl G kvs' vs' → R K cl β σ (upd H l (.dK vs')) G (setP env i p (.dct kvs')) [] := by
  obtain ⟨v0, w, f1, h1, h2, h3, h4, _, h6⟩ := r.write hp h
  unfold RepO at h3
  obtain ⟨l, vs, rfl, rfl, y1, y2⟩ := h3
  refine ⟨v0, l, vs, h1, h2, y1, y2, fun ms' vs' rs => h6 _ G (.dct ms') [l] (Same.refl _) (fun b u q => ?_) (fun b hb u q => upd_off (by simpa using hb) q) (fun b _ q => q) ?_ (fun b hb => .inl hb) (fun b hb => h4 b hb)⟩
  · refine upd_off (fun z => ?_) (r.gh b u q)
    subst z
    rw [h4 b (by simp)] at q; cases q
  · unfold RepO
    exact ⟨l, vs', rfl, rfl, upd_same, rs.1, rs.2⟩
def setDB (i : Nat) (p : List Nat) (qi : QX) (m : MV) (env : Env) (Q : Env → Prop) : Prop := match ownP env i p with
  | some (.dct kvs) => qi env fun x => asFro x fun x => asInt x fun j => kvs.length < sizeLine ∧ Q (setP env i p (.dct (dPut kvs (.inl j) m)))
  | _ => False
def setD (i : Nat) (p : List Nat) (qi : QX) (xa : XX) : SX := fun env k => xa env (fun o env2 => asFro o fun m => setDB i p qi m env2 k.nx) k.ex
theorem setDB_mo {i : Nat} {qi : QX} {m : MV} {env : Env} {Q Q' : Env → Prop} (hq : ∀ env (Q Q' : OV → Prop), (∀ m, Q m → Q' m) → qi env Q → qi env Q') (k : ∀ e, Q e → Q' e) (h : setDB i pl qi m env Q) : setDB i pl qi m env Q' := by
  unfold setDB at h ⊢
  split at h
  · exact hq _ _ _ (fun x z => asFro_mo (fun x z => asInt_mo (fun j z => ⟨z.1, k _ z.2⟩) z) z) h
  · exact h.elim
theorem ms_setD {i : Nat} {spos : Pos} (hu : X.A.units + 64 < cLine) (ho : MP X o i pl) (hi : MQ X cl ix qa) (hv : MX X cl W value xa) (hp : fld38 pl = true := by rfl) (hs : swapsWith value (some (.Subscript o ix pos)) spos.line X.env = pure false := by rfl) :
    MS X cl W (.Assign [.Subscript o ix pos] value spos) (setD i pl qa xa) := by
  refine ⟨fun env k k' l q => hv.mo _ _ _ _ _ (fun o e z => asFro_mo (fun m z => setDB_mo hi.mo l.nx z) z) l.ex q, PSmono (ps_dput (by omega) ho hi.pe hv.pe hs) fun D σ H ⟨β, G, env, r0, q⟩ => ⟨β, G, env, r0, hv.mo _ _ _ _ _ (fun o e z v H' G' X' r' gg ro => ?_) (fun _ z => z) q⟩⟩
  cases o with
  | fro m =>
    unfold RepO at ro
    have z' : setDB i pl qa m e (kOf X.K cl W β G D).nx := z
    unfold setDB at z'
    split at z'
    · rename_i ms h
      have r1 := r'.drop
      obtain ⟨v0, l, vs, g1, g2, g3, g4, g5⟩ := dct_write r1 (fld38_out hp) h
      refine ⟨v0, .ref l, g1, g2, β, G', e, r1, hi.mo _ _ _ (fun x z w H2 G2 e2 rw => ?_) z'⟩
      cases x with
      | fro x =>
        unfold RepB at rw
        obtain ⟨j, rfl, rfl, z⟩ := asInt_rep (show asInt x _ from z) rw
        have r2 := r1.ext e2
        obtain ⟨v0', l', vs', y1, y2, y3, y4, y5⟩ := dct_write r2 (fld38_out hp) h
        rw [g1] at y1; cases y1
        have := PAt.uniq (PAt.same e2.hh g2) y2
        cases this
        refine ⟨l, _, rfl, DPut.k (k := .inl j) y3 (by rw [y4.len]; exact z.1), ?_⟩
        exact z.2 σ _ G2 (y5 _ _ (DR.put (.inl j) (Rep.same e2.gg _ _ ro.2) y4)) (gg.trans e2.gg)
      | _ => exact z.elim
    · exact z'.elim
  | _ => exact z.elim
end
end C
namespace C
open PySem PySem.Spec PyProof.Rows L2
/-! ### for x in [a, b]: x.append(None), where a, b are new lists: nobody sees it but x -/
section
variable {X : Cx} {cl : Nat → Addr} {W : WX} {e1 e2 : Expr} {n1 n2 : NX} {pos : Pos} {x : Str} {i : Nat}
def for2 (i : Nat) (n1 n2 : NX) : SX := fun env k => n1 env fun o1 => lstO o1 fun m1 => n2 env fun o2 => lstO o2 fun m2 => i < env.length ∧ k.nx (env.set i (.ow (.lst (m2 ++ [.non]))))
theorem ms_for2 {p1 p2 p3 p4 p5 apos cpos : Pos} {jj} (hp : PassesOwn (model X.prog X.w) X.A X.env X.xe) (hc : X.calm = true) (hN : X.N.Nodup) (hv : Vis X.env.scope x) (h1 : MN X cl e1 n1) (h2 : MN X cl e2 n2)
    (hi : X.N[i]? = some x := by rfl) (hx : Loc X.env.scope x := by first | exact Or.inl rfl | exact Or.inr rfl) (hf : X.fn x = true ∨ X.env.scope.names.lookup x = some .local := by first | exact .inl rfl | exact .inr rfl | assumption)
    (hd : (x == ("__debug__" : Str)) = false := by decide) (hcd : (x == ("__classdict__" : Str)) = false := by decide)
    (s1 : starEach [e1, e2] X.env = (false, eval e1 X.env) :: starEach [e2] X.env := by rfl) (s2 : starEach [e2] X.env = (false, eval e2 X.env) :: starEach [] X.env := by rfl)
    (he : starEach [.Constant .none jj p4] X.env = (false, eval (.Constant .none jj p4) X.env) :: starEach [] X.env := by rfl)
    (hbase : attributeBase (.Name x p3) "append" X.env (eval (.Name x p3) X.env) = eval (.Name x p3) X.env := by rfl)
    (hfew : ((backTo cpos (starEach [.Constant .none jj p4] X.env)).all (fun x => !x.1) && (backToKw cpos (keywordEach [] X.env)).all (fun x => x.1.isSome) && decide ([(Expr.Constant .none jj p4)].length + ([] : List Keyword).length + (if ([] : List Keyword).isEmpty then 0 else 1) < 30)) = true := by rfl)
    (hline : (apos.endLine == cpos.line) = true := by rfl) (hsw : swapsWith (.Call (.Attribute (.Name x p3) "append" apos) [.Constant .none jj p4] [] cpos) none p5.line X.env = pure false := by rfl)
    (hs : ∀ y, foldedSetIterable (.List [e1, e2] p2) X.env y = pure y := by intro _; rfl) :
    MS X cl W (.For (.Name x p1) (.List [e1, e2] p2) [.Expr (.Call (.Attribute (.Name x p3) "append" apos) [.Constant .none jj p4] [] cpos) p5] [] pos) (for2 i n1 n2) := by
  have pb := pss_one (X := X) (ps_expr (pos := p5) (pe_bm (cpos := cpos) PySem.F.plainAttrs_list PySem.F.slot_list_append PySem.F.type_list_append mt_append (pe_var (pos := p3) hi hv hd hcd) (pa_cons (pe_non (pos := p4)) pa_nil he) hbase hfew hline he rfl) hsw)
  have pl := pi_list (X := X) (tg := .Name x p1) (pe_lst (pos := p2) (pa_cons h1.pe (pa_cons h2.pe pa_nil s2) s1))
  refine ⟨fun env k k' l q => h1.mo _ _ _ (fun o z => lstO_mo (fun m z => h2.mo _ _ _ (fun o z => lstO_mo (fun m z => ⟨z.1, l.nx _ z.2⟩) z) z) z) q, PSmono (ps_for hp hc pl (pg_name hN hi hx hf) pb hs) fun D σ H ⟨β, G, env, r0, q⟩ => ?_⟩
  refine ⟨β, G, env, r0, h1.mo _ _ _ (fun o1 z v1 H1 G1 X1 x1 ro1 f1 => ?_) q⟩
  obtain ⟨q1, vs1, ms1, rfl, rfl, rfl, a1, b1, c1, z⟩ := repl ro1 z
  have g1 := f1 q1 (by simp)
  refine ⟨β, G1, env, r0.ext x1, h2.mo _ _ _ (fun o2 z v2 H2 G2 X2 x2 ro2 f2 => ?_) z⟩
  obtain ⟨q2, vs2, ms2, rfl, rfl, rfl, a2, b2, c2, z⟩ := repl ro2 z
  have g2 := f2 q2 (by simp)
  refine ⟨(by decide : 2 ≤ sizeLine), fun p hp0 => ⟨p, rfl, ⟨_, SqL.of upd_same⟩, ?_⟩⟩
  obtain ⟨il, z⟩ := z
  have iσ : i < σ.length := by rw [← r0.len]; exact il
  have k1 : H2 q1 = some (.lst vs1) := x2.hh _ _ a1
  have d21 : q2 ≠ q1 := fun y => by rw [y] at g2; exact g1.2.2 g2.1
  have dp1 : q1 ≠ p := fun y => by rw [y, hp0] at k1; cases k1
  have dp2 : q2 ≠ p := fun y => by rw [y, hp0] at a2; cases a2
  obtain ⟨HP, hHP⟩ : ∃ HP, HP = upd H2 p (.lst [.ref q1, .ref q2]) := ⟨_, rfl⟩
  obtain ⟨A1, hA1⟩ : ∃ A, A = upd HP q1 (.lst (vs1 ++ [.non])) := ⟨_, rfl⟩
  obtain ⟨A2, hA2⟩ : ∃ A, A = upd A1 q2 (.lst (vs2 ++ [.non])) := ⟨_, rfl⟩
  have P0 : HP p = some (.lst [.ref q1, .ref q2]) := by rw [hHP]; exact upd_same
  have P1 : A1 p = some (.lst [.ref q1, .ref q2]) := by rw [hA1, upd_ne (Ne.symm dp1)]; exact P0
  have P2 : A2 p = some (.lst [.ref q1, .ref q2]) := by rw [hA2, upd_ne (Ne.symm dp2)]; exact P1
  have M1 : HP q1 = some (.lst vs1) := by rw [hHP, upd_ne dp1]; exact k1
  have M2 : A1 q2 = some (.lst vs2) := by rw [hA1, upd_ne d21, hHP, upd_ne dp2]; exact a2
  rw [← hHP]
  refine ⟨fun n m σ' H' => (n = 0 ∧ m = 2 ∧ σ' = σ ∧ H' = HP) ∨ (n = 1 ∧ m = 1 ∧ σ' = σ.set i (some (.ref q1)) ∧ H' = A1) ∨ (n = 2 ∧ m = 0 ∧ σ' = σ.set i (some (.ref q2)) ∧ H' = A2), ⟨2, .inl ⟨rfl, rfl, rfl, rfl⟩⟩, ?_⟩
  have turn : ∀ (N : L2.St → Hp → Prop) (D' : Ends) (σ' : L2.St) (H' : Hp) (q : Addr) (vs : List V), σ'.length = σ.length → H' q = some (.lst vs) → vs.length < sizeLine → (∀ σ2 H2, σ2 = σ'.set i (some (.ref q)) → H2 = upd H' q (.lst (vs ++ [.non])) → N σ2 H2) → gName i (.ref q) σ' H' fun σ2 H2 => tDrop (tBM X.K "list" rAppend (tVar i) (tCons (tC V.non) tNil)) { D' with nx := N } σ2 H2 := fun N D' σ' H' q vs hl hq hs hN => by
    refine ⟨.ref q, ?_, .inl ⟨rfl, vs, SqL.of hq⟩, q, vs, .non, rfl, rfl, hq, hs, hN _ _ rfl rfl⟩
    rw [List.getElem?_set_self (by omega)]
  have item : ∀ {H' : Hp} {n : Nat} {x : V} {q : Addr}, H' p = some (.lst [.ref q1, .ref q2]) → ([V.ref q1, .ref q2] : List V)[n]? = some (.ref q) → (∀ xs, SqL X.K H' p xs → xs[n]? = some x) → x = .ref q := fun h1 h2 h3 => by
    have := h3 _ (SqL.of h1)
    rw [h2] at this
    exact (Option.some.inj this).symm
  have cvs1 : vs1.length < sizeLine := by rw [Reps.len _ _ b1]; exact c1
  have cvs2 : vs2.length < sizeLine := by rw [Reps.len _ _ b2]; exact c2
  rintro n m σ' H' (⟨e1, e2, e3, e4⟩ | ⟨e1, e2, e3, e4⟩ | ⟨e1, e2, e3, e4⟩)
  · subst e1 e2 e3 e4
    refine Or.inr ⟨⟨[.ref q1, .ref q2], .ref q1, SqL.of P0, rfl⟩, fun σ2 H2 => σ2 = σ'.set i (some (.ref q1)) ∧ H2 = A1, fun σ2 H2 w => ⟨1, by decide, Or.inr (Or.inl ⟨rfl, rfl, w.1, w.2⟩)⟩, fun x H2 w => ?_⟩
    obtain ⟨w1, w2⟩ := w
    subst w1
    rw [item P0 rfl w2]
    exact turn (fun σ2 H2 => σ2 = σ'.set i (some (.ref q1)) ∧ H2 = A1) D σ' H2 q1 vs1 rfl M1 cvs1 fun σ2 H3 w3 w4 => ⟨w3, by rw [w4, hA1]⟩
  · subst e1 e2 e3 e4
    refine Or.inr ⟨⟨[.ref q1, .ref q2], .ref q2, SqL.of P1, rfl⟩, fun σ2 H2 => σ2 = σ.set i (some (.ref q2)) ∧ H2 = A2, fun σ2 H2 w => ⟨0, by decide, Or.inr (Or.inr ⟨rfl, rfl, w.1, w.2⟩)⟩, fun x H2 w => ?_⟩
    obtain ⟨w1, w2⟩ := w
    subst w1
    rw [item P1 rfl w2]
    exact turn (fun σ2 H2 => σ2 = σ.set i (some (.ref q2)) ∧ H2 = A2) D _ H2 q2 vs2 (by simp) M2 cvs2 fun σ2 H3 w3 w4 => ⟨by rw [w3, List.set_set], by rw [w4, hA2]⟩
  · subst e1 e2 e3 e4
    refine Or.inl ⟨⟨_, SqL.of P2, Nat.le_refl 2⟩, ?_⟩
    have xx := x1.trans x2
    have n1 : G2 q1 = none := x2.gn _ g1.2.2 g1.2.1
    have n2 : G2 q2 = none := g2.2.1
    have np : G2 p = none := x2.gh.free hp0
    have h1 : H q1 = none := g1.1
    have h2 : H q2 = none := x1.hh.free g2.1
    have hp' : H p = none := xx.hh.free hp0
    have off : ∀ b, b ≠ p → b ≠ q1 → b ≠ q2 → H' b = H2 b := fun b y0 y1 y2 => by rw [hA2, upd_ne y2, hA1, upd_ne y1, hHP, upd_ne y0]
    have E : Ext H G H' G2 := by
      refine ⟨fun b u y => ?_, xx.gg, fun b u y => ?_, xx.gn⟩
      · rw [off b (ne_of_none y hp') (ne_of_none y h1) (ne_of_none y h2)]; exact xx.hh b u y
      · rw [off b (ne_of_none y np) (ne_of_none y n1) (ne_of_none y n2)]; exact x2.gh b u y
    have hq2 : H' q2 = some (.lst (vs2 ++ [.non])) := by rw [hA2]; exact upd_same
    have ro : RepO X.K cl H' G2 (.lst (ms2 ++ [.non])) (.ref q2) [q2] := by
      unfold RepO
      exact ⟨q2, _, rfl, rfl, hq2, Reps.app _ _ _ _ b2 (Reps.one (by unfold Rep; rfl))⟩
    have hz : ∀ b ∈ [q2], H b = none ∧ G2 b = none ∧ H' b ≠ none := fun b hb => by
      have : b = q2 := by simpa using hb
      subst this
      exact ⟨h2, n2, by rw [hq2]; simp⟩
    exact z _ H' G2 ((r0.extX E hz).setv il ro) xx.gg
end
end C
namespace C
open PySem PySem.Spec PyProof.Rows L2
def S_wall : SX :=
  (whileS (tTru (qE (eK (.bl true))))
  skip)
inductive F_wall (ss : Env) (Q : OV → Env → Prop) (E : Int → Prop) : Prop where
  | mk (h : fDef 1 1 S_wall ss Q E) : F_wall ss Q E
theorem e_wall : F_wall = fDef 1 1 S_wall := funext fun _ => funext fun _ => funext fun _ => propext ⟨fun h => match h with | .mk h => h, .mk⟩
def S_common_divisor : SX :=
  (sqF (set 2 (xE (e1 gAbs (qPl 0 []))))
  (sqF (set 3 (xE (e1 gAbs (qPl 1 []))))
  (sqF (whileS (tTru (qPl 3 []))
  (par 2 3 (aV (eQ (qPl 3 [])) (aV (eBin gModI (qPl 2 []) (qPl 3 [])) aN))))
  (ret (xE (eQ (qPl 2 [])))))))
inductive F_common_divisor (ss : Env) (Q : OV → Env → Prop) (E : Int → Prop) : Prop where
  | mk (h : fDef 4 2 S_common_divisor ss Q E) : F_common_divisor ss Q E
theorem e_common_divisor : F_common_divisor = fDef 4 2 S_common_divisor := funext fun _ => funext fun _ => funext fun _ => propext ⟨fun h => match h with | .mk h => h, .mk⟩
def S_floor_at : SX :=
  (sqF (asg (gTupX (gLen 3 (gsCons (gNm 2) (gsCons (gNm 3) (gsCons (gNm 4) gsNil))))) (xE (eQ (qPl 0 []))))
  (ret (xE (eBin gDivI (qE (eBin gAdd (qE (eBin gMulI (qPl 2 []) (qPl 1 []))) (qPl 3 []))) (qPl 4 [])))))
inductive F_floor_at (ss : Env) (Q : OV → Env → Prop) (E : Int → Prop) : Prop where
  | mk (h : fDef 5 2 S_floor_at ss Q E) : F_floor_at ss Q E
theorem e_floor_at : F_floor_at = fDef 5 2 S_floor_at := funext fun _ => funext fun _ => funext fun _ => propext ⟨fun h => match h with | .mk h => h, .mk⟩
def S_ceiling_at : SX :=
  (sqF (asg (gTupX (gLen 3 (gsCons (gNm 2) (gsCons (gNm 3) (gsCons (gNm 4) gsNil))))) (xE (eQ (qPl 0 []))))
  (ret (xE (eNeg (qE (eBin gDivI (qE (eNeg (qE (eBin gAdd (qE (eBin gMulI (qPl 2 []) (qPl 1 []))) (qPl 3 []))))) (qPl 4 [])))))))
inductive F_ceiling_at (ss : Env) (Q : OV → Env → Prop) (E : Int → Prop) : Prop where
  | mk (h : fDef 5 2 S_ceiling_at ss Q E) : F_ceiling_at ss Q E
theorem e_ceiling_at : F_ceiling_at = fDef 5 2 S_ceiling_at := funext fun _ => funext fun _ => funext fun _ => propext ⟨fun h => match h with | .mk h => h, .mk⟩
def S_fraction : SX :=
  (sqF (set 2 (xE (eFrz (nCall 2 F_common_divisor (aV (eQ (qPl 0 [])) (aV (eQ (qPl 1 [])) aN))))))
  (ret (xE (eTup (aV (eBin gDivI (qPl 0 []) (qPl 2 [])) (aV (eBin gDivI (qPl 1 []) (qPl 2 [])) aN))))))
inductive F_fraction (ss : Env) (Q : OV → Env → Prop) (E : Int → Prop) : Prop where
  | mk (h : fDef 3 2 S_fraction ss Q E) : F_fraction ss Q E
theorem e_fraction : F_fraction = fDef 3 2 S_fraction := funext fun _ => funext fun _ => funext fun _ => propext ⟨fun h => match h with | .mk h => h, .mk⟩
def S_slope_between : SX :=
  (sqF (ifS (uT (tCmp gGt (qE (eBin gIx (qPl 0 []) (qE (eK (.int 0))))) (qE (eK (.int 0)))))
  (ret (xE (eQ (qPl 0 []))))
  skip)
  (sqF (ifS (uT (tCmp gLt (qE (eBin gIx (qPl 1 []) (qE (eK (.int 0))))) (qE (eK (.int 0)))))
  (ret (xE (eQ (qPl 1 []))))
  skip)
  (ret (xE (eTup (aV (eK (.int 0)) (aV (eK (.int 1)) aN)))))))
inductive F_slope_between (ss : Env) (Q : OV → Env → Prop) (E : Int → Prop) : Prop where
  | mk (h : fDef 2 2 S_slope_between ss Q E) : F_slope_between ss Q E
theorem e_slope_between : F_slope_between = fDef 2 2 S_slope_between := funext fun _ => funext fun _ => funext fun _ => propext ⟨fun h => match h with | .mk h => h, .mk⟩
def S_line_with_slope : SX :=
  (sqF (asg (gTupX (gLen 2 (gsCons (gNm 3) (gsCons (gNm 4) gsNil)))) (xE (eQ (qPl 2 []))))
  (ret (xE (eTup (aV (eQ (qPl 3 [])) (aV (e1 gMax (qE (eFrz (nLc (lcX [5, 6] (lA (qPl 0 [])) (gTupX (gLen 2 (gsCons (gNm 5) (gsCons (gNm 6) gsNil)))) tYesX (eBin gSubI (qE (eBin gSubI (qE (eBin gMulI (qPl 6 []) (qPl 4 []))) (qE (eBin gMulI (qPl 1 []) (qPl 4 []))))) (qE (eBin gMulI (qPl 3 []) (qPl 5 []))))))))) (aV (eQ (qPl 4 [])) aN)))))))
inductive F_line_with_slope (ss : Env) (Q : OV → Env → Prop) (E : Int → Prop) : Prop where
  | mk (h : fDef 7 3 S_line_with_slope ss Q E) : F_line_with_slope ss Q E
theorem e_line_with_slope : F_line_with_slope = fDef 7 3 S_line_with_slope := funext fun _ => funext fun _ => funext fun _ => propext ⟨fun h => match h with | .mk h => h, .mk⟩
def S_turn : SX :=
  (ret (xE (eBin gSubI (qE (eBin gMulI (qE (eBin gSubI (qE (eBin gIx (qPl 1 []) (qE (eK (.int 0))))) (qE (eBin gIx (qPl 0 []) (qE (eK (.int 0))))))) (qE (eBin gSubI (qE (eBin gIx (qPl 2 []) (qE (eK (.int 1))))) (qE (eBin gIx (qPl 0 []) (qE (eK (.int 1))))))))) (qE (eBin gMulI (qE (eBin gSubI (qE (eBin gIx (qPl 1 []) (qE (eK (.int 1))))) (qE (eBin gIx (qPl 0 []) (qE (eK (.int 1))))))) (qE (eBin gSubI (qE (eBin gIx (qPl 2 []) (qE (eK (.int 0))))) (qE (eBin gIx (qPl 0 []) (qE (eK (.int 0))))))))))))
inductive F_turn (ss : Env) (Q : OV → Env → Prop) (E : Int → Prop) : Prop where
  | mk (h : fDef 3 3 S_turn ss Q E) : F_turn ss Q E
theorem e_turn : F_turn = fDef 3 3 S_turn := funext fun _ => funext fun _ => funext fun _ => propext ⟨fun h => match h with | .mk h => h, .mk⟩
def S_rise_over : SX :=
  (ret (xE (eTup (aV (eBin gSubI (qE (eBin gIx (qPl 1 []) (qE (eK (.int 1))))) (qE (eBin gIx (qPl 0 []) (qE (eK (.int 1)))))) (aV (eBin gSubI (qE (eBin gIx (qPl 1 []) (qE (eK (.int 0))))) (qE (eBin gIx (qPl 0 []) (qE (eK (.int 0)))))) aN)))))
inductive F_rise_over (ss : Env) (Q : OV → Env → Prop) (E : Int → Prop) : Prop where
  | mk (h : fDef 2 2 S_rise_over ss Q E) : F_rise_over ss Q E
theorem e_rise_over : F_rise_over = fDef 2 2 S_rise_over := funext fun _ => funext fun _ => funext fun _ => propext ⟨fun h => match h with | .mk h => h, .mk⟩
def S_is_below : SX :=
  (ret (xE (eB (tCmp gLt (qE (eBin gMulI (qE (eBin gIx (qPl 0 []) (qE (eK (.int 0))))) (qE (eBin gIx (qPl 1 []) (qE (eK (.int 1))))))) (qE (eBin gMulI (qE (eBin gIx (qPl 1 []) (qE (eK (.int 0))))) (qE (eBin gIx (qPl 0 []) (qE (eK (.int 1)))))))))))
inductive F_is_below (ss : Env) (Q : OV → Env → Prop) (E : Int → Prop) : Prop where
  | mk (h : fDef 2 2 S_is_below ss Q E) : F_is_below ss Q E
theorem e_is_below : F_is_below = fDef 2 2 S_is_below := funext fun _ => funext fun _ => funext fun _ => propext ⟨fun h => match h with | .mk h => h, .mk⟩
def S_Fitter_init__ : SX :=
  (sqF (setF 0 [] 0 (xE (eQ (qPl 1 []))))
  (sqF (setF 0 [] 1 (xE (eK (.int 0))))
  (sqF (setF 0 [] 2 (xN (nLst aN)))
  (sqF (setF 0 [] 3 (xN (nLst aN)))
  (sqF (setF 0 [] 4 (xN (nLst aN)))
  (sqF (setF 0 [] 5 (xE (eTup aN)))
  (setF 0 [] 6 (xE (eTup aN)))))))))
inductive F_Fitter_init__ (ss : Env) (Q : OV → Env → Prop) (E : Int → Prop) : Prop where
  | mk (h : fDef 2 2 S_Fitter_init__ ss Q E) : F_Fitter_init__ ss Q E
theorem e_Fitter_init__ : F_Fitter_init__ = fDef 2 2 S_Fitter_init__ := funext fun _ => funext fun _ => funext fun _ => propext ⟨fun h => match h with | .mk h => h, .mk⟩
def S_Fitter_conflict : SX :=
  (sqF (ifS (uT (tCmp gLt (qPl 0 [1]) (qE (eK (.int 2)))))
  (ret (xE (eK .non)))
  skip)
  (sqF (asg (gTupX (gLen 2 (gsCons (gNm 2) (gsCons (gNm 3) gsNil)))) (xE (eQ (qPl 1 []))))
  (sqF (ifS (uT (tTru (qE (eFrz (nCall 2 F_is_below (aV (eFrz (nCall 2 F_rise_over (aV (eBin gIx (qPl 0 [5]) (qE (eK (.int 1)))) (aV (eTup (aV (eQ (qPl 2 [])) (aV (eBin gAdd (qPl 3 []) (qPl 0 [0])) aN))) aN)))) (aV (eFrz (nCall 2 F_rise_over (aV (eBin gIx (qPl 0 [5]) (qE (eK (.int 0)))) (aV (eBin gIx (qPl 0 [5]) (qE (eK (.int 1)))) aN)))) aN)))))))
  (ret (xE (eTup (aV (eBin gIx (qE (eBin gIx (qPl 0 [5]) (qE (eK (.int 0))))) (qE (eK (.int 2)))) (aV (eBin gIx (qE (eBin gIx (qPl 0 [5]) (qE (eK (.int 1))))) (qE (eK (.int 2)))) aN)))))
  skip)
  (sqF (ifS (uT (tTru (qE (eFrz (nCall 2 F_is_below (aV (eFrz (nCall 2 F_rise_over (aV (eBin gIx (qPl 0 [6]) (qE (eK (.int 0)))) (aV (eBin gIx (qPl 0 [6]) (qE (eK (.int 1)))) aN)))) (aV (eFrz (nCall 2 F_rise_over (aV (eBin gIx (qPl 0 [6]) (qE (eK (.int 1)))) (aV (eTup (aV (eQ (qPl 2 [])) (aV (eBin gSubI (qPl 3 []) (qPl 0 [0])) aN))) aN)))) aN)))))))
  (ret (xE (eTup (aV (eBin gIx (qE (eBin gIx (qPl 0 [6]) (qE (eK (.int 0))))) (qE (eK (.int 2)))) (aV (eBin gIx (qE (eBin gIx (qPl 0 [6]) (qE (eK (.int 1))))) (qE (eK (.int 2)))) aN)))))
  skip)
  (ret (xE (eK .non)))))))
inductive F_Fitter_conflict (ss : Env) (Q : OV → Env → Prop) (E : Int → Prop) : Prop where
  | mk (h : fDef 4 2 S_Fitter_conflict ss Q E) : F_Fitter_conflict ss Q E
theorem e_Fitter_conflict : F_Fitter_conflict = fDef 4 2 S_Fitter_conflict := funext fun _ => funext fun _ => funext fun _ => propext ⟨fun h => match h with | .mk h => h, .mk⟩
def S_Fitter_add_corners : SX :=
  (sqF (whileS (tAnd (tCmp gGt (qE (e1 gLenV (qPl 0 [3]))) (qE (eK (.int 1)))) (tCmp gLe (qE (eFrz (nCall 3 F_turn (aV (eBin gIx (qPl 0 [3]) (qE (eNeg (qE (eK (.int 2)))))) (aV (eBin gIx (qPl 0 [3]) (qE (eNeg (qE (eK (.int 1)))))) (aV (eQ (qPl 1 [])) aN)))))) (qE (eK (.int 0)))))
  (drop (xPop 0 [3])))
  (sqF (drop (xApp 0 [3] (eQ (qPl 1 []))))
  (sqF (whileS (tAnd (tCmp gGt (qE (e1 gLenV (qPl 0 [4]))) (qE (eK (.int 1)))) (tCmp gGe (qE (eFrz (nCall 3 F_turn (aV (eBin gIx (qPl 0 [4]) (qE (eNeg (qE (eK (.int 2)))))) (aV (eBin gIx (qPl 0 [4]) (qE (eNeg (qE (eK (.int 1)))))) (aV (eQ (qPl 2 [])) aN)))))) (qE (eK (.int 0)))))
  (drop (xPop 0 [4])))
  (drop (xApp 0 [4] (eQ (qPl 2 [])))))))
inductive F_Fitter_add_corners (ss : Env) (Q : OV → Env → Prop) (E : Int → Prop) : Prop where
  | mk (h : fDef 3 3 S_Fitter_add_corners ss Q E) : F_Fitter_add_corners ss Q E
theorem e_Fitter_add_corners : F_Fitter_add_corners = fDef 3 3 S_Fitter_add_corners := funext fun _ => funext fun _ => funext fun _ => propext ⟨fun h => match h with | .mk h => h, .mk⟩
def S_Fitter_lower_steep : SX :=
  (sqF (ifS (uT (tNot (tTru (qE (eFrz (nCall 2 F_is_below (aV (eFrz (nCall 2 F_rise_over (aV (eBin gIx (qPl 0 [6]) (qE (eK (.int 0)))) (aV (eQ (qPl 1 [])) aN)))) (aV (eFrz (nCall 2 F_rise_over (aV (eBin gIx (qPl 0 [6]) (qE (eK (.int 0)))) (aV (eBin gIx (qPl 0 [6]) (qE (eK (.int 1)))) aN)))) aN))))))))
  retN
  skip)
  (sqF (set 2 (xE (eBin gIx (qPl 0 [4]) (qE (eK (.int 0))))))
  (sqF (forB 0 [4] (gNm 3)
  (ifJ (uT (tTru (qE (eFrz (nCall 2 F_is_below (aV (eFrz (nCall 2 F_rise_over (aV (eQ (qPl 3 [])) (aV (eQ (qPl 1 [])) aN)))) (aV (eFrz (nCall 2 F_rise_over (aV (eQ (qPl 2 [])) (aV (eQ (qPl 1 [])) aN)))) aN)))))))
  (set 2 (xE (eQ (qPl 3 []))))
  skip))
  (setF 0 [] 6 (xE (eTup (aV (eQ (qPl 2 [])) (aV (eQ (qPl 1 [])) aN))))))))
inductive F_Fitter_lower_steep (ss : Env) (Q : OV → Env → Prop) (E : Int → Prop) : Prop where
  | mk (h : fDef 4 2 S_Fitter_lower_steep ss Q E) : F_Fitter_lower_steep ss Q E
theorem e_Fitter_lower_steep : F_Fitter_lower_steep = fDef 4 2 S_Fitter_lower_steep := funext fun _ => funext fun _ => funext fun _ => propext ⟨fun h => match h with | .mk h => h, .mk⟩
def S_Fitter_raise_flat : SX :=
  (sqF (ifS (uT (tNot (tTru (qE (eFrz (nCall 2 F_is_below (aV (eFrz (nCall 2 F_rise_over (aV (eBin gIx (qPl 0 [5]) (qE (eK (.int 0)))) (aV (eBin gIx (qPl 0 [5]) (qE (eK (.int 1)))) aN)))) (aV (eFrz (nCall 2 F_rise_over (aV (eBin gIx (qPl 0 [5]) (qE (eK (.int 0)))) (aV (eQ (qPl 1 [])) aN)))) aN))))))))
  retN
  skip)
  (sqF (set 2 (xE (eBin gIx (qPl 0 [3]) (qE (eK (.int 0))))))
  (sqF (forB 0 [3] (gNm 3)
  (ifJ (uT (tTru (qE (eFrz (nCall 2 F_is_below (aV (eFrz (nCall 2 F_rise_over (aV (eQ (qPl 2 [])) (aV (eQ (qPl 1 [])) aN)))) (aV (eFrz (nCall 2 F_rise_over (aV (eQ (qPl 3 [])) (aV (eQ (qPl 1 [])) aN)))) aN)))))))
  (set 2 (xE (eQ (qPl 3 []))))
  skip))
  (setF 0 [] 5 (xE (eTup (aV (eQ (qPl 2 [])) (aV (eQ (qPl 1 [])) aN))))))))
inductive F_Fitter_raise_flat (ss : Env) (Q : OV → Env → Prop) (E : Int → Prop) : Prop where
  | mk (h : fDef 4 2 S_Fitter_raise_flat ss Q E) : F_Fitter_raise_flat ss Q E
theorem e_Fitter_raise_flat : F_Fitter_raise_flat = fDef 4 2 S_Fitter_raise_flat := funext fun _ => funext fun _ => funext fun _ => propext ⟨fun h => match h with | .mk h => h, .mk⟩
def S_Fitter_add : SX :=
  (sqF (ifS (uT (tCmp (gIsP true) (qE (eFrz (nCall 2 F_Fitter_conflict (rcG 0 (rPl (.br 0 []) 0 []) (aV (eQ (qPl 1 [])) aN))))) (qE (eK .non))))
  (ret (xE (eK (.bl false))))
  skip)
  (sqF (set 2 (xE (eTup (aV (eBin gIx (qPl 1 []) (qE (eK (.int 0)))) (aV (eBin gAdd (qE (eBin gIx (qPl 1 []) (qE (eK (.int 1))))) (qPl 0 [0])) (aV (eQ (qPl 0 [1])) aN))))))
  (sqF (set 3 (xE (eTup (aV (eBin gIx (qPl 1 []) (qE (eK (.int 0)))) (aV (eBin gSubI (qE (eBin gIx (qPl 1 []) (qE (eK (.int 1))))) (qPl 0 [0])) (aV (eQ (qPl 0 [1])) aN))))))
  (sqF (ifJ (uT (tCmp gEq (qPl 0 [1]) (qE (eK (.int 1)))))
  (sqF (setF 0 [] 5 (xE (eTup (aV (eBin gIx (qPl 0 [3]) (qE (eK (.int 0)))) (aV (eQ (qPl 3 [])) aN)))))
  (setF 0 [] 6 (xE (eTup (aV (eBin gIx (qPl 0 [4]) (qE (eK (.int 0)))) (aV (eQ (qPl 2 [])) aN))))))
  (ifJ (uT (tCmp gGt (qPl 0 [1]) (qE (eK (.int 1)))))
  (sqF (drop (xCall 2 F_Fitter_lower_steep (rcG 0 (rPl (.mu 0 []) 0 []) (aV (eQ (qPl 2 [])) aN))))
  (drop (xCall 2 F_Fitter_raise_flat (rcG 0 (rPl (.mu 0 []) 0 []) (aV (eQ (qPl 3 [])) aN)))))
  skip))
  (sqF (drop (xCall 3 F_Fitter_add_corners (rcG 0 (rPl (.mu 0 []) 0 []) (aV (eQ (qPl 2 [])) (aV (eQ (qPl 3 [])) aN)))))
  (sqF (drop (xApp 0 [2] (eQ (qPl 1 []))))
  (sqF (augF 0 [] 1 gAddS (qE (eK (.int 1))))
  (ret (xE (eK (.bl true)))))))))))
inductive F_Fitter_add (ss : Env) (Q : OV → Env → Prop) (E : Int → Prop) : Prop where
  | mk (h : fDef 4 2 S_Fitter_add ss Q E) : F_Fitter_add ss Q E
theorem e_Fitter_add : F_Fitter_add = fDef 4 2 S_Fitter_add := funext fun _ => funext fun _ => funext fun _ => propext ⟨fun h => match h with | .mk h => h, .mk⟩
def S_Fitter_span_at : SX :=
  (drop (xN (nCall 1 F_wall (aV (eK (.int 0)) aN))))
inductive F_Fitter_span_at (ss : Env) (Q : OV → Env → Prop) (E : Int → Prop) : Prop where
  | mk (h : fDef 2 2 S_Fitter_span_at ss Q E) : F_Fitter_span_at ss Q E
theorem e_Fitter_span_at : F_Fitter_span_at = fDef 2 2 S_Fitter_span_at := funext fun _ => funext fun _ => funext fun _ => propext ⟨fun h => match h with | .mk h => h, .mk⟩
def S_Fitter_line : SX :=
  (sqF (ifS (uT (tCmp gEq (qPl 0 [1]) (qE (eK (.int 0)))))
  (ret (xE (eTup (aV (eK (.int 0)) (aV (eK (.int 0)) (aV (eK (.int 1)) aN))))))
  skip)
  (sqF (ifS (uT (tCmp gEq (qPl 0 [1]) (qE (eK (.int 1)))))
  (ret (xE (eTup (aV (eK (.int 0)) (aV (eBin gIx (qE (eBin gIx (qPl 0 [2]) (qE (eK (.int 0))))) (qE (eK (.int 1)))) (aV (eK (.int 1)) aN))))))
  skip)
  (sqF (set 1 (xE (eFrz (nCall 2 F_rise_over (aV (eBin gIx (qPl 0 [5]) (qE (eK (.int 0)))) (aV (eBin gIx (qPl 0 [5]) (qE (eK (.int 1)))) aN))))))
  (sqF (set 2 (xE (eFrz (nCall 2 F_rise_over (aV (eBin gIx (qPl 0 [6]) (qE (eK (.int 0)))) (aV (eBin gIx (qPl 0 [6]) (qE (eK (.int 1)))) aN))))))
  (sqF (set 3 (xE (eFrz (nCall 2 F_slope_between (aV (eFrz (nCall 2 F_fraction (aV (eBin gIx (qPl 1 []) (qE (eK (.int 0)))) (aV (eBin gIx (qPl 1 []) (qE (eK (.int 1)))) aN)))) (aV (eFrz (nCall 2 F_fraction (aV (eBin gIx (qPl 2 []) (qE (eK (.int 0)))) (aV (eBin gIx (qPl 2 []) (qE (eK (.int 1)))) aN)))) aN))))))
  (ret (xN (nCall 3 F_line_with_slope (arPl (.br 0 [2]) 0 [2] (aV (eQ (qPl 0 [0])) (aV (eQ (qPl 3 [])) aN)))))))))))
inductive F_Fitter_line (ss : Env) (Q : OV → Env → Prop) (E : Int → Prop) : Prop where
  | mk (h : fDef 4 1 S_Fitter_line ss Q E) : F_Fitter_line ss Q E
theorem e_Fitter_line : F_Fitter_line = fDef 4 1 S_Fitter_line := funext fun _ => funext fun _ => funext fun _ => propext ⟨fun h => match h with | .mk h => h, .mk⟩
def S_Cutting_init__ : SX :=
  (sqF (setF 0 [] 7 (xN (nList (qPl 1 []))))
  (setF 0 [] 8 (xN (nList (qPl 2 [])))))
inductive F_Cutting_init__ (ss : Env) (Q : OV → Env → Prop) (E : Int → Prop) : Prop where
  | mk (h : fDef 3 3 S_Cutting_init__ ss Q E) : F_Cutting_init__ ss Q E
theorem e_Cutting_init__ : F_Cutting_init__ = fDef 3 3 S_Cutting_init__ := funext fun _ => funext fun _ => funext fun _ => propext ⟨fun h => match h with | .mk h => h, .mk⟩
def S_cut : SX :=
  (sqF (set 2 (xN (nLst aN)))
  (sqF (set 3 (xN (nLst aN)))
  (sqF (set 4 (xE (eK (.int 0))))
  (sqF (set 5 (xN (nMake 0 2 F_Fitter_init__ (aV (eQ (qPl 1 [])) aN))))
  (sqF (forS (lEn (eQ (qPl 0 []))) (gTupX (gLen 2 (gsCons (gNm 6) (gsCons (gNm 7) gsNil))))
  (sqF (set 8 (xE (eFrz (nCall 2 F_Fitter_conflict (rcG 0 (rPl (.br 5 []) 5 []) (aV (eQ (qPl 7 [])) aN))))))
  (sqF (ifJ (uT (tCmp (gIsP true) (qPl 8 []) (qE (eK .non))))
  (sqF (drop (xApp 2 [] (eTup (aV (eQ (qPl 4 [])) (aV (eFrz (nCall 1 F_Fitter_line (rcG 0 (rPl (.br 5 []) 5 []) aN))) aN)))))
  (sqF (drop (xApp 3 [] (eTup (aV (eBin gAdd (qPl 4 []) (qE (eBin gIx (qPl 8 []) (qE (eK (.int 0)))))) (aV (eBin gAdd (qPl 4 []) (qE (eBin gIx (qPl 8 []) (qE (eK (.int 1)))))) (aV (eQ (qPl 6 [])) aN))))))
  (sqF (set 4 (xE (eQ (qPl 6 []))))
  (set 5 (xN (nMake 0 2 F_Fitter_init__ (aV (eQ (qPl 1 [])) aN)))))))
  skip)
  (drop (xCall 2 F_Fitter_add (rcG 0 (rPl (.mu 5 []) 5 []) (aV (eQ (qPl 7 [])) aN)))))))
  (sqF (ifJ (uT (tTru (qPl 0 [])))
  (drop (xApp 2 [] (eTup (aV (eQ (qPl 4 [])) (aV (eFrz (nCall 1 F_Fitter_line (rcG 0 (rPl (.br 5 []) 5 []) aN))) aN)))))
  skip)
  (ret (xN (nMake 1 3 F_Cutting_init__ (arPl (.br 2 []) 2 [] (arPl (.br 3 []) 3 [] aN)))))))))))
inductive F_cut (ss : Env) (Q : OV → Env → Prop) (E : Int → Prop) : Prop where
  | mk (h : fDef 9 2 S_cut ss Q E) : F_cut ss Q E
theorem e_cut : F_cut = fDef 9 2 S_cut := funext fun _ => funext fun _ => funext fun _ => propext ⟨fun h => match h with | .mk h => h, .mk⟩
def S_Level_init__ : SX :=
  (sqF (setF 0 [] 9 (xE (eQ (qPl 1 []))))
  (sqF (setF 0 [] 0 (xE (eQ (qPl 2 []))))
  (setF 0 [] 7 (xE (eFld 7 (eFrz (nCall 2 F_cut (aV (eFrz (nLc (lcX [3, 4] (lEnQ (qPl 1 [])) (gTupX (gLen 2 (gsCons (gNm 3) (gsCons (gNm 4) gsNil)))) tYesX (eTup (aV (eQ (qPl 4 [])) (aV (eQ (qPl 3 [])) aN)))))) (aV (eQ (qPl 2 [])) aN)))))))))
inductive F_Level_init__ (ss : Env) (Q : OV → Env → Prop) (E : Int → Prop) : Prop where
  | mk (h : fDef 5 3 S_Level_init__ ss Q E) : F_Level_init__ ss Q E
theorem e_Level_init__ : F_Level_init__ = fDef 5 3 S_Level_init__ := funext fun _ => funext fun _ => funext fun _ => propext ⟨fun h => match h with | .mk h => h, .mk⟩
def S_Level_end_of : SX :=
  (sqF (ifS (uT (tCmp gLt (qE (eBin gAdd (qPl 1 []) (qE (eK (.int 1))))) (qE (e1 gLenV (qPl 0 [7])))))
  (ret (xE (eBin gIx (qE (eBin gIx (qPl 0 [7]) (qE (eBin gAdd (qPl 1 []) (qE (eK (.int 1))))))) (qE (eK (.int 0))))))
  skip)
  (ret (xN (nE (e1 gLenV (qPl 0 [9]))))))
inductive F_Level_end_of (ss : Env) (Q : OV → Env → Prop) (E : Int → Prop) : Prop where
  | mk (h : fDef 2 2 S_Level_end_of ss Q E) : F_Level_end_of ss Q E
theorem e_Level_end_of : F_Level_end_of = fDef 2 2 S_Level_end_of := funext fun _ => funext fun _ => funext fun _ => propext ⟨fun h => match h with | .mk h => h, .mk⟩
def S_Level_find : SX :=
  (sqF (asg (gTupX (gLen 2 (gsCons (gNm 5) (gsCons (gNm 6) gsNil)))) (xE (eBin gIx (qPl 0 [7]) (qPl 1 []))))
  (sqF (set 7 (xE (eBin gSubI (qE (eFrz (nCall 2 F_Level_end_of (rcG 4 (rPl (.br 0 []) 0 []) (aV (eQ (qPl 1 [])) aN))))) (qE (eK (.int 1))))))
  (sqF (set 8 (xE (eBin gMin2 (qPl 7 []) (qE (eBin gMax2 (qPl 5 []) (qE (eBin gSubI (qE (eBin gSubI (qE (eFrz (nCall 2 F_ceiling_at (aV (eQ (qPl 6 [])) (aV (eQ (qPl 2 [])) aN))))) (qE (eK (.int 1))))) (qPl 0 [0]))))))))
  (sqF (set 9 (xE (eBin gMin2 (qPl 7 []) (qE (eBin gAdd (qE (eFrz (nCall 2 F_floor_at (aV (eQ (qPl 6 [])) (aV (eQ (qPl 2 [])) aN))))) (qPl 0 [0]))))))
  (sqF (whileS (tCmp gLt (qPl 8 []) (qPl 9 []))
  (sqF (set 10 (xE (eBin gDivI (qE (eBin gAdd (qE (eBin gAdd (qPl 8 []) (qPl 9 []))) (qE (eK (.int 1))))) (qE (eK (.int 2))))))
  (sqF (drop (xApp 4 [] (eTup (aV (eQ (qPl 3 [])) (aV (eQ (qPl 10 [])) aN)))))
  (ifJ (uT (tCmp gLe (qE (eBin gIx (qPl 0 [9]) (qPl 10 []))) (qPl 2 [])))
  (set 8 (xE (eQ (qPl 10 []))))
  (set 9 (xE (eBin gSubI (qPl 10 []) (qE (eK (.int 1))))))))))
  (ret (xE (eQ (qPl 8 [])))))))))
inductive F_Level_find (ss : Env) (Q : OV → Env → Prop) (E : Int → Prop) : Prop where
  | mk (h : fDef 11 5 S_Level_find ss Q E) : F_Level_find ss Q E
theorem e_Level_find : F_Level_find = fDef 11 5 S_Level_find := funext fun _ => funext fun _ => funext fun _ => propext ⟨fun h => match h with | .mk h => h, .mk⟩
def S_Index_init__ : SX :=
  (sqF (setF 0 [] 10 (xE (e1 gList (qPl 1 []))))
  (sqF (setF 0 [] 11 (xN (nLst (aV (eFrz (nMake 4 3 F_Level_init__ (aV (eQ (qPl 0 [10])) (aV (eQ (qPl 2 [])) aN)))) aN))))
  (whileS (tCmp gGt (qE (e1 gLenV (qE (eFld 7 (eBin gIx (qPl 0 [11]) (qE (eNeg (qE (eK (.int 1)))))))))) (qE (eK (.int 1))))
  (sqF (set 4 (xE (eBin gIx (qPl 0 [11]) (qE (eNeg (qE (eK (.int 1))))))))
  (drop (xApp 0 [11] (eFrz (nMake 4 3 F_Level_init__ (aV (eFrz (nLc (lcX [5, 6] (lA (qPl 4 [7])) (gTupX (gLen 2 (gsCons (gNm 5) (gsCons (gNm 6) gsNil)))) tYesX (eBin gIx (qPl 4 [9]) (qPl 5 []))))) (aV (eQ (qPl 3 [])) aN))))))))))
inductive F_Index_init__ (ss : Env) (Q : OV → Env → Prop) (E : Int → Prop) : Prop where
  | mk (h : fDef 7 4 S_Index_init__ ss Q E) : F_Index_init__ ss Q E
theorem e_Index_init__ : F_Index_init__ = fDef 7 4 S_Index_init__ := funext fun _ => funext fun _ => funext fun _ => propext ⟨fun h => match h with | .mk h => h, .mk⟩
def S_Index_level_keys : SX :=
  (drop (xN (nCall 1 F_wall (aV (eK (.int 1)) aN))))
inductive F_Index_level_keys (ss : Env) (Q : OV → Env → Prop) (E : Int → Prop) : Prop where
  | mk (h : fDef 1 1 S_Index_level_keys ss Q E) : F_Index_level_keys ss Q E
theorem e_Index_level_keys : F_Index_level_keys = fDef 1 1 S_Index_level_keys := funext fun _ => funext fun _ => funext fun _ => propext ⟨fun h => match h with | .mk h => h, .mk⟩
def S_Index_pieces : SX :=
  (ret (xN (nLc (lcX [1] (lA (qPl 0 [11])) (gNm 1) tYesX (e1 gLenV (qPl 1 [7]))))))
inductive F_Index_pieces (ss : Env) (Q : OV → Env → Prop) (E : Int → Prop) : Prop where
  | mk (h : fDef 2 1 S_Index_pieces ss Q E) : F_Index_pieces ss Q E
theorem e_Index_pieces : F_Index_pieces = fDef 2 1 S_Index_pieces := funext fun _ => funext fun _ => funext fun _ => propext ⟨fun h => match h with | .mk h => h, .mk⟩
def S_Index_look_up : SX :=
  (sqF (ifS (uT (tNot (tTru (qPl 0 [10]))))
  (ret (xE (eTup (aV (eK (.int 0)) (aV (eLst aN) aN)))))
  skip)
  (sqF (set 2 (xE (eBin gSubI (qE (e1 gLenV (qPl 0 [11]))) (qE (eK (.int 1))))))
  (sqF (set 3 (xN (nLst (aV (eTup (aV (eQ (qPl 2 [])) (aV (eK (.int 0)) aN))) aN))))
  (sqF (ifS (uT (tCmp gLt (qPl 1 []) (qE (eBin gIx (qPl 0 [10]) (qE (eK (.int 0)))))))
  (fz 3 (ret (xE (eTup (aV (eK (.int 0)) (aV (eQ (qPl 3 [])) aN))))))
  skip)
  (sqF (set 4 (xE (eK (.int 0))))
  (sqF (forS (lRD (qPl 2 []) (qE (eNeg (qE (eK (.int 1)))))) (gNm 5)
  (set 4 (xCall 5 F_Level_find (rcG 4 (rE (eBin gIx (qPl 0 [11]) (qPl 5 []))) (aV (eQ (qPl 4 [])) (aV (eQ (qPl 1 [])) (aV (eQ (qPl 5 [])) (arPl (.mu 3 []) 3 [] aN))))))))
  (fz 3 (ret (xE (eTup (aV (eBin gAdd (qPl 4 []) (qE (eK (.int 1)))) (aV (eQ (qPl 3 [])) aN))))))))))))
inductive F_Index_look_up (ss : Env) (Q : OV → Env → Prop) (E : Int → Prop) : Prop where
  | mk (h : fDef 6 2 S_Index_look_up ss Q E) : F_Index_look_up ss Q E
theorem e_Index_look_up : F_Index_look_up = fDef 6 2 S_Index_look_up := funext fun _ => funext fun _ => funext fun _ => propext ⟨fun h => match h with | .mk h => h, .mk⟩
def S_Index_rank : SX :=
  (ret (xE (eBin gIx (qE (eFrz (nCall 2 F_Index_look_up (rcG 5 (rPl (.br 0 []) 0 []) (aV (eQ (qPl 1 [])) aN))))) (qE (eK (.int 0))))))
inductive F_Index_rank (ss : Env) (Q : OV → Env → Prop) (E : Int → Prop) : Prop where
  | mk (h : fDef 2 2 S_Index_rank ss Q E) : F_Index_rank ss Q E
theorem e_Index_rank : F_Index_rank = fDef 2 2 S_Index_rank := funext fun _ => funext fun _ => funext fun _ => propext ⟨fun h => match h with | .mk h => h, .mk⟩
def S_Index_has : SX :=
  (sqF (set 2 (xE (eFrz (nCall 2 F_Index_rank (rcG 5 (rPl (.br 0 []) 0 []) (aV (eQ (qPl 1 [])) aN))))))
  (ret (xE (eAnd (qE (eB (tCmp gGt (qPl 2 []) (qE (eK (.int 0)))))) (eB (tCmp gEq (qE (eBin gIx (qPl 0 [10]) (qE (eBin gSubI (qPl 2 []) (qE (eK (.int 1))))))) (qPl 1 [])))))))
inductive F_Index_has (ss : Env) (Q : OV → Env → Prop) (E : Int → Prop) : Prop where
  | mk (h : fDef 3 2 S_Index_has ss Q E) : F_Index_has ss Q E
theorem e_Index_has : F_Index_has = fDef 3 2 S_Index_has := funext fun _ => funext fun _ => funext fun _ => propext ⟨fun h => match h with | .mk h => h, .mk⟩
def S_Index_count : SX :=
  (sqF (ifS (uT (tCmp gGt (qPl 1 []) (qPl 2 [])))
  (ret (xE (eK (.int 0))))
  skip)
  (ret (xE (eBin gSubI (qE (eFrz (nCall 2 F_Index_rank (rcG 5 (rPl (.br 0 []) 0 []) (aV (eQ (qPl 2 [])) aN))))) (qE (eFrz (nCall 2 F_Index_rank (rcG 5 (rPl (.br 0 []) 0 []) (aV (eBin gSubI (qPl 1 []) (qE (eK (.int 1)))) aN)))))))))
inductive F_Index_count (ss : Env) (Q : OV → Env → Prop) (E : Int → Prop) : Prop where
  | mk (h : fDef 3 3 S_Index_count ss Q E) : F_Index_count ss Q E
theorem e_Index_count : F_Index_count = fDef 3 3 S_Index_count := funext fun _ => funext fun _ => funext fun _ => propext ⟨fun h => match h with | .mk h => h, .mk⟩
def S_Index_at_most : SX :=
  (drop (xN (nCall 1 F_wall (aV (eK (.int 2)) aN))))
inductive F_Index_at_most (ss : Env) (Q : OV → Env → Prop) (E : Int → Prop) : Prop where
  | mk (h : fDef 2 2 S_Index_at_most ss Q E) : F_Index_at_most ss Q E
theorem e_Index_at_most : F_Index_at_most = fDef 2 2 S_Index_at_most := funext fun _ => funext fun _ => funext fun _ => propext ⟨fun h => match h with | .mk h => h, .mk⟩
def S_Index_at_least : SX :=
  (drop (xN (nCall 1 F_wall (aV (eK (.int 3)) aN))))
inductive F_Index_at_least (ss : Env) (Q : OV → Env → Prop) (E : Int → Prop) : Prop where
  | mk (h : fDef 2 2 S_Index_at_least ss Q E) : F_Index_at_least ss Q E
theorem e_Index_at_least : F_Index_at_least = fDef 2 2 S_Index_at_least := funext fun _ => funext fun _ => funext fun _ => propext ⟨fun h => match h with | .mk h => h, .mk⟩
def S_Index_key_at : SX :=
  (drop (xN (nCall 1 F_wall (aV (eK (.int 4)) aN))))
inductive F_Index_key_at (ss : Env) (Q : OV → Env → Prop) (E : Int → Prop) : Prop where
  | mk (h : fDef 2 2 S_Index_key_at ss Q E) : F_Index_key_at ss Q E
theorem e_Index_key_at : F_Index_key_at = fDef 2 2 S_Index_key_at := funext fun _ => funext fun _ => funext fun _ => propext ⟨fun h => match h with | .mk h => h, .mk⟩
def S_Run_init__ : SX :=
  (sqF (setF 0 [] 12 (xE (eQ (qPl 1 []))))
  (setF 0 [] 13 (xE (eFrz (nMake 5 4 F_Index_init__ (aV (eFrz (nLc (lcX [3, 4] (lA (qPl 1 [])) (gTupX (gLen 2 (gsCons (gNm 3) (gsCons (gNm 4) gsNil)))) tYesX (eQ (qPl 3 []))))) (aV (eQ (qPl 2 [])) (aV (eK (.int 1)) aN))))))))
inductive F_Run_init__ (ss : Env) (Q : OV → Env → Prop) (E : Int → Prop) : Prop where
  | mk (h : fDef 5 3 S_Run_init__ ss Q E) : F_Run_init__ ss Q E
theorem e_Run_init__ : F_Run_init__ = fDef 5 3 S_Run_init__ := funext fun _ => funext fun _ => funext fun _ => propext ⟨fun h => match h with | .mk h => h, .mk⟩
def S_Run_entry : SX :=
  (sqF (set 2 (xE (eFrz (nCall 2 F_Index_rank (rcG 5 (rPl (.br 0 [13]) 0 [13]) (aV (eQ (qPl 1 [])) aN))))))
  (sqF (ifJ (uT (tAnd (tCmp gGt (qPl 2 []) (qE (eK (.int 0)))) (tCmp gEq (qE (eBin gIx (qE (eBin gIx (qPl 0 [12]) (qE (eBin gSubI (qPl 2 []) (qE (eK (.int 1))))))) (qE (eK (.int 0))))) (qPl 1 []))))
  (ret (xE (eBin gIx (qPl 0 [12]) (qE (eBin gSubI (qPl 2 []) (qE (eK (.int 1))))))))
  skip)
  (ret (xE (eK .non)))))
inductive F_Run_entry (ss : Env) (Q : OV → Env → Prop) (E : Int → Prop) : Prop where
  | mk (h : fDef 3 2 S_Run_entry ss Q E) : F_Run_entry ss Q E
theorem e_Run_entry : F_Run_entry = fDef 3 2 S_Run_entry := funext fun _ => funext fun _ => funext fun _ => propext ⟨fun h => match h with | .mk h => h, .mk⟩
def S_merged : SX :=
  (sqF (set 2 (xN (nLst aN)))
  (sqF (set 3 (xE (eK (.int 0))))
  (sqF (forS (lW (eQ (qPl 0 []))) (gNm 4)
  (sqF (whileS (tAnd (tCmp gLt (qPl 3 []) (qE (e1 gLenV (qPl 1 [])))) (tCmp gLt (qE (eBin gIx (qE (eBin gIx (qPl 1 []) (qPl 3 []))) (qE (eK (.int 0))))) (qE (eBin gIx (qPl 4 []) (qE (eK (.int 0)))))))
  (sqF (drop (xApp 2 [] (eBin gIx (qPl 1 []) (qPl 3 []))))
  (aug 3 gAddS (qE (eK (.int 1))))))
  (sqF (ifJ (uT (tAnd (tCmp gLt (qPl 3 []) (qE (e1 gLenV (qPl 1 [])))) (tCmp gEq (qE (eBin gIx (qE (eBin gIx (qPl 1 []) (qPl 3 []))) (qE (eK (.int 0))))) (qE (eBin gIx (qPl 4 []) (qE (eK (.int 0))))))))
  (aug 3 gAddS (qE (eK (.int 1))))
  skip)
  (drop (xApp 2 [] (eQ (qPl 4 [])))))))
  (ret (xE (eBin gAdd (qPl 2 []) (qE (eSl (qPl 1 []) (oS (qPl 3 [])) oN))))))))
inductive F_merged (ss : Env) (Q : OV → Env → Prop) (E : Int → Prop) : Prop where
  | mk (h : fDef 5 2 S_merged ss Q E) : F_merged ss Q E
theorem e_merged : F_merged = fDef 5 2 S_merged := funext fun _ => funext fun _ => funext fun _ => propext ⟨fun h => match h with | .mk h => h, .mk⟩
def S_Store_init__ : SX :=
  (sqF (setF 0 [] 14 (xE (eK (.int 0))))
  (sqF (setF 0 [] 15 (xE (eK (.int 0))))
  (sqF (setF 0 [] 16 (xE (eQ (qPl 1 []))))
  (sqF (setF 0 [] 0 (xE (eQ (qPl 2 []))))
  (sqF (setF 0 [] 17 (xE (eLst aN)))
  (setF 0 [] 18 (xN (nLst aN))))))))
inductive F_Store_init__ (ss : Env) (Q : OV → Env → Prop) (E : Int → Prop) : Prop where
  | mk (h : fDef 3 3 S_Store_init__ ss Q E) : F_Store_init__ ss Q E
theorem e_Store_init__ : F_Store_init__ = fDef 3 3 S_Store_init__ := funext fun _ => funext fun _ => funext fun _ => propext ⟨fun h => match h with | .mk h => h, .mk⟩
def S_Store_flush : SX :=
  (sqF (set 1 (xE (eQ (qPl 0 [17]))))
  (sqF (setF 0 [] 17 (xE (eLst aN)))
  (sqF (augF 0 [] 14 gAddS (qE (e1 gLenV (qPl 1 []))))
  (sqF (set 2 (xE (eK (.int 0))))
  (sqF (whileS (tAnd (tCmp gLt (qPl 2 []) (qE (e1 gLenV (qPl 0 [18])))) (tCmp (gIsP true) (qE (eBin gIx (qPl 0 [18]) (qPl 2 []))) (qE (eK .non))))
  (sqF (set 3 (xE (eFld 12 (eBin gIx (qPl 0 [18]) (qPl 2 [])))))
  (sqF (augF 0 [] 14 gAddS (qE (e1 gLenV (qPl 3 []))))
  (sqF (set 1 (xE (eFrz (nCall 2 F_merged (aV (eQ (qPl 1 [])) (aV (eQ (qPl 3 [])) aN))))))
  (sqF (setI 0 [18] (qPl 2 []) (xE (eK .non)))
  (aug 2 gAddS (qE (eK (.int 1)))))))))
  (sqF (ifJ (uT (tNot (tTru (qE (e1 gAny (qE (eFrz (nLc (lcX [4] (lA (qE (eSl (qPl 0 [18]) (oS (qPl 2 [])) oN))) (gNm 4) tYesX (eB (tCmp (gIsP true) (qPl 4 []) (qE (eK .non)))))))))))))
  (set 1 (xE (eFrz (nLc (lcX [5] (lA (qPl 1 [])) (gNm 5) (tCmp (gIsP true) (qE (eBin gIx (qPl 5 []) (qE (eK (.int 1))))) (qE (eK .non))) (eQ (qPl 5 [])))))))
  skip)
  (sqF (ifJ (uT (tCmp gEq (qPl 2 []) (qE (e1 gLenV (qPl 0 [18])))))
  (drop (xApp 0 [18] (eK .non)))
  skip)
  (ifJ (uT (tTru (qPl 1 [])))
  (setI 0 [18] (qPl 2 []) (xE (eFrz (nMake 6 3 F_Run_init__ (aV (eQ (qPl 1 [])) (aV (eQ (qPl 0 [0])) aN))))))
  skip))))))))
inductive F_Store_flush (ss : Env) (Q : OV → Env → Prop) (E : Int → Prop) : Prop where
  | mk (h : fDef 6 1 S_Store_flush ss Q E) : F_Store_flush ss Q E
theorem e_Store_flush : F_Store_flush = fDef 6 1 S_Store_flush := funext fun _ => funext fun _ => funext fun _ => propext ⟨fun h => match h with | .mk h => h, .mk⟩
def S_Store_write : SX :=
  (sqF (augF 0 [] 15 gAddS (qE (eK (.int 1))))
  (sqF (setF 0 [] 17 (xE (eFrz (nCall 2 F_merged (aV (eLst (aV (eQ (qPl 1 [])) aN)) (aV (eQ (qPl 0 [17])) aN))))))
  (ifJ (uT (tCmp gGe (qE (e1 gLenV (qPl 0 [17]))) (qPl 0 [16])))
  (drop (xCall 1 F_Store_flush (rcG 7 (rPl (.mu 0 []) 0 []) aN)))
  skip)))
inductive F_Store_write (ss : Env) (Q : OV → Env → Prop) (E : Int → Prop) : Prop where
  | mk (h : fDef 2 2 S_Store_write ss Q E) : F_Store_write ss Q E
theorem e_Store_write : F_Store_write = fDef 2 2 S_Store_write := funext fun _ => funext fun _ => funext fun _ => propext ⟨fun h => match h with | .mk h => h, .mk⟩
def S_Store_put : SX :=
  (drop (xCall 2 F_Store_write (rcG 7 (rPl (.mu 0 []) 0 []) (aV (eTup (aV (eQ (qPl 1 [])) (aV (eQ (qPl 2 [])) aN))) aN))))
inductive F_Store_put (ss : Env) (Q : OV → Env → Prop) (E : Int → Prop) : Prop where
  | mk (h : fDef 3 3 S_Store_put ss Q E) : F_Store_put ss Q E
theorem e_Store_put : F_Store_put = fDef 3 3 S_Store_put := funext fun _ => funext fun _ => funext fun _ => propext ⟨fun h => match h with | .mk h => h, .mk⟩
def S_Store_remove : SX :=
  (drop (xCall 2 F_Store_write (rcG 7 (rPl (.mu 0 []) 0 []) (aV (eTup (aV (eQ (qPl 1 [])) (aV (eK .non) aN))) aN))))
inductive F_Store_remove (ss : Env) (Q : OV → Env → Prop) (E : Int → Prop) : Prop where
  | mk (h : fDef 2 2 S_Store_remove ss Q E) : F_Store_remove ss Q E
theorem e_Store_remove : F_Store_remove = fDef 2 2 S_Store_remove := funext fun _ => funext fun _ => funext fun _ => propext ⟨fun h => match h with | .mk h => h, .mk⟩
def S_Store_get : SX :=
  (sqF (forS (lW (eQ (qPl 0 [17]))) (gNm 2)
  (ifS (uT (tCmp gEq (qE (eBin gIx (qPl 2 []) (qE (eK (.int 0))))) (qPl 1 [])))
  (ret (xE (eBin gIx (qPl 2 []) (qE (eK (.int 1))))))
  skip))
  (sqF (forB 0 [18] (gNm 3)
  (ifJ (uT (tCmp (gIsP true) (qPl 3 []) (qE (eK .non))))
  (sqF (set 4 (xE (eFrz (nCall 2 F_Run_entry (rcG 6 (rPl (.br 3 []) 3 []) (aV (eQ (qPl 1 [])) aN))))))
  (ifS (uT (tCmp (gIsP true) (qPl 4 []) (qE (eK .non))))
  (ret (xE (eBin gIx (qPl 4 []) (qE (eK (.int 1))))))
  skip))
  skip))
  (ret (xE (eK .non)))))
inductive F_Store_get (ss : Env) (Q : OV → Env → Prop) (E : Int → Prop) : Prop where
  | mk (h : fDef 5 2 S_Store_get ss Q E) : F_Store_get ss Q E
theorem e_Store_get : F_Store_get = fDef 5 2 S_Store_get := funext fun _ => funext fun _ => funext fun _ => propext ⟨fun h => match h with | .mk h => h, .mk⟩
def S_Store_contents : SX :=
  (sqF (set 1 (xE (eQ (qPl 0 [17]))))
  (sqF (forB 0 [18] (gNm 2)
  (ifJ (uT (tCmp (gIsP true) (qPl 2 []) (qE (eK .non))))
  (set 1 (xE (eFrz (nCall 2 F_merged (aV (eQ (qPl 1 [])) (aV (eQ (qPl 2 [12])) aN))))))
  skip))
  (ret (xN (nLc (lcX [3] (lA (qPl 1 [])) (gNm 3) (tCmp (gIsP true) (qE (eBin gIx (qPl 3 []) (qE (eK (.int 1))))) (qE (eK .non))) (eQ (qPl 3 []))))))))
inductive F_Store_contents (ss : Env) (Q : OV → Env → Prop) (E : Int → Prop) : Prop where
  | mk (h : fDef 4 1 S_Store_contents ss Q E) : F_Store_contents ss Q E
theorem e_Store_contents : F_Store_contents = fDef 4 1 S_Store_contents := funext fun _ => funext fun _ => funext fun _ => propext ⟨fun h => match h with | .mk h => h, .mk⟩
def S_Store_between : SX :=
  (ret (xN (nLc (lcX [3] (lA (qE (eFrz (nCall 1 F_Store_contents (rcG 7 (rPl (.br 0 []) 0 []) aN))))) (gNm 3) (tChain (qPl 1 []) (chK gLe (qE (eBin gIx (qPl 3 []) (qE (eK (.int 0))))) (chL gLe (qPl 2 [])))) (eQ (qPl 3 []))))))
inductive F_Store_between (ss : Env) (Q : OV → Env → Prop) (E : Int → Prop) : Prop where
  | mk (h : fDef 4 3 S_Store_between ss Q E) : F_Store_between ss Q E
theorem e_Store_between : F_Store_between = fDef 4 3 S_Store_between := funext fun _ => funext fun _ => funext fun _ => propext ⟨fun h => match h with | .mk h => h, .mk⟩
def S_Store_run_sizes : SX :=
  (sqF (set 1 (xN (nLc (lcX [2] (lA (qPl 0 [18])) (gNm 2) tYesX (eIf (tCmp (gIsP false) (qPl 2 []) (qE (eK .non))) (eK (.int 0)) (e1 gLenV (qPl 2 [12])))))))
  (sqF (whileS (tAnd (tTru (qPl 1 [])) (tCmp gEq (qE (eBin gIx (qPl 1 []) (qE (eNeg (qE (eK (.int 1))))))) (qE (eK (.int 0)))))
  (drop (xPop 1 [])))
  (ret (xMv 1))))
inductive F_Store_run_sizes (ss : Env) (Q : OV → Env → Prop) (E : Int → Prop) : Prop where
  | mk (h : fDef 3 1 S_Store_run_sizes ss Q E) : F_Store_run_sizes ss Q E
theorem e_Store_run_sizes : F_Store_run_sizes = fDef 3 1 S_Store_run_sizes := funext fun _ => funext fun _ => funext fun _ => propext ⟨fun h => match h with | .mk h => h, .mk⟩
def S_Store_buffered : SX :=
  (drop (xN (nCall 1 F_wall (aV (eK (.int 5)) aN))))
inductive F_Store_buffered (ss : Env) (Q : OV → Env → Prop) (E : Int → Prop) : Prop where
  | mk (h : fDef 1 1 S_Store_buffered ss Q E) : F_Store_buffered ss Q E
theorem e_Store_buffered : F_Store_buffered = fDef 1 1 S_Store_buffered := funext fun _ => funext fun _ => funext fun _ => propext ⟨fun h => match h with | .mk h => h, .mk⟩
def S_Store_buffer_entries : SX :=
  (drop (xN (nCall 1 F_wall (aV (eK (.int 6)) aN))))
inductive F_Store_buffer_entries (ss : Env) (Q : OV → Env → Prop) (E : Int → Prop) : Prop where
  | mk (h : fDef 1 1 S_Store_buffer_entries ss Q E) : F_Store_buffer_entries ss Q E
theorem e_Store_buffer_entries : F_Store_buffer_entries = fDef 1 1 S_Store_buffer_entries := funext fun _ => funext fun _ => funext fun _ => propext ⟨fun h => match h with | .mk h => h, .mk⟩
def S_Store_run_entries : SX :=
  (drop (xN (nCall 1 F_wall (aV (eK (.int 7)) aN))))
inductive F_Store_run_entries (ss : Env) (Q : OV → Env → Prop) (E : Int → Prop) : Prop where
  | mk (h : fDef 1 1 S_Store_run_entries ss Q E) : F_Store_run_entries ss Q E
theorem e_Store_run_entries : F_Store_run_entries = fDef 1 1 S_Store_run_entries := funext fun _ => funext fun _ => funext fun _ => propext ⟨fun h => match h with | .mk h => h, .mk⟩
def S_Store_runs : SX :=
  (ret (xN (nLc (lcX [1] (lA (qPl 0 [18])) (gNm 1) (tCmp (gIsP true) (qPl 1 []) (qE (eK .non))) (eQ (qPl 1 []))))))
inductive F_Store_runs (ss : Env) (Q : OV → Env → Prop) (E : Int → Prop) : Prop where
  | mk (h : fDef 2 1 S_Store_runs ss Q E) : F_Store_runs ss Q E
theorem e_Store_runs : F_Store_runs = fDef 2 1 S_Store_runs := funext fun _ => funext fun _ => funext fun _ => propext ⟨fun h => match h with | .mk h => h, .mk⟩
def S_Store_levels : SX :=
  (ret (xN (nE (e1 gLenV (qPl 0 [18])))))
inductive F_Store_levels (ss : Env) (Q : OV → Env → Prop) (E : Int → Prop) : Prop where
  | mk (h : fDef 1 1 S_Store_levels ss Q E) : F_Store_levels ss Q E
theorem e_Store_levels : F_Store_levels = fDef 1 1 S_Store_levels := funext fun _ => funext fun _ => funext fun _ => propext ⟨fun h => match h with | .mk h => h, .mk⟩
def S_Store_take_buffer : SX :=
  (drop (xN (nCall 1 F_wall (aV (eK (.int 8)) aN))))
inductive F_Store_take_buffer (ss : Env) (Q : OV → Env → Prop) (E : Int → Prop) : Prop where
  | mk (h : fDef 2 2 S_Store_take_buffer ss Q E) : F_Store_take_buffer ss Q E
theorem e_Store_take_buffer : F_Store_take_buffer = fDef 2 2 S_Store_take_buffer := funext fun _ => funext fun _ => funext fun _ => propext ⟨fun h => match h with | .mk h => h, .mk⟩
def S_Store_take_run : SX :=
  (drop (xN (nCall 1 F_wall (aV (eK (.int 9)) aN))))
inductive F_Store_take_run (ss : Env) (Q : OV → Env → Prop) (E : Int → Prop) : Prop where
  | mk (h : fDef 3 3 S_Store_take_run ss Q E) : F_Store_take_run ss Q E
theorem e_Store_take_run : F_Store_take_run = fDef 3 3 S_Store_take_run := funext fun _ => funext fun _ => funext fun _ => propext ⟨fun h => match h with | .mk h => h, .mk⟩
def S_law_cell : SX :=
  (sqF (ifS (uT (tCmp gLt (qPl 1 []) (qE (e1 gLenV (qPl 0 [])))))
  (ret (xE (eBin gIx (qPl 0 []) (qPl 1 []))))
  skip)
  (ret (xE (eK (.int 0)))))
inductive F_law_cell (ss : Env) (Q : OV → Env → Prop) (E : Int → Prop) : Prop where
  | mk (h : fDef 2 2 S_law_cell ss Q E) : F_law_cell ss Q E
theorem e_law_cell : F_law_cell = fDef 2 2 S_law_cell := funext fun _ => funext fun _ => funext fun _ => propext ⟨fun h => match h with | .mk h => h, .mk⟩
def S_law_digits : SX :=
  (sqF (set 3 (xN (nLst aN)))
  (sqF (set 4 (xE (eQ (qPl 0 []))))
  (sqF (forS (lR1 (qPl 2 [])) (gNm 5)
  (ifJ (uT (tCmp gGe (qPl 0 []) (qE (eK (.int 1000000000000000000)))))
  (sqF (drop (xApp 3 [] (eBin gModI (qE (e1 gInt (qPl 4 []))) (qPl 1 []))))
  (set 4 (xE (eBin gDivI (qPl 4 []) (qPl 1 [])))))
  (sqF (set 6 (xE (eBin gModI (qE (e1 gInt (qE (eBin gAdd (qE (eBin gAdd (qE (eBin gMulI (qPl 0 []) (qE (eK (.int 48271))))) (qE (eBin gMulI (qPl 5 []) (qE (eK (.int 69621))))))) (qE (eK (.int 1013))))))) (qE (eK (.int 2147483647))))))
  (sqF (set 6 (xE (eBin gModI (qE (e1 gInt (qE (eBin gAdd (qE (eBin gAdd (qE (eBin gMulI (qPl 6 []) (qPl 6 []))) (qE (eBin gMulI (qE (eK (.int 7))) (qPl 6 []))))) (qPl 5 []))))) (qE (eK (.int 2147483629))))))
  (drop (xApp 3 [] (eBin gModI (qE (e1 gInt (qE (eBin gDivI (qPl 6 []) (qE (eK (.int 31))))))) (qPl 1 []))))))))
  (ret (xMv 3)))))
inductive F_law_digits (ss : Env) (Q : OV → Env → Prop) (E : Int → Prop) : Prop where
  | mk (h : fDef 7 3 S_law_digits ss Q E) : F_law_digits ss Q E
theorem e_law_digits : F_law_digits = fDef 7 3 S_law_digits := funext fun _ => funext fun _ => funext fun _ => propext ⟨fun h => match h with | .mk h => h, .mk⟩
def S_law_edits : SX :=
  (sqF (set 3 (xE (eFrz (nCall 2 F_law_cell (arPl (.br 0 []) 0 [] (aV (eQ (qPl 1 [])) aN))))))
  (sqF (set 4 (xE (eBin gModI (qE (e1 gInt (qPl 3 []))) (qE (eBin gAdd (qPl 2 []) (qE (eK (.int 1))))))))
  (sqF (set 5 (xE (eBin gIx (qE (eLst (aV (eK (.int 3)) (aV (eK (.int 8)) (aV (eK (.int 30)) (aV (eK (.int 1000000)) aN)))))) (qE (eBin gModI (qE (e1 gInt (qE (eBin gDivI (qPl 3 []) (qE (eBin gAdd (qPl 2 []) (qE (eK (.int 1))))))))) (qE (eK (.int 4))))))))
  (sqF (set 6 (xE (eFrz (nCall 3 F_law_digits (aV (eFrz (nCall 2 F_law_cell (arPl (.br 0 []) 0 [] (aV (eBin gAdd (qPl 1 []) (qE (eK (.int 1)))) aN)))) (aV (eK (.int 10000000)) (aV (eQ (qPl 4 [])) aN)))))))
  (sqF (set 7 (xN (nLst aN)))
  (sqF (forS (lR1 (qPl 4 [])) (gNm 8)
  (sqF (set 9 (xE (eBin gSubI (qE (eBin gModI (qE (e1 gInt (qE (eBin gIx (qPl 6 []) (qPl 8 []))))) (qPl 5 []))) (qE (eBin gIx (qE (eLst (aV (eK (.int 1)) (aV (eK (.int 3)) (aV (eK (.int 9)) (aV (eK (.int 500000)) aN)))))) (qE (eBin gModI (qE (e1 gInt (qE (eBin gDivI (qPl 3 []) (qE (eBin gAdd (qPl 2 []) (qE (eK (.int 1))))))))) (qE (eK (.int 4))))))))))
  (sqF (set 10 (xE (eBin gSubI (qE (eBin gModI (qE (e1 gInt (qE (eBin gDivI (qE (eBin gIx (qPl 6 []) (qPl 8 []))) (qE (eK (.int 7))))))) (qE (eK (.int 19))))) (qE (eK (.int 9))))))
  (ifJ (uT (tCmp gEq (qE (eBin gModI (qE (e1 gInt (qE (eBin gDivI (qE (eBin gIx (qPl 6 []) (qPl 8 []))) (qE (eK (.int 1000))))))) (qE (eK (.int 4))))) (qE (eK (.int 0)))))
  (drop (xApp 7 [] (eTup (aV (eQ (qPl 9 [])) (aV (eK .non) aN)))))
  (drop (xApp 7 [] (eTup (aV (eQ (qPl 9 [])) (aV (eQ (qPl 10 [])) aN)))))))))
  (ret (xMv 7))))))))
inductive F_law_edits (ss : Env) (Q : OV → Env → Prop) (E : Int → Prop) : Prop where
  | mk (h : fDef 11 3 S_law_edits ss Q E) : F_law_edits ss Q E
theorem e_law_edits : F_law_edits = fDef 11 3 S_law_edits := funext fun _ => funext fun _ => funext fun _ => propext ⟨fun h => match h with | .mk h => h, .mk⟩
def S_law_done : SX :=
  (sqF (set 1 (xN nDict))
  (sqF (forS (lW (eQ (qPl 0 []))) (gTupX (gLen 2 (gsCons (gNm 2) (gsCons (gNm 3) gsNil))))
  (setD 1 [] (qPl 2 []) (xE (eQ (qPl 3 [])))))
  (ret (xN (nLc (lcX [2] (lA (qE (e1 gSortI (qE (e1 gListD (qPl 1 [])))))) (gNm 2) (tCmp (gIsP true) (qE (eBin gDx (qPl 1 []) (qPl 2 []))) (qE (eK .non))) (eTup (aV (eQ (qPl 2 [])) (aV (eBin gDx (qPl 1 []) (qPl 2 [])) aN)))))))))
inductive F_law_done (ss : Env) (Q : OV → Env → Prop) (E : Int → Prop) : Prop where
  | mk (h : fDef 4 1 S_law_done ss Q E) : F_law_done ss Q E
theorem e_law_done : F_law_done = fDef 4 1 S_law_done := funext fun _ => funext fun _ => funext fun _ => propext ⟨fun h => match h with | .mk h => h, .mk⟩
def S_law_edit : SX :=
  (sqF (ifS (uT (tCmp (gIsP false) (qE (eBin gIx (qPl 1 []) (qE (eK (.int 1))))) (qE (eK .non))))
  (ret (xCall 2 F_Store_remove (rcG 7 (rPl (.mu 0 []) 0 []) (aV (eBin gIx (qPl 1 []) (qE (eK (.int 0)))) aN))))
  skip)
  (ret (xCall 3 F_Store_put (rcG 7 (rPl (.mu 0 []) 0 []) (aV (eBin gIx (qPl 1 []) (qE (eK (.int 0)))) (aV (eBin gIx (qPl 1 []) (qE (eK (.int 1)))) aN))))))
inductive F_law_edit (ss : Env) (Q : OV → Env → Prop) (E : Int → Prop) : Prop where
  | mk (h : fDef 2 2 S_law_edit ss Q E) : F_law_edit ss Q E
theorem e_law_edit : F_law_edit = fDef 2 2 S_law_edit := funext fun _ => funext fun _ => funext fun _ => propext ⟨fun h => match h with | .mk h => h, .mk⟩
def S_law_digits_of : SX :=
  (sqF (set 1 (xE (eK (.int 0))))
  (sqF (set 2 (xE (eQ (qPl 0 []))))
  (sqF (forS (lR1 (qE (eK (.int 60)))) (gNm 3)
  (ifJ (uT (tCmp gGt (qPl 2 []) (qE (eK (.int 0)))))
  (sqF (set 1 (xE (eBin gAdd (qPl 1 []) (qE (eK (.int 1))))))
  (set 2 (xE (eBin gDivI (qPl 2 []) (qE (eK (.int 2)))))))
  skip))
  (ret (xE (eQ (qPl 1 [])))))))
inductive F_law_digits_of (ss : Env) (Q : OV → Env → Prop) (E : Int → Prop) : Prop where
  | mk (h : fDef 4 1 S_law_digits_of ss Q E) : F_law_digits_of ss Q E
theorem e_law_digits_of : F_law_digits_of = fDef 4 1 S_law_digits_of := funext fun _ => funext fun _ => funext fun _ => propext ⟨fun h => match h with | .mk h => h, .mk⟩
def S_law : SX :=
  (sqF (set 1 (xE (eBin gAdd (qE (eK (.int 1))) (qE (eBin gModI (qE (e1 gInt (qE (eFrz (nCall 2 F_law_cell (arPl (.br 0 []) 0 [] (aV (eK (.int 0)) aN))))))) (qE (eK (.int 5))))))))
  (sqF (set 2 (xN (nMake 7 3 F_Store_init__ (aV (eQ (qPl 1 [])) (aV (eBin gModI (qE (e1 gInt (qE (eBin gDivI (qE (eFrz (nCall 2 F_law_cell (arPl (.br 0 []) 0 [] (aV (eK (.int 0)) aN))))) (qE (eK (.int 5))))))) (qE (eK (.int 4)))) aN)))))
  (sqF (set 3 (xE (eFrz (nCall 3 F_law_edits (arPl (.br 0 []) 0 [] (aV (eK (.int 1)) (aV (eK (.int 63)) aN)))))))
  (sqF (ifJ (uT (tCmp gEq (qE (eBin gModI (qE (e1 gInt (qE (eFrz (nCall 2 F_law_cell (arPl (.br 0 []) 0 [] (aV (eK (.int 3)) aN))))))) (qE (eK (.int 2))))) (qE (eK (.int 1)))))
  (sqF (set 4 (xE (eBin gAdd (qE (eK (.int 64))) (qE (eBin gModI (qE (e1 gInt (qE (eBin gDivI (qE (eFrz (nCall 2 F_law_cell (arPl (.br 0 []) 0 [] (aV (eK (.int 3)) aN))))) (qE (eK (.int 2))))))) (qE (eK (.int 237))))))))
  (set 3 (xE (eBin gAdd (qPl 3 []) (qE (eFrz (nLc (lcX [10] (lR1 (qPl 4 [])) (gNm 10) tYesX (eTup (aV (eBin gAdd (qE (eK (.int 10000000))) (qPl 10 [])) (aV (eBin gModI (qE (e1 gInt (qPl 10 []))) (qE (eK (.int 3)))) aN)))))))))))
  skip)
  (sqF (forS (lR2 (qE (eK (.int 1))) (qE (eBin gAdd (qE (e1 gLenV (qPl 3 []))) (qE (eK (.int 1)))))) (gNm 5)
  (sqF (drop (xCall 2 F_law_edit (arPl (.mu 2 []) 2 [] (aV (eBin gIx (qPl 3 []) (qE (eBin gSubI (qPl 5 []) (qE (eK (.int 1)))))) aN))))
  (sqF (set 6 (xE (eFrz (nCall 1 F_Store_run_sizes (rcG 7 (rPl (.br 2 []) 2 []) aN)))))
  (sqF (set 7 (xE (eFrz (nCall 1 F_law_digits_of (aV (eQ (qPl 5 [])) aN)))))
  (sqF (ifS (uT (tOr (tCmp gGt (qPl 2 [14]) (qE (eBin gMulI (qPl 5 []) (qPl 7 [])))) (tCmp gGt (qE (e1 gLenV (qE (eFrz (nLc (lcX [9] (lA (qPl 6 [])) (gNm 9) (tCmp gGt (qPl 9 []) (qE (eK (.int 0)))) (eQ (qPl 9 [])))))))) (qPl 7 []))))
  (ret (xE (eK (.bl false))))
  skip)
  (sqF (set 8 (xE (eQ (qPl 1 []))))
  (forS (lW (eQ (qPl 6 []))) (gNm 9)
  (sqF (ifS (uT (tCmp gGt (qPl 9 []) (qPl 8 [])))
  (ret (xE (eK (.bl false))))
  skip)
  (set 8 (xE (eBin gMulI (qPl 8 []) (qE (eK (.int 2))))))))))))))
  (ret (xE (eB (tCmp gEq (qE (eFrz (nCall 1 F_Store_contents (rcG 7 (rPl (.br 2 []) 2 []) aN)))) (qE (eFrz (nCall 1 F_law_done (aV (eQ (qPl 3 [])) aN)))))))))))))
inductive F_law (ss : Env) (Q : OV → Env → Prop) (E : Int → Prop) : Prop where
  | mk (h : fDef 11 1 S_law ss Q E) : F_law ss Q E
theorem e_law : F_law = fDef 11 1 S_law := funext fun _ => funext fun _ => funext fun _ => propext ⟨fun h => match h with | .mk h => h, .mk⟩
end C
namespace C
open PySem PySem.Spec PyProof.Rows L2
local macro_rules | `(tactic| walk_at "ev") => `(tactic| (conv => whnf))
local macro_rules | `(tactic| walk_at "side") => `(tactic| (first | assumption | exact trivial | exact line1000 rfl | (show (0 : Int) < _; first | omega | decide) | exact rfl | exact smallof (by omega) (by omega) | exact ⟨smallof (by omega) (by omega), smallof (by omega) (by omega)⟩ | exact Or.inl (by omega) | exact Or.inr (Or.inl (by omega)) | exact cdiv_of (by omega) (by omega) | omega | exact lt_line (by omega) | exact le_line (by omega) | exact ⟨by decide, by decide, by decide⟩ | decide | fail))
local macro_rules | `(tactic| walk_at "go") => `(tactic| ((repeat' ((conv => whnf); first | refine And.intro (by walk_at "side") ?_ | walk_at "call" | walk_at "test" | fail)); try (conv => whnf)))
local macro_rules | `(tactic| walk_at "call") => `(tactic| (first | refine setE_go (by assumption) ?_ | fail))
local macro_rules | `(tactic| walk_at "test") => `(tactic| (first | refine mdec_yes (by omega) ?_ | refine mdec_no (by omega) ?_ | refine mdec_no (fun h => h rfl) ?_ | refine mndec_yes (by omega) ?_ | refine mndec_no (by omega) ?_ | fail))
local macro_rules | `(tactic| walk_at "call") => `(tactic| (first | refine gl0 ?_ | refine gl1 ?_ | refine gl2 ?_ | refine gl3 ?_ | refine at_go (by omega) (by omega) ?_ | refine at_goN (by omega) (by omega) ?_ | fail))
local macro_rules | `(tactic| walk_at "call") => `(tactic| (first | refine ints_go ?_ | refine bools_go ?_ | fail))
local macro_rules | `(tactic| walk_at "call") => `(tactic| (first | refine eqD_go (pl_ints _) (pl_ints _) ?_ | fail))
theorem w_cell (ns : List Int) (k : Int) (hk : 0 ≤ k) (Q : OV → Env → Prop) (E : Int → Prop) (h : ∀ e, Q (.fro (.int (cell ns k))) e) : F_law_cell [.bo (.scr (scrOf ns)), .ow (.fro (.int k))] Q E := by
  refine F_law_cell.mk ?_
  walk_at "ev"
  have hl : (scrOf ns).length = ns.length := by simp [scrOf]
  refine mdec (fun hc => ?_) fun hc => ?_
  · walk_at "ev"
    rw [hl] at hc
    refine .mk _ (atI_scr hk hc) ?_
    walk_at "ev"
    exact h _
  · walk_at "ev"
    rw [hl] at hc
    have e : cell ns k = 0 := by
      unfold cell
      rw [List.getD_eq_getElem?_getD, List.getElem?_eq_none (by omega)]; rfl
    rw [← e]
    exact h _
local macro_rules | `(tactic| walk_at "call") => `(tactic| (first | refine w_cell _ _ (by omega) _ _ (fun _ => ?_) | fail))
local macro_rules | `(tactic| walk_at "call") => `(tactic| (first | refine w_cell _ _ (by omega) _ _ (fun _ => ?_) | fail))

/-! ### pairs of numbers -/
def prM (p : Int × Int) : MV := .tup [.int p.1, .int p.2]
def pa (ps : List (Int × Int)) (i : Nat) : Int × Int := ps.getD i (0, 0)
theorem atPr {xs : List (Int × Int)} {i : Int} {Q : MV → Prop} (h0 : 0 ≤ i) (h1 : i < xs.length) (q : Q (prM (pa xs i.toNat))) : gAt (xs.map prM) i Q := atT prM (0, 0) h0 h1 q
theorem atPrN {xs : List (Int × Int)} {i : Int} {Q : MV → Prop} (h0 : i < 0) (h1 : 0 ≤ i + xs.length) (q : Q (prM (pa xs (i + xs.length).toNat))) : gAt (xs.map prM) i Q := atTN prM (0, 0) h0 h1 q
theorem enPr {xs : List (Int × Int)} {i : Nat} {m : MV} (h : (enM (xs.map prM))[i]? = some m) : i < xs.length ∧ m = .tup [.int i, prM (pa xs i)] := enT (0, 0) h
theorem getPr {xs : List (Int × Int)} {i : Nat} {m : MV} (h : (xs.map prM)[i]? = some m) : i < xs.length ∧ m = prM (pa xs i) := getT (0, 0) h
local macro_rules | `(tactic| walk_at "call") => `(tactic| (first | refine at_go (by omega) (by omega) ?_ | refine at_goN (by omega) (by omega) ?_ | refine atPr (by omega) (by omega) ?_ | refine atPrN (by omega) (by omega) ?_ | fail))
local macro_rules | `(tactic| walk_at "call") => `(tactic| (first | refine alls_go ?_ | fail))
theorem st_cell (ps : List (Int × Int)) {k : Int} (h0 : 0 ≤ k) : cell (ps.map Prod.fst) k = (pa ps k.toNat).1 := by
  unfold cell pa
  rw [List.getD_eq_getElem?_getD, List.getD_eq_getElem?_getD, List.getElem?_map]
  cases ps[k.toNat]? <;> rfl
theorem sl_len {α : Type} (xs : List α) (a b : Nat) : (sl xs a b).length ≤ xs.length := by
  unfold sl
  rw [List.length_take, List.length_drop]; omega
theorem cut_from (xs : List MV) {a : Int} (h0 : 0 ≤ a) : cutM xs (some a) none = xs.drop a.toNat := by
  obtain ⟨k, rfl⟩ := Int.eq_ofNat_of_zero_le h0
  unfold cutM
  rw [HT.sIx_nat, show HT.sIx xs.length xs.length none = xs.length from rfl, Int.toNat_natCast]
  by_cases h : k ≤ xs.length
  · rw [Nat.min_eq_left h, List.take_of_length_le (by rw [List.length_drop]; omega)]
  · rw [Nat.min_eq_right (by omega), List.drop_eq_nil_of_le (show xs.length ≤ xs.length by omega), List.drop_eq_nil_of_le (by omega)]
    simp
theorem cut_to (xs : List MV) {a : Int} (h0 : 0 ≤ a) : cutM xs none (some a) = xs.take a.toNat := by
  obtain ⟨k, rfl⟩ := Int.eq_ofNat_of_zero_le h0
  unfold cutM
  rw [HT.sIx_nat, show HT.sIx xs.length 0 none = 0 from rfl, Int.toNat_natCast, List.drop_zero, Nat.sub_zero]
  by_cases h : k ≤ xs.length
  · rw [Nat.min_eq_left h]
  · rw [Nat.min_eq_right (by omega), List.take_of_length_le (Nat.le_refl _), List.take_of_length_le (by omega)]
theorem rgM_at0 {n i : Nat} {m : MV} (h : (rgM 0 n)[i]? = some m) : i < n ∧ m = .int i := by
  obtain ⟨a, b⟩ := rgM_at h
  exact ⟨a, by rw [b, Int.zero_add]⟩
theorem prM_list : ∀ P : List MV, (∀ m ∈ P, ∃ p, m = prM p) → ∃ ps : List (Int × Int), P = ps.map prM
  | [], _ => ⟨[], rfl⟩
  | m :: P, h => by
    obtain ⟨p, rfl⟩ := h m List.mem_cons_self
    obtain ⟨ps, rfl⟩ := prM_list P fun x hx => h x (List.mem_cons_of_mem _ hx)
    exact ⟨p :: ps, rfl⟩
theorem pa_get {ps : List (Int × Int)} {k : Nat} (h : k < ps.length) : ps[k]? = some (pa ps k) := by
  unfold pa
  rw [List.getD_eq_getElem?_getD, List.getElem?_eq_getElem h]; rfl
theorem pl_prs {k : Nat} (xs : List (Int × Int)) : Pl (k + 2) (.lst (xs.map prM)) := by
  unfold Pl
  intro m hm
  obtain ⟨i, _, rfl⟩ := List.mem_map.mp hm
  unfold prM Pl
  intro m hm
  simp only [List.mem_cons, List.not_mem_nil, or_false] at hm
  rcases hm with rfl | rfl <;> (unfold Pl; trivial)
local macro_rules | `(tactic| walk_at "call") => `(tactic| (first | refine eqD_go (pl_prs _) (pl_prs _) ?_ | fail))
theorem atRg {n : Nat} {r : Nat → MV} {i : Int} {Q : MV → Prop} (h0 : 0 ≤ i) (h1 : i < n) (q : Q (r i.toNat)) : gAt ((List.range n).map r) i Q := by
  refine atT r 0 h0 (by simpa using h1) ?_
  rw [List.getD_eq_getElem?_getD, List.getElem?_range (by omega)]
  exact q
theorem atRgN {n : Nat} {r : Nat → MV} {i : Int} {Q : MV → Prop} (h0 : i < 0) (h1 : 0 ≤ i + n) (q : Q (r (i + n).toNat)) : gAt ((List.range n).map r) i Q := by
  refine atTN r 0 h0 (by simpa using h1) ?_
  rw [List.length_range, List.getD_eq_getElem?_getD, List.getElem?_range (by omega)]
  exact q
local macro_rules | `(tactic| walk_at "call") => `(tactic| (first | refine at_go (by omega) (by omega) ?_ | refine at_goN (by omega) (by omega) ?_ | refine atPr (by omega) (by omega) ?_ | refine atPrN (by omega) (by omega) ?_ | refine atRg (by omega) (by omega) ?_ | refine atRgN (by omega) (by omega) ?_ | fail))
theorem pa_app {P : List (Int × Int)} {q : Int × Int} {j : Nat} (h : j < P.length) : pa (P ++ [q]) j = pa P j := by
  unfold pa
  rw [List.getD_eq_getElem?_getD, List.getD_eq_getElem?_getD, List.getElem?_append_left h]
theorem pa_new {P : List (Int × Int)} {q : Int × Int} : pa (P ++ [q]) P.length = q := by
  unfold pa
  rw [List.getD_eq_getElem?_getD, List.getElem?_append_right (Nat.le_refl _)]
  simp
theorem mul_bd {s g a b : Int} (h1 : -a ≤ s) (h2 : s ≤ a) (g0 : 0 ≤ g) (gb : g ≤ b) (ha : 0 ≤ a) : -(a * b) ≤ s * g ∧ s * g ≤ a * b := by
  have e1 := Int.mul_le_mul_of_nonneg_right h1 g0
  have e2 := Int.mul_le_mul_of_nonneg_right h2 g0
  have e3 := Int.mul_le_mul_of_nonneg_left gb ha
  rw [Int.neg_mul] at e1
  omega

/-! ### spans (place X, from b to t): three of them, slopes, wedges, hulls -/
def FLe (a b : Int × Int) : Prop := a.1 * b.2 ≤ b.1 * a.2
theorem fle_refl (a : Int × Int) : FLe a a := Int.le_refl _
theorem fle_total (a b : Int × Int) : FLe a b ∨ FLe b a := Int.le_total _ _
theorem fle_of_not {a b : Int × Int} (h : ¬ FLe a b) : FLe b a := (fle_total a b).resolve_left h
theorem sub_le {x y : Int} (s : Int) (e : y - x = s) (h : 0 ≤ s) : x ≤ y := by omega
theorem le_sub0 {x y : Int} (h : x ≤ y) : 0 ≤ y - x := by omega
theorem fle_trans {a b c : Int × Int} (ha : 0 < a.2) (hb : 0 < b.2) (hc : 0 < c.2) (h1 : FLe a b) (h2 : FLe b c) : FLe a c := by
  unfold FLe at *
  have e1 := Int.mul_le_mul_of_nonneg_right h1 (Int.le_of_lt hc)
  have e2 := Int.mul_le_mul_of_nonneg_right h2 (Int.le_of_lt ha)
  refine Int.le_of_mul_le_mul_left (a := b.2) ?_ hb
  refine sub_le ((b.1 * a.2 * c.2 - a.1 * b.2 * c.2) + (c.1 * b.2 * a.2 - b.1 * c.2 * a.2)) (by grind) (Int.add_nonneg (le_sub0 e1) (le_sub0 e2))
structure Sp (X b t : Nat → Int) (n : Nat) : Prop where
  asc : ∀ i j, i < j → j < n → X i < X j
  le : ∀ i, i < n → b i ≤ t i
section
variable {X b t : Nat → Int} {n m f1 f2 s1 s2 : Nat}
def lo (X b t : Nat → Int) (i j : Nat) : Int × Int := (b j - t i, X j - X i)
def up (X b t : Nat → Int) (i j : Nat) : Int × Int := (t j - b i, X j - X i)
/-- a line meets three -/
def Meet3 (X b t : Nat → Int) (i j k : Nat) : Prop := b i * (X k - X j) + b k * (X j - X i) ≤ t j * (X k - X i) ∧ b j * (X k - X i) ≤ t i * (X k - X j) + t k * (X j - X i)
/-- those from a up to n: each three -/
def Meets (X b t : Nat → Int) (a n : Nat) : Prop := ∀ i j k, a ≤ i → i < j → j < k → k < n → Meet3 X b t i j k
theorem meet3_iff (i j k : Nat) : Meet3 X b t i j k ↔ FLe (lo X b t i j) (up X b t j k) ∧ FLe (lo X b t j k) (up X b t i j) := by
  unfold Meet3 FLe lo up
  dsimp only
  constructor
  · rintro ⟨h1, h2⟩
    exact ⟨sub_le _ (by grind) (le_sub0 h2), sub_le _ (by grind) (le_sub0 h1)⟩
  · rintro ⟨h1, h2⟩
    exact ⟨sub_le _ (by grind) (le_sub0 h2), sub_le _ (by grind) (le_sub0 h1)⟩
theorem Sp.pos (h : Sp X b t n) {i j : Nat} (hij : i < j) (hj : j < n) : 0 < X j - X i := by
  have := h.asc i j hij hj
  omega
theorem Sp.sub (h : Sp X b t n) (hm : m ≤ n) : Sp X b t m := ⟨fun i j a c => h.asc i j a (by omega), fun i a => h.le i (by omega)⟩
theorem Sp.neg (h : Sp X b t n) : Sp X (fun i => -t i) (fun i => -b i) n := ⟨h.asc, fun i a => by have := h.le i a; show -t i ≤ -b i; omega⟩
structure Wedge (X b t : Nat → Int) (n f1 f2 s1 s2 : Nat) : Prop where
  hf : f1 < f2 ∧ f2 < n
  hs : s1 < s2 ∧ s2 < n
  fmax : ∀ i j, i < j → j < n → FLe (lo X b t i j) (lo X b t f1 f2)
  smin : ∀ i j, i < j → j < n → FLe (up X b t s1 s2) (up X b t i j)
  ok : FLe (lo X b t f1 f2) (up X b t s1 s2)
theorem fle_neg {i j k l : Nat} : FLe (lo X b t i j) (lo X b t k l) ↔ FLe (up X (fun i => -t i) (fun i => -b i) k l) (up X (fun i => -t i) (fun i => -b i) i j) := by
  unfold FLe lo up
  dsimp only
  constructor <;> intro h <;> exact sub_le _ (by grind) (le_sub0 h)
theorem fle_neg2 {i j k l : Nat} : FLe (up X b t i j) (up X b t k l) ↔ FLe (lo X (fun i => -t i) (fun i => -b i) k l) (lo X (fun i => -t i) (fun i => -b i) i j) := by
  unfold FLe lo up
  dsimp only
  constructor <;> intro h <;> exact sub_le _ (by grind) (le_sub0 h)
theorem fle_neg3 {i j k l : Nat} : FLe (lo X b t i j) (up X b t k l) ↔ FLe (lo X (fun i => -t i) (fun i => -b i) k l) (up X (fun i => -t i) (fun i => -b i) i j) := by
  unfold FLe lo up
  dsimp only
  constructor <;> intro h <;> exact sub_le _ (by grind) (le_sub0 h)
theorem Wedge.neg (w : Wedge X b t n f1 f2 s1 s2) : Wedge X (fun i => -t i) (fun i => -b i) n s1 s2 f1 f2 :=
  ⟨w.hs, w.hf, fun i j a c => fle_neg2.mp (w.smin i j a c), fun i j a c => fle_neg.mp (w.fmax i j a c), fle_neg3.mp w.ok⟩
theorem lo_le_up (h : Sp X b t n) {i j : Nat} (hij : i < j) (hj : j < n) : FLe (lo X b t i j) (up X b t i j) := by
  have := h.pos hij hj
  have := h.le i (by omega)
  have := h.le j hj
  unfold FLe lo up
  exact Int.mul_le_mul_of_nonneg_right (by dsimp only; omega) (by dsimp only; omega)
theorem Wedge.start (h : Sp X b t 2) : Wedge X b t 2 0 1 0 1 := by
  have one : ∀ i j, i < j → j < 2 → i = 0 ∧ j = 1 := fun i j a b => by omega
  exact ⟨by omega, by omega, fun i j a b => by obtain ⟨rfl, rfl⟩ := one i j a b; exact fle_refl _, fun i j a b => by obtain ⟨rfl, rfl⟩ := one i j a b; exact fle_refl _, lo_le_up h (by omega) (by omega)⟩
theorem Wedge.all (h : Sp X b t n) (w : Wedge X b t n f1 f2 s1 s2) {i j k l : Nat} (h1 : i < j) (h2 : j < n) (h3 : k < l) (h4 : l < n) : FLe (lo X b t i j) (up X b t k l) := by
  have p1 : 0 < (lo X b t i j).2 := h.pos h1 h2
  have p2 : 0 < (lo X b t f1 f2).2 := h.pos w.hf.1 w.hf.2
  have p3 : 0 < (up X b t s1 s2).2 := h.pos w.hs.1 w.hs.2
  have p4 : 0 < (up X b t k l).2 := h.pos h3 h4
  exact fle_trans p1 p2 p4 (w.fmax i j h1 h2) (fle_trans p2 p3 p4 w.ok (w.smin k l h3 h4))
theorem Wedge.lo_s (h : Sp X b t n) (w : Wedge X b t n f1 f2 s1 s2) {i j : Nat} (h1 : i < j) (h2 : j < n) : FLe (lo X b t i j) (up X b t s1 s2) := w.all h h1 h2 w.hs.1 w.hs.2
theorem Wedge.meets (h : Sp X b t n) (w : Wedge X b t n f1 f2 s1 s2) : Meets X b t 0 n := fun i j k _ h1 h2 h3 =>
  (meet3_iff i j k).mpr ⟨w.all h h1 (by omega) h2 h3, w.all h h2 h3 h1 (by omega)⟩
/-- the steepest line is above all lower ends .. -/
theorem Wedge.steep_bot (h : Sp X b t n) (w : Wedge X b t n f1 f2 s1 s2) {i : Nat} (hi : i < n) : b i * (X s2 - X s1) ≤ t s2 * (X s2 - X s1) + (t s2 - b s1) * (X i - X s2) := by
  obtain ⟨a1, a2⟩ := w.hs
  rcases Nat.lt_trichotomy i s2 with q | q | q
  · have u := w.smin i s2 q a2
    unfold FLe up at u
    exact sub_le _ (by dsimp only; grind) (le_sub0 u)
  · subst q
    have := Int.mul_le_mul_of_nonneg_right (h.le i hi) (Int.le_of_lt (h.pos a1 a2))
    exact sub_le _ (by grind) (le_sub0 this)
  · have u := w.lo_s h q hi
    unfold FLe lo up at u
    exact sub_le _ (by dsimp only; grind) (le_sub0 u)
/-- .. and below all upper ends -/
theorem Wedge.steep_top (h : Sp X b t n) (w : Wedge X b t n f1 f2 s1 s2) {i : Nat} (hi : i < n) : b s1 * (X s2 - X s1) + (t s2 - b s1) * (X i - X s1) ≤ t i * (X s2 - X s1) := by
  obtain ⟨a1, a2⟩ := w.hs
  rcases Nat.lt_trichotomy i s1 with q | q | q
  · have u := w.lo_s h q (by omega)
    unfold FLe lo up at u
    exact sub_le _ (by dsimp only; grind) (le_sub0 u)
  · subst q
    have := Int.mul_le_mul_of_nonneg_right (h.le i hi) (Int.le_of_lt (h.pos a1 a2))
    exact sub_le _ (by grind) (le_sub0 this)
  · have u := w.smin s1 i q hi
    unfold FLe up at u
    exact sub_le _ (by dsimp only; grind) (le_sub0 u)
/-- no conflict at the steepest line -/
theorem Wedge.lo_new (h : Sp X b t (n + 1)) (w : Wedge X b t n f1 f2 s1 s2) (hc : FLe (lo X b t s2 n) (up X b t s1 s2)) {i : Nat} (hi : i < n) : FLe (lo X b t i n) (up X b t s1 s2) := by
  have h' := h.sub (Nat.le_succ n)
  have u := w.steep_top h' hi
  unfold FLe lo up at *
  dsimp only at *
  exact sub_le _ (by grind) (Int.add_nonneg (le_sub0 u) (le_sub0 hc))
theorem Wedge.up_new (h : Sp X b t (n + 1)) (w : Wedge X b t n f1 f2 s1 s2) (hc : FLe (lo X b t f1 f2) (up X b t f2 n)) {i : Nat} (hi : i < n) : FLe (lo X b t f1 f2) (up X b t i n) :=
  fle_neg3.mpr (w.neg.lo_new h.neg (fle_neg3.mp hc) hi)
theorem Wedge.new_new (h : Sp X b t (n + 1)) (w : Wedge X b t n f1 f2 s1 s2) (hs : FLe (lo X b t s2 n) (up X b t s1 s2)) (hf : FLe (lo X b t f1 f2) (up X b t f2 n)) {i k : Nat} (hi : i < n) (hk : k < n) : FLe (lo X b t i n) (up X b t k n) := by
  have h' := h.sub (Nat.le_succ n)
  have tn := h.le n (by omega)
  have pi := h.pos hi (Nat.lt_succ_self n)
  have pk := h.pos hk (Nat.lt_succ_self n)
  rcases Nat.lt_trichotomy i k with q | q | q
  · have u : FLe (lo X b t i k) (up X b t k n) := fle_trans (h.pos q (by omega)) (h.pos w.hf.1 (by have := w.hf.2; omega)) pk (w.fmax i k q hk) (w.up_new h hf hk)
    unfold FLe lo up at *
    dsimp only at *
    have z := Int.mul_nonneg (Int.le_of_lt pk) (le_sub0 tn)
    exact sub_le _ (by grind) (Int.add_nonneg (le_sub0 u) z)
  · subst q
    exact lo_le_up h hi (Nat.lt_succ_self n)
  · have u : FLe (lo X b t i n) (up X b t k i) := fle_trans pi (h.pos w.hs.1 (by have := w.hs.2; omega)) (h.pos q (by omega)) (w.lo_new h hs hi) (w.smin k i q hi)
    unfold FLe lo up at *
    dsimp only at *
    have z := Int.mul_nonneg (Int.le_of_lt pi) (le_sub0 tn)
    exact sub_le _ (by grind) (Int.add_nonneg (le_sub0 u) z)
/-- the steepest line stays -/
theorem Wedge.steep_stays (h : Sp X b t (n + 1)) (w : Wedge X b t n f1 f2 s1 s2) (hk : FLe (up X b t s1 s2) (up X b t s1 n)) {k : Nat} (hkn : k < n) : FLe (up X b t s1 s2) (up X b t k n) := by
  have u := w.steep_bot (h.sub (Nat.le_succ n)) hkn
  unfold FLe up at *
  dsimp only at *
  exact sub_le _ (by grind) (Int.add_nonneg (le_sub0 u) (le_sub0 hk))
theorem Wedge.flat_stays (h : Sp X b t (n + 1)) (w : Wedge X b t n f1 f2 s1 s2) (hk : FLe (lo X b t f1 n) (lo X b t f1 f2)) {k : Nat} (hkn : k < n) : FLe (lo X b t k n) (lo X b t f1 f2) :=
  fle_neg.mpr (w.neg.steep_stays h.neg (fle_neg.mp hk) hkn)
/-- the steepest line behind a new span -/
def NewS (X b t : Nat → Int) (n s1 s2 a1 a2 : Nat) : Prop := (a1 = s1 ∧ a2 = s2 ∧ FLe (up X b t s1 s2) (up X b t s1 n)) ∨ (a2 = n ∧ a1 < n ∧ (∀ k, k < n → FLe (up X b t a1 n) (up X b t k n)) ∧ FLe (up X b t s1 n) (up X b t s1 s2))
def NewF (X b t : Nat → Int) (n f1 f2 a1 a2 : Nat) : Prop := (a1 = f1 ∧ a2 = f2 ∧ FLe (lo X b t f1 n) (lo X b t f1 f2)) ∨ (a2 = n ∧ a1 < n ∧ (∀ k, k < n → FLe (lo X b t k n) (lo X b t a1 n)) ∧ FLe (lo X b t f1 f2) (lo X b t f1 n))
theorem NewF.neg {a1 a2 : Nat} (h : NewF X b t n f1 f2 a1 a2) : NewS X (fun i => -t i) (fun i => -b i) n f1 f2 a1 a2 := by
  rcases h with ⟨h1, h2, h3⟩ | ⟨h1, h2, h3, h4⟩
  · exact .inl ⟨h1, h2, fle_neg.mp h3⟩
  · exact .inr ⟨h1, h2, fun k hk => fle_neg.mp (h3 k hk), fle_neg.mp h4⟩
theorem NewS.min (h : Sp X b t (n + 1)) (w : Wedge X b t n f1 f2 s1 s2) {a1 a2 : Nat} (q : NewS X b t n s1 s2 a1 a2) : (a1 < a2 ∧ a2 < n + 1) ∧ FLe (up X b t a1 a2) (up X b t s1 s2) ∧ ∀ i j, i < j → j < n + 1 → FLe (up X b t a1 a2) (up X b t i j) := by
  obtain ⟨w1, w2⟩ := w.hs
  rcases q with ⟨rfl, rfl, h3⟩ | ⟨rfl, h2, h3, h4⟩
  · refine ⟨by omega, fle_refl _, fun i j hij hj => ?_⟩
    by_cases z : j = n
    · subst z; exact w.steep_stays h h3 hij
    · exact w.smin i j hij (by omega)
  · have e : FLe (up X b t a1 a2) (up X b t s1 s2) := fle_trans (h.pos h2 (by omega)) (h.pos (show s1 < a2 by omega) (by omega)) (h.pos w1 (by omega)) (h3 s1 (by omega)) h4
    refine ⟨by omega, e, fun i j hij hj => ?_⟩
    by_cases z : j = a2
    · subst z; exact h3 i hij
    · exact fle_trans (h.pos h2 (by omega)) (h.pos w1 (by omega)) (h.pos hij hj) e (w.smin i j hij (by omega))
theorem Wedge.step (h : Sp X b t (n + 1)) (w : Wedge X b t n f1 f2 s1 s2) (hs : FLe (lo X b t s2 n) (up X b t s1 s2)) (hf : FLe (lo X b t f1 f2) (up X b t f2 n)) {a1 a2 c1 c2 : Nat} (qf : NewF X b t n f1 f2 a1 a2) (qs : NewS X b t n s1 s2 c1 c2) : Wedge X b t (n + 1) a1 a2 c1 c2 := by
  obtain ⟨s3, s4, s5⟩ := qs.min h w
  obtain ⟨f3, f4, f5⟩ := qf.neg.min h.neg w.neg
  refine ⟨f3, s3, fun i j a c => fle_neg.mpr (f5 i j a c), s5, ?_⟩
  rcases qf with ⟨rfl, rfl, _⟩ | ⟨rfl, g2, _⟩
  · rcases qs with ⟨rfl, rfl, _⟩ | ⟨rfl, r2, _⟩
    · exact w.ok
    · exact w.up_new h hf r2
  · rcases qs with ⟨rfl, rfl, _⟩ | ⟨rfl, r2, _⟩
    · exact w.lo_new h hs g2
    · exact w.new_new h hs hf g2 r2
/-- a conflict is a reason -/
theorem conflict_f (w : Wedge X b t n f1 f2 s1 s2) (hc : ¬ FLe (lo X b t f1 f2) (up X b t f2 n)) : ¬ Meet3 X b t f1 f2 n := fun z => hc ((meet3_iff _ _ _).mp z).1
theorem conflict_s (w : Wedge X b t n f1 f2 s1 s2) (hc : ¬ FLe (lo X b t s2 n) (up X b t s1 s2)) : ¬ Meet3 X b t s1 s2 n := fun z => hc ((meet3_iff _ _ _).mp z).2
/-! a line with a slope -/
/-- the slope p / d goes between all bounds -/
def Between (X b t : Nat → Int) (n : Nat) (p d : Int) : Prop := ∀ i j, i < j → j < n → FLe (lo X b t i j) (p, d) ∧ FLe (p, d) (up X b t i j)
theorem Wedge.between (h : Sp X b t n) (w : Wedge X b t n f1 f2 s1 s2) {p d : Int} (hd : 0 < d) (h1 : FLe (lo X b t f1 f2) (p, d)) (h2 : FLe (p, d) (up X b t s1 s2)) : Between X b t n p d := fun i j hij hj =>
  ⟨fle_trans (h.pos hij hj) (h.pos w.hf.1 w.hf.2) hd (w.fmax i j hij hj) h1, fle_trans hd (h.pos w.hs.1 w.hs.2) (h.pos hij hj) h2 (w.smin i j hij hj)⟩
theorem line_meets (h : Sp X b t n) {p d q : Int} (hd : 0 < d) (hb : Between X b t n p d) (hq : ∃ j, j < n ∧ q = b j * d - p * X j) (hm : ∀ i, i < n → b i * d - p * X i ≤ q) : ∀ i, i < n → b i * d ≤ p * X i + q ∧ p * X i + q ≤ t i * d := by
  intro i hi
  obtain ⟨j, hj, rfl⟩ := hq
  refine ⟨by have := hm i hi; omega, ?_⟩
  rcases Nat.lt_trichotomy i j with z | z | z
  · have u := (hb i j z hj).1
    unfold FLe lo at u
    exact sub_le _ (by dsimp only; grind) (le_sub0 u)
  · subst z
    have := Int.mul_le_mul_of_nonneg_right (h.le i hi) (Int.le_of_lt hd)
    exact sub_le _ (by grind) (le_sub0 this)
  · have u := (hb j i z hi).2
    unfold FLe up at u
    exact sub_le _ (by dsimp only; grind) (le_sub0 u)
/-- where a line meets all, each three meet -/
theorem meets_of_line {p d q : Int} (hd : 0 < d) {a : Nat} (asc : ∀ i j, a ≤ i → i < j → j < n → X i < X j) (hl : ∀ i, a ≤ i → i < n → b i * d ≤ p * X i + q ∧ p * X i + q ≤ t i * d) : Meets X b t a n := by
  intro i j k ha hij hjk hk
  have p1 := asc i j ha hij (by omega)
  have p2 := asc j k (by omega) hjk hk
  obtain ⟨i1, i2⟩ := hl i ha (by omega)
  obtain ⟨j1, j2⟩ := hl j (by omega) (by omega)
  obtain ⟨k1, k2⟩ := hl k (by omega) hk
  have a1 : 0 ≤ X k - X j := by omega
  have a2 : 0 ≤ X j - X i := by omega
  have a3 : 0 ≤ X k - X i := by omega
  constructor
  · have e1 := Int.mul_nonneg a1 (le_sub0 i1)
    have e2 := Int.mul_nonneg a2 (le_sub0 k1)
    have e3 := Int.mul_nonneg a3 (le_sub0 j2)
    refine Int.le_of_mul_le_mul_right (a := d) (sub_le _ ?_ (Int.add_nonneg (Int.add_nonneg e1 e2) e3)) hd
    grind
  · have e1 := Int.mul_nonneg a1 (le_sub0 i2)
    have e2 := Int.mul_nonneg a2 (le_sub0 k2)
    have e3 := Int.mul_nonneg a3 (le_sub0 j1)
    refine Int.le_of_mul_le_mul_right (a := d) (sub_le _ ?_ (Int.add_nonneg (Int.add_nonneg e1 e2) e3)) hd
    grind
/-! hulls: some corners stand for all -/
/-- from the corners H, seen from anywhere behind: the least slope -/
def Cov (X b : Nat → Int) (H : List Nat) (n : Nat) : Prop := ∀ k, k < n → ∀ x y : Int, (∀ j, j < n → X j < x) → ∃ c ∈ H, c < n ∧ (y - b c) * (x - X k) ≤ (y - b k) * (x - X c)
theorem turn_out {A C D u v w : Int} (hA : 0 < A) (hC : 0 < C) (hD : 0 < D) (ht : u * C ≤ A * v) (h1 : w * A < u * D) (h2 : v * D < w * C) : False := by
  have e1 := Int.mul_lt_mul_of_pos_right h1 hC
  have e2 := Int.mul_le_mul_of_nonneg_right ht (Int.le_of_lt hD)
  have e3 := Int.mul_lt_mul_of_pos_left h2 hA
  have q1 : u * D * C = u * C * D := by grind
  have q2 : A * (v * D) = A * v * D := by grind
  have q3 : A * (w * C) = w * A * C := by grind
  omega
theorem pop_lemma {xa ba xm bm xp bp x y : Int} (h1 : xa < xm) (h2 : xm < xp) (h3 : xp < x) (ht : 0 ≤ (xm - xa) * (bp - ba) - (bm - ba) * (xp - xa)) :
    (y - ba) * (x - xm) ≤ (y - bm) * (x - xa) ∨ (y - bp) * (x - xm) ≤ (y - bm) * (x - xp) := by
  by_cases c1 : (y - ba) * (x - xm) ≤ (y - bm) * (x - xa)
  · exact .inl c1
  · by_cases c2 : (y - bp) * (x - xm) ≤ (y - bm) * (x - xp)
    · exact .inr c2
    · exfalso
      refine turn_out (A := xm - xa) (C := xp - xm) (D := x - xm) (u := bm - ba) (v := bp - bm) (w := y - bm) (by omega) (by omega) (by omega) (sub_le _ (by grind) ht) ?_ ?_
      · have : 0 < (y - ba) * (x - xm) - (y - bm) * (x - xa) := by omega
        have e : (bm - ba) * (x - xm) - (y - bm) * (xm - xa) = (y - ba) * (x - xm) - (y - bm) * (x - xa) := by grind
        omega
      · have : 0 < (y - bp) * (x - xm) - (y - bm) * (x - xp) := by omega
        have e : (y - bm) * (xp - xm) - (bp - bm) * (x - xm) = (y - bp) * (x - xm) - (y - bm) * (x - xp) := by grind
        omega
/-- a corner that lies below the line from one of the others to the new one may go -/
theorem Cov.pop {H : List Nat} {a m : Nat} (asc : ∀ i j, i < j → j < n + 1 → X i < X j) (ha : a < m) (hm : m < n) (h : Cov X b (H ++ [a] ++ [m] ++ [n]) (n + 1)) (ht : 0 ≤ (X m - X a) * (b n - b a) - (b m - b a) * (X n - X a)) : Cov X b (H ++ [a] ++ [n]) (n + 1) := by
  intro k hk x y hx
  obtain ⟨c, hc, hcn, hcs⟩ := h k hk x y hx
  have inH : ∀ c, c ∈ H ++ [a] ++ [m] ++ [n] → c ≠ m → c ∈ H ++ [a] ++ [n] := fun c hc hne => by
    simp only [List.mem_append, List.mem_singleton] at hc ⊢
    rcases hc with ((hc | hc) | hc) | hc
    · exact .inl (.inl hc)
    · exact .inl (.inr hc)
    · exact absurd hc hne
    · exact .inr hc
  by_cases z : c = m
  · subst z
    have tr : ∀ d : Nat, d < n + 1 → (y - b d) * (x - X c) ≤ (y - b c) * (x - X d) → (y - b d) * (x - X k) ≤ (y - b k) * (x - X d) := fun d hd q =>
      fle_trans (a := (y - b d, x - X d)) (b := (y - b c, x - X c)) (c := (y - b k, x - X k)) (by have := hx d hd; show 0 < x - X d; omega) (by have := hx c hcn; show 0 < x - X c; omega) (by have := hx k hk; show 0 < x - X k; omega) q hcs
    rcases pop_lemma (x := x) (y := y) (asc a c ha (by omega)) (asc c n hm (by omega)) (hx n (by omega)) ht with q | q
    · exact ⟨a, by simp, by omega, tr a (by omega) q⟩
    · exact ⟨n, by simp, by omega, tr n (by omega) q⟩
  · exact ⟨c, inH c hc z, hcn, hcs⟩
theorem Cov.add {H : List Nat} (h : Cov X b H n) : Cov X b (H ++ [n]) (n + 1) := by
  intro k hk x y hx
  by_cases z : k = n
  · subst z
    exact ⟨k, by simp, hk, Int.le_refl _⟩
  · obtain ⟨c, hc, hcn, hcs⟩ := h k (by omega) x y fun j hj => hx j (by omega)
    exact ⟨c, by simp [hc], by omega, hcs⟩
/-- the least slope to the new upper end -/
theorem Cov.least {H : List Nat} (asc : ∀ j, j < n → X j < X n) (h : Cov X b H n) {c : Nat} (hc : c < n) (hm : ∀ d ∈ H, d < n → FLe (up X b t c n) (up X b t d n)) : ∀ k, k < n → FLe (up X b t c n) (up X b t k n) := by
  intro k hk
  obtain ⟨d, hd, hdn, q⟩ := h k hk (X n) (t n) asc
  have p1 := asc c hc
  have p2 := asc d hdn
  have p3 := asc k hk
  exact fle_trans (b := up X b t d n) (by show 0 < X n - X c; omega) (by show 0 < X n - X d; omega) (by show 0 < X n - X k; omega) (hm d hd hdn) q
/-! fits all: there is a wedge -/
theorem least_up (asc : ∀ j, j < n → X j < X n) : ∀ m, 0 < m → m ≤ n → ∃ c, c < m ∧ ∀ k, k < m → FLe (up X b t c n) (up X b t k n)
  | 0, h, _ => by omega
  | 1, _, _ => ⟨0, by omega, fun k hk => by
    have : k = 0 := by omega
    subst this
    exact fle_refl _⟩
  | m + 2, _, h => by
    obtain ⟨c, h1, h2⟩ := least_up asc (m + 1) (by omega) (by omega)
    have pp : ∀ k, k < m + 2 → 0 < (up X b t k n).2 := fun k hk => by
      have := asc k (by omega)
      show 0 < X n - X k
      omega
    rcases fle_total (up X b t c n) (up X b t (m + 1) n) with q | q
    · refine ⟨c, by omega, fun k hk => ?_⟩
      by_cases z : k = m + 1
      · subst z; exact q
      · exact h2 k (by omega)
    · refine ⟨m + 1, by omega, fun k hk => ?_⟩
      by_cases z : k = m + 1
      · subst z; exact fle_refl _
      · exact fle_trans (pp _ (by omega)) (pp c (by omega)) (pp k hk) q (h2 k (by omega))
theorem newS_ex (h : Sp X b t (n + 1)) (s1 s2 : Nat) (hn : 0 < n) : ∃ a1 a2, NewS X b t n s1 s2 a1 a2 := by
  by_cases q : FLe (up X b t s1 s2) (up X b t s1 n)
  · exact ⟨s1, s2, .inl ⟨rfl, rfl, q⟩⟩
  · obtain ⟨c, h1, h2⟩ := least_up (X := X) (b := b) (t := t) (n := n) (fun j hj => h.asc j n hj (by omega)) n hn (Nat.le_refl _)
    exact ⟨c, n, .inr ⟨rfl, h1, h2, fle_of_not q⟩⟩
theorem newF_ex (h : Sp X b t (n + 1)) (f1 f2 : Nat) (hn : 0 < n) : ∃ a1 a2, NewF X b t n f1 f2 a1 a2 := by
  obtain ⟨a1, a2, q⟩ := newS_ex h.neg f1 f2 hn
  refine ⟨a1, a2, ?_⟩
  rcases q with ⟨h1, h2, h3⟩ | ⟨h1, h2, h3, h4⟩
  · exact .inl ⟨h1, h2, fle_neg.mpr h3⟩
  · exact .inr ⟨h1, h2, fun k hk => fle_neg.mpr (h3 k hk), fle_neg.mpr h4⟩
theorem wedge_ex : ∀ n, 2 ≤ n → Sp X b t n → Meets X b t 0 n → ∃ f1 f2 s1 s2, Wedge X b t n f1 f2 s1 s2
  | 0, h, _, _ => by omega
  | 1, h, _, _ => by omega
  | n + 2, _, h, hm => by
    by_cases z : n = 0
    · subst z
      exact ⟨0, 1, 0, 1, Wedge.start h⟩
    · obtain ⟨f1, f2, s1, s2, w⟩ := wedge_ex (n + 1) (by omega) (h.sub (by omega)) fun i j k a c d e => hm i j k a c d (by omega)
      obtain ⟨a1, a2, qf⟩ := newF_ex h f1 f2 (by omega)
      obtain ⟨c1, c2, qs⟩ := newS_ex h s1 s2 (by omega)
      have m1 := (meet3_iff _ _ _).mp (hm s1 s2 (n + 1) (by omega) w.hs.1 w.hs.2 (by omega))
      have m2 := (meet3_iff _ _ _).mp (hm f1 f2 (n + 1) (by omega) w.hf.1 w.hf.2 (by omega))
      exact ⟨a1, a2, c1, c2, w.step h m1.2 m2.1 qf qs⟩
theorem meets_all (h : Sp X b t n) (hm : Meets X b t 0 n) {i j k l : Nat} (h1 : i < j) (h2 : j < n) (h3 : k < l) (h4 : l < n) : FLe (lo X b t i j) (up X b t k l) := by
  obtain ⟨f1, f2, s1, s2, w⟩ := wedge_ex n (by omega) h hm
  exact w.all h h1 h2 h3 h4
end

/-! ### divisors, fractions, slopes -/
theorem intsF_go {α : Type} {xs : List α} {f : α → Int} {P : List Int → Prop} (q : P (xs.map f)) : (match intsL (xs.map fun x => MV.int (f x)) with | some bs => P bs | none => False) := by
  rw [show (xs.map fun x => MV.int (f x)) = (xs.map f).map .int by simp, intsL_map]
  exact q
local macro_rules | `(tactic| walk_at "call") => `(tactic| (first | refine intsF_go ?_ | fail))
theorem mulok {i j : Int} (h : i.natAbs < 2 ^ 400) (h2 : j.natAbs < 2 ^ 400) : MulOk i j := by
  refine .inr (.inr ?_)
  have a := PySem.Flt.log2_lt_of (by decide : 0 < 400) h
  have b := PySem.Flt.log2_lt_of (by decide : 0 < 400) h2
  omega
theorem w_gcd (a b : Int) (Q : OV → Env → Prop) (E : Int → Prop) (h : ∀ e, Q (.fro (.int (Int.gcd a b))) e) : F_common_divisor [.ow (.fro (.int a)), .ow (.fro (.int b))] Q E := by
  refine F_common_divisor.mk ?_
  walk_at "go"
  refine while_inv (fun k e => ∃ x y : Nat, e = [.ow (.fro (.int a)), .ow (.fro (.int b)), .ow (.fro (.int x)), .ow (.fro (.int y))] ∧ k = y ∧ Nat.gcd x y = Int.gcd a b) b.natAbs ⟨a.natAbs, b.natAbs, rfl, rfl, rfl⟩ ?_
  rintro k e ⟨x, y, rfl, rfl, hg⟩ N hN
  walk_at "go"
  by_cases hy : k = 0
  · subst hy
    walk_at "go"
    rw [← hg, Nat.gcd_zero_right] at h
    exact h _
  · rw [show ((k : Int) != 0) = true by simp [hy]]
    walk_at "go"
    refine hN (x % k) _ (Nat.mod_lt _ (by omega)) ⟨_, _, rfl, rfl, ?_⟩
    show Nat.gcd k (x % k) = _
    rw [← hg, Nat.gcd_comm x k, Nat.gcd_rec k x, Nat.gcd_comm]
/-- a fraction without a common divisor -/
def frac (a b : Int) : Int × Int := (a / (Int.gcd a b : Int), b / (Int.gcd a b : Int))
theorem gcd_pos {a b : Int} (hb : 0 < b) : 0 < ((Int.gcd a b : Nat) : Int) := by
  have := Int.gcd_pos_of_ne_zero_right a (show b ≠ 0 by omega)
  omega
theorem frac_pos {a b : Int} (hb : 0 < b) : 0 < (frac a b).2 := Int.ediv_pos_of_pos_of_dvd hb (Int.le_of_lt (gcd_pos hb)) (Int.gcd_dvd_right _ _)
theorem frac_eq {a b : Int} : (frac a b).1 * b = a * (frac a b).2 := by
  have d1 : ((Int.gcd a b : Nat) : Int) ∣ a := Int.gcd_dvd_left _ _
  have d2 : ((Int.gcd a b : Nat) : Int) ∣ b := Int.gcd_dvd_right _ _
  unfold frac
  dsimp only
  have e1 := Int.ediv_mul_cancel d1
  have e2 := Int.ediv_mul_cancel d2
  generalize a / ((Int.gcd a b : Nat) : Int) = x at *
  generalize b / ((Int.gcd a b : Nat) : Int) = y at *
  generalize ((Int.gcd a b : Nat) : Int) = g at *
  rw [← e1, ← e2]
  grind
theorem frac_abs1 {a b : Int} : (frac a b).1.natAbs ≤ a.natAbs := by
  show (a / ((Int.gcd a b : Nat) : Int)).natAbs ≤ _
  exact Int.natAbs_ediv_le_natAbs _ _
theorem frac_abs2 {a b : Int} : (frac a b).2.natAbs ≤ b.natAbs := by
  show (b / ((Int.gcd a b : Nat) : Int)).natAbs ≤ _
  exact Int.natAbs_ediv_le_natAbs _ _
theorem frac_le1 {a b : Int} (hb : 0 < b) : FLe (a, b) (frac a b) ∧ FLe (frac a b) (a, b) := by
  have := frac_eq (a := a) (b := b)
  unfold FLe
  exact ⟨Int.le_of_eq this.symm, Int.le_of_eq this⟩
theorem w_fraction (a b : Int) (hb : 0 < b) (hb1 : b < 2 ^ 400) (Q : OV → Env → Prop) (E : Int → Prop) (h : ∀ e, Q (.fro (prM (frac a b))) e) : F_fraction [.ow (.fro (.int a)), .ow (.fro (.int b))] Q E := by
  refine F_fraction.mk ?_
  walk_at "go"
  refine w_gcd _ _ _ _ fun _ => ?_
  have hg := gcd_pos (a := a) hb
  have hg1 : ((Int.gcd a b : Nat) : Int) ≤ b := Int.le_of_dvd hb (Int.gcd_dvd_right _ _)
  walk_at "go"
  exact h _
/-- a slope between two bounds -/
def slopeB (l u : Int × Int) : Int × Int := if 0 < l.1 then l else if u.1 < 0 then u else (0, 1)
theorem w_slope_between (l u : Int × Int) (Q : OV → Env → Prop) (E : Int → Prop) (h : ∀ e, Q (.fro (prM (slopeB l u))) e) : F_slope_between [.ow (.fro (prM l)), .ow (.fro (prM u))] Q E := by
  refine F_slope_between.mk ?_
  walk_at "go"
  unfold slopeB at h
  refine mdec (fun c => ?_) fun c => ?_
  · walk_at "go"
    rw [if_pos c] at h
    exact h _
  · rw [if_neg c] at h
    walk_at "go"
    refine mdec (fun c => ?_) fun c => ?_
    · walk_at "go"
      rw [if_pos c] at h
      exact h _
    · walk_at "go"
      rw [if_neg c] at h
      exact h _
theorem slopeB_out {l u : Int × Int} (hl : 0 < l.2) (hu : 0 < u.2) (h : FLe l u) : 0 < (slopeB l u).2 ∧ FLe l (slopeB l u) ∧ FLe (slopeB l u) u ∧ (0 ≤ u.1 → 0 ≤ (slopeB l u).1) := by
  unfold slopeB
  split
  · exact ⟨hl, fle_refl _, h, fun _ => by omega⟩
  · split
    · exact ⟨hu, h, fle_refl _, fun _ => by omega⟩
    · refine ⟨by omega, ?_, ?_, fun _ => by omega⟩
      · unfold FLe; dsimp only; omega
      · unfold FLe; dsimp only; omega
/-- the lowest line with a slope -/
def lineQ (X b : Nat → Int) (n : Nat) (p d : Int) : Int := maxL ((List.range n).map fun i => b i * d - p * X i)
theorem lineQ_out {X b : Nat → Int} {n : Nat} (hn : 0 < n) (p d : Int) : (∃ j, j < n ∧ lineQ X b n p d = b j * d - p * X j) ∧ ∀ i, i < n → b i * d - p * X i ≤ lineQ X b n p d := by
  have ne : (List.range n).map (fun i => b i * d - p * X i) ≠ [] := fun z => by
    have := congrArg List.length z
    simp at this
    omega
  constructor
  · obtain ⟨j, h1, h2⟩ := List.mem_map.mp (maxL_mem ne)
    exact ⟨j, List.mem_range.mp h1, h2.symm⟩
  · intro i hi
    exact maxL_ge (List.mem_map.mpr ⟨i, List.mem_range.mpr hi, rfl⟩)
theorem w_line_with_slope (X Y : Nat → Int) (e p d : Int) (n : Nat) (hn : 0 < n) (hn1 : n < 3000) (hX : ∀ i, i < n → (X i).natAbs < 2 ^ 100) (hY : ∀ i, i < n → (Y i).natAbs < 2 ^ 100) (he : e.natAbs < 2 ^ 100) (hp : p.natAbs < 2 ^ 200) (hd : d.natAbs < 2 ^ 200) (s : Slot)
    (hs : s = .bo (.lst ((List.range n).map fun i => prM (X i, Y i))) ∨ s = .ow (.fro (.lst ((List.range n).map fun i => prM (X i, Y i)))) ∨ s = .bo (.fro (.lst ((List.range n).map fun i => prM (X i, Y i))))) (Q : OV → Env → Prop) (E : Int → Prop)
    (h : ∀ en, Q (.fro (.tup [.int p, .int (lineQ X (fun i => Y i - e) n p d), .int d])) en) : F_line_with_slope [s, .ow (.fro (.int e)), .ow (.fro (prM (p, d)))] Q E := by
  refine F_line_with_slope.mk ?_
  rcases hs with rfl | rfl | rfl
  all_goals
    walk_at "go"
    refine lc_ty _ (fun i => .int (Y i * d - e * d - p * X i)) _ (le_line (by simp; omega)) (fun i hi Z y => ?_) ?_
    · have hi' := List.mem_range.mp hi
      have h1 := hX i hi'
      have h2 := hY i hi'
      have m1 : MulOk (Y i) d := mulok (by omega) (by omega)
      have m2 : MulOk e d := mulok (by omega) (by omega)
      have m3 : MulOk p (X i) := mulok (by omega) (by omega)
      walk_at "go"
      exact y
    · walk_at "go"
      refine ⟨fun z => by have := congrArg List.length z; simp at this; omega, ?_⟩
      walk_at "go"
      rw [show (fun i => Y i * d - e * d - p * X i) = fun i => (Y i - e) * d - p * X i from funext fun i => by grind]
      exact h _

/-! ### the Fitter -/
def cr (X Z : Nat → Int) (i : Nat) : MV := .tup [.int (X i), .int (Z i), .int i]
abbrev bt (Y : Nat → Int) (e : Int) : Nat → Int := fun i => Y i - e
abbrev tp (Y : Nat → Int) (e : Int) : Nat → Int := fun i => Y i + e
def FitO (X Y : Nat → Int) (e : Int) (n : Nat) (T B : List Nat) (fl st : MV) : OV :=
  .obj 0 [.fro (.int e), .fro (.int n), .lst ((List.range n).map fun i => prM (X i, Y i)), .lst (T.map (cr X (tp Y e))), .lst (B.map (cr X (bt Y e))), .fro fl, .fro st]
/-- bounds of the first n -/
structure Bd (X Y : Nat → Int) (e : Int) (n : Nat) : Prop where
  x : ∀ i, i < n → -(2 ^ 60) < X i ∧ X i < 2 ^ 60
  y : ∀ i, i < n → -(2 ^ 60) < Y i ∧ Y i < 2 ^ 60
  e0 : 0 ≤ e
  e1 : e < 2 ^ 60
theorem w_rise {x1 y1 x2 y2 : Int} {r1 r2 : List MV} (h1 : r1.length ≤ 1) (h2 : r2.length ≤ 1) (Q : OV → Env → Prop) (E : Int → Prop) (h : ∀ en, Q (.fro (prM (y2 - y1, x2 - x1))) en) :
    F_rise_over [.ow (.fro (.tup (.int x1 :: .int y1 :: r1))), .ow (.fro (.tup (.int x2 :: .int y2 :: r2)))] Q E := by
  refine F_rise_over.mk ?_
  match r1, r2, h1, h2 with
  | [], [], _, _ => walk_at "go"; exact h _
  | [a], [], _, _ => walk_at "go"; exact h _
  | [], [b], _, _ => walk_at "go"; exact h _
  | [a], [b], _, _ => walk_at "go"; exact h _
  | _ :: _ :: _, _, z, _ => simp at z
  | [], _ :: _ :: _, _, z => simp at z
  | [_], _ :: _ :: _, _, z => simp at z
theorem w_below {a b : Int × Int} (h1 : a.1.natAbs < 2 ^ 200) (h2 : a.2.natAbs < 2 ^ 200) (h3 : b.1.natAbs < 2 ^ 200) (h4 : b.2.natAbs < 2 ^ 200) (Q : OV → Env → Prop) (E : Int → Prop) (h : ∀ en, Q (.fro (.bl (dB (¬ FLe b a)))) en) :
    F_is_below [.ow (.fro (prM a)), .ow (.fro (prM b))] Q E := by
  refine F_is_below.mk ?_
  have m1 : MulOk a.1 b.2 := mulok (by omega) (by omega)
  have m2 : MulOk b.1 a.2 := mulok (by omega) (by omega)
  walk_at "go"
  rw [show (a.1 * b.2 < b.1 * a.2) = ¬ FLe b a from propext ⟨fun z => by unfold FLe; omega, fun z => by unfold FLe at z; omega⟩]
  exact h _
theorem w_turn {x1 y1 x2 y2 x3 y3 : Int} {i1 i2 i3 : MV} (h1 : x1.natAbs < 2 ^ 100) (h2 : y1.natAbs < 2 ^ 100) (h3 : x2.natAbs < 2 ^ 100) (h4 : y2.natAbs < 2 ^ 100) (h5 : x3.natAbs < 2 ^ 100) (h6 : y3.natAbs < 2 ^ 100) (Q : OV → Env → Prop) (E : Int → Prop)
    (h : ∀ en, Q (.fro (.int ((x2 - x1) * (y3 - y1) - (y2 - y1) * (x3 - x1)))) en) : F_turn [.ow (.fro (.tup [.int x1, .int y1, i1])), .ow (.fro (.tup [.int x2, .int y2, i2])), .ow (.fro (.tup [.int x3, .int y3, i3]))] Q E := by
  refine F_turn.mk ?_
  have m1 : MulOk (x2 - x1) (y3 - y1) := mulok (by omega) (by omega)
  have m2 : MulOk (y2 - y1) (x3 - x1) := mulok (by omega) (by omega)
  walk_at "go"
  exact h _
local macro_rules | `(tactic| walk_at "call") => `(tactic| (first | refine w_rise (by simp) (by simp) _ _ (fun _ => ?_) | refine w_below (by (try dsimp only [bt, tp]); omega) (by (try dsimp only [bt, tp]); omega) (by (try dsimp only [bt, tp]); omega) (by (try dsimp only [bt, tp]); omega) _ _ (fun _ => ?_) | fail))
theorem mdn {p : Prop} {A B : Prop} : (¬ p → A) → (p → B) → (match dB (¬ p) with | true => A | false => B) := fun h1 h2 => mdec h1 fun h => h2 (Classical.not_not.mp h)
theorem mndn {p : Prop} {A B : Prop} : (p → A) → (¬ p → B) → (match !dB (¬ p) with | true => A | false => B) := fun h1 h2 => mndec (fun h => h1 (Classical.not_not.mp h)) h2
section
variable {X Y : Nat → Int} {e : Int} {n f1 f2 s1 s2 : Nat} {T B : List Nat} {fl st : MV}
theorem w_conflict0 (hn : n < 2) (p : MV) (Q : OV → Env → Prop) (E : Int → Prop) (h : ∀ en, Q (.fro .non) en) : F_Fitter_conflict [.bo (FitO X Y e n T B fl st), .ow (.fro p)] Q E := by
  refine F_Fitter_conflict.mk ?_
  unfold FitO
  walk_at "go"
  exact h _
theorem w_conflict2 (hb : Bd X Y e (n + 1)) (hn : 2 ≤ n) (w : Wedge X (bt Y e) (tp Y e) n f1 f2 s1 s2) (Q : OV → Env → Prop) (E : Int → Prop)
    (h1 : ¬ FLe (lo X (bt Y e) (tp Y e) f1 f2) (up X (bt Y e) (tp Y e) f2 n) → ∀ en, Q (.fro (.tup [.int f1, .int f2])) en)
    (h2 : FLe (lo X (bt Y e) (tp Y e) f1 f2) (up X (bt Y e) (tp Y e) f2 n) → ¬ FLe (lo X (bt Y e) (tp Y e) s2 n) (up X (bt Y e) (tp Y e) s1 s2) → ∀ en, Q (.fro (.tup [.int s1, .int s2])) en)
    (h3 : FLe (lo X (bt Y e) (tp Y e) f1 f2) (up X (bt Y e) (tp Y e) f2 n) → FLe (lo X (bt Y e) (tp Y e) s2 n) (up X (bt Y e) (tp Y e) s1 s2) → ∀ en, Q (.fro .non) en) :
    F_Fitter_conflict [.bo (FitO X Y e n T B (.tup [cr X (tp Y e) f1, cr X (bt Y e) f2]) (.tup [cr X (bt Y e) s1, cr X (tp Y e) s2])), .ow (.fro (prM (X n, Y n)))] Q E := by
  refine F_Fitter_conflict.mk ?_
  unfold FitO
  obtain ⟨a1, a2⟩ := w.hf
  obtain ⟨a3, a4⟩ := w.hs
  have x1 := hb.x f1 (by omega)
  have x2 := hb.x f2 (by omega)
  have x3 := hb.x s1 (by omega)
  have x4 := hb.x s2 (by omega)
  have x5 := hb.x n (by omega)
  have y1 := hb.y f1 (by omega)
  have y2 := hb.y f2 (by omega)
  have y3 := hb.y s1 (by omega)
  have y4 := hb.y s2 (by omega)
  have y5 := hb.y n (by omega)
  have e0 := hb.e0
  have e1 := hb.e1
  walk_at "go"
  refine mdn (fun c => ?_) fun c => ?_
  · walk_at "go"
    exact h1 c _
  · walk_at "go"
    refine mdn (fun d => ?_) fun d => ?_
    · walk_at "go"
      exact h2 c d _
    · walk_at "go"
      exact h3 c d _
/-- what stands between two points taken -/
structure FitS (X Y : Nat → Int) (e : Int) (n : Nat) (T B : List Nat) (fl st : MV) : Prop where
  sp : Sp X (bt Y e) (tp Y e) n
  t1 : n = 1 → T = [0] ∧ B = [0]
  t0 : n = 0 → T = [] ∧ B = []
  tn : 0 < n → T ≠ [] ∧ B ≠ []
  ln : T.length ≤ n ∧ B.length ≤ n
  tl : T.Pairwise (· < ·) ∧ ∀ i ∈ T, i < n
  bl : B.Pairwise (· < ·) ∧ ∀ i ∈ B, i < n
  ct : Cov X (fun i => -(tp Y e i)) T n
  cb : Cov X (bt Y e) B n
  w : 2 ≤ n → ∃ f1 f2 s1 s2, fl = .tup [cr X (tp Y e) f1, cr X (bt Y e) f2] ∧ st = .tup [cr X (bt Y e) s1, cr X (tp Y e) s2] ∧ Wedge X (bt Y e) (tp Y e) n f1 f2 s1 s2
theorem w_lower (hb : Bd X Y e (n + 1)) (hn : 2 ≤ n) (hsp : Sp X (bt Y e) (tp Y e) (n + 1)) (w : Wedge X (bt Y e) (tp Y e) n f1 f2 s1 s2) (bn : B ≠ []) (bl : ∀ i ∈ B, i < n) (cb : Cov X (bt Y e) B n) (Q : OV → Env → Prop) (E : Int → Prop)
    (h : ∀ a1 a2, NewS X (bt Y e) (tp Y e) n s1 s2 a1 a2 → ∀ t1 t2 t3, Q (.fro .non) [.rf (FitO X Y e n T B fl (.tup [cr X (bt Y e) a1, cr X (tp Y e) a2])), t1, t2, t3]) :
    F_Fitter_lower_steep [.rf (FitO X Y e n T B fl (.tup [cr X (bt Y e) s1, cr X (tp Y e) s2])), .ow (.fro (cr X (tp Y e) n))] Q E := by
  refine F_Fitter_lower_steep.mk ?_
  unfold FitO at *
  obtain ⟨a3, a4⟩ := w.hs
  have x3 := hb.x s1 (by omega)
  have x4 := hb.x s2 (by omega)
  have x5 := hb.x n (by omega)
  have y3 := hb.y s1 (by omega)
  have y4 := hb.y s2 (by omega)
  have y5 := hb.y n (by omega)
  have e0 := hb.e0
  have e1 := hb.e1
  have lB : (B.map (cr X (bt Y e))).length = B.length := by simp
  have lB0 : 0 < B.length := List.length_pos_iff.mpr bn
  have gB : ∀ i, i < B.length → B.getD i 0 ∈ B := fun i hi => by
    rw [List.getD_eq_getElem?_getD, List.getElem?_eq_getElem hi]
    exact List.getElem_mem hi
  walk_at "go"
  refine mndn (fun c => ?_) fun c => ?_
  · walk_at "go"
    exact h s1 s2 (.inl ⟨rfl, rfl, c⟩) _ _ _
  · walk_at "go"
    refine atT (cr X (bt Y e)) 0 (by omega) (by omega) ?_
    walk_at "go"
    have x0 : ∀ i, i < n → X i < X n := fun i hi => hsp.asc i n hi (by omega)
    refine for_inv (fun i en => ∃ (c : Nat) (s3 : Slot), en = [.bo (FitO X Y e n T B fl (.tup [cr X (bt Y e) s1, cr X (tp Y e) s2])), .ow (.fro (cr X (tp Y e) n)), .ow (.fro (cr X (bt Y e) c)), s3] ∧ c < n ∧ (∀ k, k < i → k < B.length → FLe (up X (bt Y e) (tp Y e) c n) (up X (bt Y e) (tp Y e) (B.getD k 0) n)) ∧ (s3 = .un ∨ ∃ z, s3 = .ow z)) ⟨_, _, rfl, bl _ (gB _ lB0), fun k hk => by omega, .inl rfl⟩ ?_ ?_
    · rintro en ⟨a, s3, rfl, ha, hmin, hs3⟩
      rw [List.length_map] at hmin
      have key : NewS X (bt Y e) (tp Y e) n s1 s2 a n := by
        refine .inr ⟨rfl, ha, cb.least x0 ha fun d hd _ => ?_, fle_of_not c⟩
        obtain ⟨k, hk⟩ := List.mem_iff_getElem?.mp hd
        have hkl := (List.getElem?_eq_some_iff.mp hk).1
        have := hmin k hkl hkl
        rwa [List.getD_eq_getElem?_getD, hk] at this
      rcases hs3 with rfl | ⟨z, rfl⟩
      · refine ⟨⟨rfl, rfl, trivial⟩, ?_⟩
        unfold FitO
        walk_at "go"
        exact h a n key _ _ _
      · refine ⟨⟨rfl, rfl, trivial⟩, ?_⟩
        unfold FitO
        walk_at "go"
        exact h a n key _ _ _
    · rintro i m en hi ⟨a, s3, rfl, ha, hmin, hs3⟩ N hN
      obtain ⟨hi1, rfl⟩ := getT 0 hi
      have hd := bl _ (gB i hi1)
      have x1 := hb.x a (by omega)
      have y1 := hb.y a (by omega)
      have x2 := hb.x _ (show B.getD i 0 < n + 1 by omega)
      have y2 := hb.y _ (show B.getD i 0 < n + 1 by omega)
      unfold FitO
      rcases hs3 with rfl | ⟨z, rfl⟩
      all_goals
        walk_at "go"
        refine if_go ?_
        walk_at "go"
        refine mdn (fun g => ?_) fun g => ?_
        · walk_at "go"
          refine hN _ ⟨B.getD i 0, _, rfl, hd, fun k hk hkl => ?_, .inr ⟨_, rfl⟩⟩
          by_cases z : k = i
          · subst z; exact fle_refl _
          · have q := hmin k (by omega) hkl
            have := x0 _ hd
            have := x0 _ ha
            have := x0 _ (bl _ (gB k hkl))
            exact fle_trans (b := up X (bt Y e) (tp Y e) a n) (by show 0 < X n - X _; omega) (by show 0 < X n - X _; omega) (by show 0 < X n - X _; omega) (fle_of_not g) q
        · walk_at "go"
          refine hN _ ⟨a, _, rfl, ha, fun k hk hkl => ?_, .inr ⟨_, rfl⟩⟩
          by_cases z : k = i
          · subst z; exact g
          · exact hmin k (by omega) hkl
theorem w_raise (hb : Bd X Y e (n + 1)) (hn : 2 ≤ n) (hsp : Sp X (bt Y e) (tp Y e) (n + 1)) (w : Wedge X (bt Y e) (tp Y e) n f1 f2 s1 s2) (bn : T ≠ []) (bl : ∀ i ∈ T, i < n) (cb : Cov X (fun i => -(tp Y e i)) T n) (Q : OV → Env → Prop) (E : Int → Prop)
    (h : ∀ a1 a2, NewF X (bt Y e) (tp Y e) n f1 f2 a1 a2 → ∀ t1 t2 t3, Q (.fro .non) [.rf (FitO X Y e n T B (.tup [cr X (tp Y e) a1, cr X (bt Y e) a2]) st), t1, t2, t3]) :
    F_Fitter_raise_flat [.rf (FitO X Y e n T B (.tup [cr X (tp Y e) f1, cr X (bt Y e) f2]) st), .ow (.fro (cr X (bt Y e) n))] Q E := by
  refine F_Fitter_raise_flat.mk ?_
  unfold FitO at *
  obtain ⟨a3, a4⟩ := w.hf
  have x3 := hb.x f1 (by omega)
  have x4 := hb.x f2 (by omega)
  have x5 := hb.x n (by omega)
  have y3 := hb.y f1 (by omega)
  have y4 := hb.y f2 (by omega)
  have y5 := hb.y n (by omega)
  have e0 := hb.e0
  have e1 := hb.e1
  have lT : (T.map (cr X (tp Y e))).length = T.length := by simp
  have lT0 : 0 < T.length := List.length_pos_iff.mpr bn
  have gT : ∀ i, i < T.length → T.getD i 0 ∈ T := fun i hi => by
    rw [List.getD_eq_getElem?_getD, List.getElem?_eq_getElem hi]
    exact List.getElem_mem hi
  walk_at "go"
  refine mndn (fun c => ?_) fun c => ?_
  · walk_at "go"
    exact h f1 f2 (.inl ⟨rfl, rfl, c⟩) _ _ _
  · walk_at "go"
    refine atT (cr X (tp Y e)) 0 (by omega) (by omega) ?_
    walk_at "go"
    have x0 : ∀ i, i < n → X i < X n := fun i hi => hsp.asc i n hi (by omega)
    refine for_inv (fun i en => ∃ (c : Nat) (s3 : Slot), en = [.bo (FitO X Y e n T B (.tup [cr X (tp Y e) f1, cr X (bt Y e) f2]) st), .ow (.fro (cr X (bt Y e) n)), .ow (.fro (cr X (tp Y e) c)), s3] ∧ c < n ∧ (∀ k, k < i → k < T.length → FLe (lo X (bt Y e) (tp Y e) (T.getD k 0) n) (lo X (bt Y e) (tp Y e) c n)) ∧ (s3 = .un ∨ ∃ z, s3 = .ow z)) ⟨_, _, rfl, bl _ (gT _ lT0), fun k hk => by omega, .inl rfl⟩ ?_ ?_
    · rintro en ⟨a, s3, rfl, ha, hmin, hs3⟩
      rw [List.length_map] at hmin
      have key : NewF X (bt Y e) (tp Y e) n f1 f2 a n := by
        refine .inr ⟨rfl, ha, fun k hk => fle_neg.mpr (cb.least x0 ha (fun d hd _ => fle_neg.mp ?_) k hk), fle_of_not c⟩
        obtain ⟨k, hk⟩ := List.mem_iff_getElem?.mp hd
        have hkl := (List.getElem?_eq_some_iff.mp hk).1
        have := hmin k hkl hkl
        rwa [List.getD_eq_getElem?_getD, hk] at this
      rcases hs3 with rfl | ⟨z, rfl⟩
      · refine ⟨⟨rfl, rfl, trivial⟩, ?_⟩
        unfold FitO
        walk_at "go"
        exact h a n key _ _ _
      · refine ⟨⟨rfl, rfl, trivial⟩, ?_⟩
        unfold FitO
        walk_at "go"
        exact h a n key _ _ _
    · rintro i m en hi ⟨a, s3, rfl, ha, hmin, hs3⟩ N hN
      obtain ⟨hi1, rfl⟩ := getT 0 hi
      have hd := bl _ (gT i hi1)
      have x1 := hb.x a (by omega)
      have y1 := hb.y a (by omega)
      have x2 := hb.x _ (show T.getD i 0 < n + 1 by omega)
      have y2 := hb.y _ (show T.getD i 0 < n + 1 by omega)
      unfold FitO
      rcases hs3 with rfl | ⟨z, rfl⟩
      all_goals
        walk_at "go"
        refine if_go ?_
        walk_at "go"
        refine mdn (fun g => ?_) fun g => ?_
        · walk_at "go"
          refine hN _ ⟨T.getD i 0, _, rfl, hd, fun k hk hkl => ?_, .inr ⟨_, rfl⟩⟩
          by_cases z : k = i
          · subst z; exact fle_refl _
          · have q := hmin k (by omega) hkl
            have := x0 _ hd
            have := x0 _ ha
            have := x0 _ (bl _ (gT k hkl))
            exact fle_trans (b := lo X (bt Y e) (tp Y e) a n) (by show 0 < X n - X _; omega) (by show 0 < X n - X _; omega) (by show 0 < X n - X _; omega) q (fle_of_not g)
        · walk_at "go"
          refine hN _ ⟨a, _, rfl, ha, fun k hk hkl => ?_, .inr ⟨_, rfl⟩⟩
          by_cases z : k = i
          · subst z; exact g
          · exact hmin k (by omega) hkl
end

local macro_rules | `(tactic| walk_at "call") => `(tactic| (first | refine atT (cr _ _) 0 (by omega) (by omega) ?_ | refine atTN (cr _ _) 0 (by omega) (by omega) ?_ | refine w_turn (by (try dsimp only [bt, tp]); omega) (by (try dsimp only [bt, tp]); omega) (by (try dsimp only [bt, tp]); omega) (by (try dsimp only [bt, tp]); omega) (by (try dsimp only [bt, tp]); omega) (by (try dsimp only [bt, tp]); omega) _ _ (fun _ => ?_) | fail))
section
variable {X Y : Nat → Int} {e : Int} {n f1 f2 s1 s2 : Nat} {T B : List Nat} {fl st : MV}
theorem map_snoc {α β : Type} (f : α → β) (l : List α) (a : α) : l.map f ++ [f a] = (l ++ [a]).map f := by simp
/-- the last two corners -/
theorem last_two {T : List Nat} (h : 2 ≤ T.length) : ∃ H a m, T = H ++ [a] ++ [m] ∧ T.getD (T.length - 2) 0 = a ∧ T.getD (T.length - 1) 0 = m := by
  refine ⟨T.take (T.length - 2), T.getD (T.length - 2) 0, T.getD (T.length - 1) 0, ?_, rfl, rfl⟩
  apply List.ext_getElem?
  intro k
  rw [List.getD_eq_getElem?_getD, List.getD_eq_getElem?_getD, List.getElem?_eq_getElem (show T.length - 2 < T.length by omega), List.getElem?_eq_getElem (show T.length - 1 < T.length by omega)]
  dsimp only [Option.getD_some]
  by_cases h1 : k < T.length - 2
  · rw [List.getElem?_append_left (by simp; omega), List.getElem?_append_left (by simp; omega), List.getElem?_take, if_pos h1]
  · by_cases h2 : k = T.length - 2
    · subst h2
      rw [List.getElem?_append_left (by simp; omega), List.getElem?_append_right (by simp)]
      simp [show T.length - 2 < T.length by omega]
    · by_cases h3 : k = T.length - 1
      · subst h3
        rw [List.getElem?_append_right (by simp; omega)]
        have : T.length - 1 - (List.take (T.length - 2) T ++ [T[T.length - 2]]).length = 0 := by simp; omega
        rw [this]
        simp [show T.length - 1 < T.length by omega]
      · rw [List.getElem?_eq_none (by omega), List.getElem?_eq_none (by simp; omega)]
theorem dropLast_snoc {α : Type} (l : List α) (a : α) : (l ++ [a]).dropLast = l := List.dropLast_concat
/-- popping goes on -/
theorem pop_turn {b : Nat → Int} {T : List Nat} (asc : ∀ i j, i < j → j < n + 1 → X i < X j) (h2 : 2 ≤ T.length) (tl : T.Pairwise (· < ·) ∧ ∀ i ∈ T, i < n) (ct : Cov X b (T ++ [n]) (n + 1))
    (ht : 0 ≤ (X (T.getD (T.length - 1) 0) - X (T.getD (T.length - 2) 0)) * (b n - b (T.getD (T.length - 2) 0)) - (b (T.getD (T.length - 1) 0) - b (T.getD (T.length - 2) 0)) * (X n - X (T.getD (T.length - 2) 0))) :
    T.dropLast ≠ [] ∧ T.dropLast.length + 1 = T.length ∧ (T.dropLast.Pairwise (· < ·) ∧ ∀ i ∈ T.dropLast, i < n) ∧ Cov X b (T.dropLast ++ [n]) (n + 1) := by
  obtain ⟨H, a, m, e, e1, e2⟩ := last_two h2
  rw [e1, e2] at ht
  subst e
  rw [dropLast_snoc]
  obtain ⟨p1, p2⟩ := tl
  have q := List.pairwise_append.mp p1
  have ham : a < m := q.2.2 a (by simp) m (by simp)
  exact ⟨by simp, by simp, ⟨q.1, fun i hi => p2 i (by simp only [List.mem_append] at hi ⊢; exact .inl hi)⟩, ct.pop asc ham (p2 m (by simp)) ht⟩
/-- the corners behind a new point -/
def Corn (X b : Nat → Int) (n : Nat) (T : List Nat) : Prop := T ≠ [] ∧ (T.Pairwise (· < ·) ∧ ∀ i ∈ T, i < n + 1) ∧ Cov X b T (n + 1) ∧ (n = 0 → T = [0])
theorem corn_of {b : Nat → Int} {T : List Nat} (tl : T.Pairwise (· < ·) ∧ ∀ i ∈ T, i < n) (ct : Cov X b (T ++ [n]) (n + 1)) : Corn X b n (T ++ [n]) := by
  refine ⟨by simp, ⟨List.pairwise_append.mpr ⟨tl.1, List.pairwise_singleton _ _, fun a ha c hc => ?_⟩, fun i hi => ?_⟩, ct, fun z => ?_⟩
  · have : c = n := by simpa using hc
    subst this
    exact tl.2 a ha
  · rcases List.mem_append.mp hi with q | q
    · have := tl.2 i q; omega
    · have : i = n := by simpa using q
      omega
  · subst z
    have : T = [] := by
      cases T with
      | nil => rfl
      | cons x xs => have := tl.2 x (by simp); omega
    rw [this]; rfl
theorem getT_bd (hb : Bd X Y e (n + 1)) {T : List Nat} (tl : ∀ i ∈ T, i < n) {k : Nat} (hk : k < T.length) : (-(2 ^ 60) < X (T.getD k 0) ∧ X (T.getD k 0) < 2 ^ 60) ∧ (-(2 ^ 60) < Y (T.getD k 0) ∧ Y (T.getD k 0) < 2 ^ 60) := by
  have : T.getD k 0 ∈ T := by
    rw [List.getD_eq_getElem?_getD, List.getElem?_eq_getElem hk]
    exact List.getElem_mem hk
  have := tl _ this
  exact ⟨hb.x _ (by omega), hb.y _ (by omega)⟩
theorem w_corners (hb : Bd X Y e (n + 1)) (hn : n < 3000) (asc : ∀ i j, i < j → j < n + 1 → X i < X j) (hT : T.length < 3000) (hB : B.length < 3000) (tl : T.Pairwise (· < ·) ∧ ∀ i ∈ T, i < n) (bl : B.Pairwise (· < ·) ∧ ∀ i ∈ B, i < n) (ct : Cov X (fun i => -(tp Y e i)) T n) (cb : Cov X (bt Y e) B n) (Q : OV → Env → Prop) (E : Int → Prop)
    (h : ∀ T' B', Corn X (fun i => -(tp Y e i)) n T' → Corn X (bt Y e) n B' → T'.length ≤ T.length + 1 → B'.length ≤ B.length + 1 → ∀ t1 t2, Q (.fro .non) [.rf (FitO X Y e n T' B' fl st), t1, t2]) :
    F_Fitter_add_corners [.rf (FitO X Y e n T B fl st), .ow (.fro (cr X (tp Y e) n)), .ow (.fro (cr X (bt Y e) n))] Q E := by
  refine F_Fitter_add_corners.mk ?_
  unfold FitO at *
  have x5 := hb.x n (by omega)
  have y5 := hb.y n (by omega)
  have e0 := hb.e0
  have ee1 := hb.e1
  walk_at "go"
  refine while_inv (fun k en => ∃ T1 ms : List _, en = [.rf (.obj 0 [.fro (.int e), .fro (.int n), .lst ((List.range n).map fun i => prM (X i, Y i)), .lst ms, .lst (B.map (cr X (bt Y e))), .fro fl, .fro st]), .ow (.fro (cr X (tp Y e) n)), .ow (.fro (cr X (bt Y e) n))] ∧ ms = T1.map (cr X (tp Y e)) ∧ k = T1.length ∧ T1.length ≤ T.length ∧ (T1.Pairwise (· < ·) ∧ ∀ i ∈ T1, i < n) ∧ Cov X (fun i => -(tp Y e i)) (T1 ++ [n]) (n + 1)) T.length ⟨T, _, rfl, rfl, rfl, Nat.le_refl _, tl, ct.add⟩ ?_
  rintro k en ⟨T1, ms, rfl, rfl, rfl, hl, tl1, ct1⟩ N hN
  have lT1 : (T1.map (cr X (tp Y e))).length = T1.length := by simp
  have pop : ∀ {α : Type} (f : Nat → α) (T : List Nat), (T.map f).dropLast = T.dropLast.map f := fun f T => by simp [List.dropLast_eq_take, List.map_take]
  have last : ∀ {α : Type} (f : Nat → α) (T : List Nat), 0 < T.length → ∃ z, (T.map f).getLast? = some z := fun f T h => by
    cases q : (T.map f).getLast? with
    | none => rw [List.getLast?_eq_none_iff] at q; have := congrArg List.length q; simp at this; subst this; simp at h
    | some z => exact ⟨z, rfl⟩
  have stage2 : ∀ T' : List Nat, Corn X (fun i => -(tp Y e i)) n T' → T'.length ≤ T.length + 1 → ∀ en, en = [.rf (.obj 0 [.fro (.int e), .fro (.int n), .lst ((List.range n).map fun i => prM (X i, Y i)), .lst (T'.map (cr X (tp Y e))), .lst (B.map (cr X (bt Y e))), .fro fl, .fro st]), .ow (.fro (cr X (tp Y e) n)), .ow (.fro (cr X (bt Y e) n))] → ∀ k : KK, (∀ e', Q (.fro .non) e' → k.nx e') →
      ∃ m, whileN (tAnd (tCmp gGt (qE (e1 gLenV (qPl 0 [4]))) (qE (eK (.int 1)))) (tCmp gGe (qE (eFrz (nCall 3 F_turn (aV (eBin gIx (qPl 0 [4]) (qE (eNeg (qE (eK (.int 2)))))) (aV (eBin gIx (qPl 0 [4]) (qE (eNeg (qE (eK (.int 1)))))) (aV (eQ (qPl 2 [])) aN)))))) (qE (eK (.int 0))))) (drop (xPop 0 [4])) m en { k with nx := fun env' => forceL env' fun e => drop (xApp 0 [4] (eQ (qPl 2 []))) e k } := by
    rintro T' hT' hlT en rfl k hk
    refine while_inv (fun k en => ∃ B1 ms : List _, en = [.rf (.obj 0 [.fro (.int e), .fro (.int n), .lst ((List.range n).map fun i => prM (X i, Y i)), .lst (T'.map (cr X (tp Y e))), .lst ms, .fro fl, .fro st]), .ow (.fro (cr X (tp Y e) n)), .ow (.fro (cr X (bt Y e) n))] ∧ ms = B1.map (cr X (bt Y e)) ∧ k = B1.length ∧ B1.length ≤ B.length ∧ (B1.Pairwise (· < ·) ∧ ∀ i ∈ B1, i < n) ∧ Cov X (bt Y e) (B1 ++ [n]) (n + 1)) B.length ⟨B, _, rfl, rfl, rfl, Nat.le_refl _, bl, cb.add⟩ ?_
    rintro k2 en ⟨B1, ms, rfl, rfl, rfl, hl, bl1, cb1⟩ N hN
    have lB1 : (B1.map (cr X (bt Y e))).length = B1.length := by simp
    have fin : k.nx [.rf (.obj 0 [.fro (.int e), .fro (.int n), .lst ((List.range n).map fun i => prM (X i, Y i)), .lst (T'.map (cr X (tp Y e))), .lst (B1.map (cr X (bt Y e)) ++ [cr X (bt Y e) n]), .fro fl, .fro st]), .ow (.fro (cr X (tp Y e) n)), .ow (.fro (cr X (bt Y e) n))] := by
      have := h T' (B1 ++ [n]) hT' (corn_of bl1 cb1) hlT (by simp; omega) (.ow (.fro (cr X (tp Y e) n))) (.ow (.fro (cr X (bt Y e) n)))
      rw [← map_snoc] at this
      exact hk _ this
    walk_at "go"
    refine mdec (fun c => ?_) fun c => ?_
    · have b1 := getT_bd hb bl1.2 (show B1.length - 1 < B1.length by omega)
      have b2 := getT_bd hb bl1.2 (show B1.length - 2 < B1.length by omega)
      have i1 : ((-2 : Int) + B1.length).toNat = B1.length - 2 := by omega
      have i2 : ((-1 : Int) + B1.length).toNat = B1.length - 1 := by omega
      walk_at "ev"
      refine atTN (cr _ _) 0 (by omega) (by omega) ?_
      rw [i1]
      walk_at "ev"
      refine atTN (cr _ _) 0 (by omega) (by omega) ?_
      rw [i2]
      walk_at "go"
      refine mdec (fun d => ?_) fun d => ?_
      · obtain ⟨q1, q2, q3, q4⟩ := pop_turn asc (by omega) bl1 cb1 d
        obtain ⟨z, hz⟩ := last (cr X (bt Y e)) B1 (by omega)
        walk_at "go"
        rw [hz]
        walk_at "go"
        exact hN (B1.dropLast.length) _ (by omega) ⟨B1.dropLast, _, rfl, pop _ _, rfl, by omega, q3, q4⟩
      · walk_at "go"
        exact fin
    · walk_at "go"
      exact fin
  walk_at "go"
  refine mdec (fun c => ?_) fun c => ?_
  · have b1 := getT_bd hb tl1.2 (show T1.length - 1 < T1.length by omega)
    have b2 := getT_bd hb tl1.2 (show T1.length - 2 < T1.length by omega)
    have i1 : ((-2 : Int) + T1.length).toNat = T1.length - 2 := by omega
    have i2 : ((-1 : Int) + T1.length).toNat = T1.length - 1 := by omega
    walk_at "ev"
    refine atTN (cr _ _) 0 (by omega) (by omega) ?_
    rw [i1]
    walk_at "ev"
    refine atTN (cr _ _) 0 (by omega) (by omega) ?_
    rw [i2]
    walk_at "go"
    refine mdec (fun d => ?_) fun d => ?_
    · obtain ⟨q1, q2, q3, q4⟩ := pop_turn (b := fun i => -(tp Y e i)) asc (by omega) tl1 ct1 (sub_le _ (by grind) (le_sub0 d))
      obtain ⟨z, hz⟩ := last (cr X (tp Y e)) T1 (by omega)
      walk_at "go"
      rw [hz]
      walk_at "go"
      exact hN (T1.dropLast.length) _ (by omega) ⟨T1.dropLast, _, rfl, pop _ _, rfl, by omega, q3, q4⟩
    · walk_at "go"
      refine stage2 (T1 ++ [n]) (corn_of tl1 ct1) (by simp; omega) _ (by rw [← map_snoc]; try rfl) ⟨fun e => Q (.fro .non) e, Q, fun _ => False, fun _ => False, E⟩ (fun _ z => z)
  · walk_at "go"
    refine stage2 (T1 ++ [n]) (corn_of tl1 ct1) (by simp; omega) _ (by rw [← map_snoc]; try rfl) ⟨fun e => Q (.fro .non) e, Q, fun _ => False, fun _ => False, E⟩ (fun _ z => z)
end

section
variable {X Y : Nat → Int} {e : Int} {n f1 f2 s1 s2 : Nat} {T B : List Nat} {fl st : MV}
theorem w_fit_init (X Y : Nat → Int) (e : Int) (Q : OV → Env → Prop) (E : Int → Prop) (h : ∀ t, Q (.fro .non) [.rf (FitO X Y e 0 [] [] (.tup []) (.tup [])), t]) : F_Fitter_init__ [.rf (.obj 0 []), .ow (.fro (.int e))] Q E := by
  refine F_Fitter_init__.mk ?_
  walk_at "go"
  exact h _
theorem FitS.zero (X Y : Nat → Int) (e : Int) (fl st : MV) : FitS X Y e 0 [] [] fl st :=
  ⟨⟨fun i j a c => by omega, fun i a => by omega⟩, fun h => by omega, fun _ => ⟨rfl, rfl⟩, fun h => by omega, ⟨by simp, by simp⟩, ⟨List.Pairwise.nil, by simp⟩, ⟨List.Pairwise.nil, by simp⟩, fun k hk => by omega, fun k hk => by omega, fun h => by omega⟩
theorem FitS.next {fl' st' : MV} (h : FitS X Y e n T B fl st) (hsp : Sp X (bt Y e) (tp Y e) (n + 1)) {T' B' : List Nat} (hT : Corn X (fun i => -(tp Y e i)) n T') (hB : Corn X (bt Y e) n B') (l1 : T'.length ≤ T.length + 1) (l2 : B'.length ≤ B.length + 1)
    (w : 2 ≤ n + 1 → ∃ f1 f2 s1 s2, fl' = .tup [cr X (tp Y e) f1, cr X (bt Y e) f2] ∧ st' = .tup [cr X (bt Y e) s1, cr X (tp Y e) s2] ∧ Wedge X (bt Y e) (tp Y e) (n + 1) f1 f2 s1 s2) : FitS X Y e (n + 1) T' B' fl' st' := by
  obtain ⟨a1, a2, a3, a4⟩ := hT
  obtain ⟨b1, b2, b3, b4⟩ := hB
  have := h.ln
  exact ⟨hsp, fun z => ⟨a4 (by omega), b4 (by omega)⟩, fun z => by omega, fun _ => ⟨a1, b1⟩, ⟨by omega, by omega⟩, a2, b2, a3, b3, w⟩
theorem meets_few {X b t : Nat → Int} (h : n ≤ 2) : Meets X b t 0 n := fun i j k _ a c d => by omega
theorem w_add (hb : Bd X Y e (n + 1)) (hn : n < 2900) (asc : ∀ i j, i < j → j < n + 1 → X i < X j) (hS : FitS X Y e n T B fl st) (Q : OV → Env → Prop) (E : Int → Prop)
    (h1 : Meets X (bt Y e) (tp Y e) 0 (n + 1) → ∀ T' B' fl' st', FitS X Y e (n + 1) T' B' fl' st' → ∀ t1 t2 t3, Q (.fro (.bl true)) [.rf (FitO X Y e (n + 1) T' B' fl' st'), t1, t2, t3])
    (h2 : ¬ Meets X (bt Y e) (tp Y e) 0 (n + 1) → ∀ t1 t2 t3, Q (.fro (.bl false)) [.rf (FitO X Y e n T B fl st), t1, t2, t3]) :
    F_Fitter_add [.rf (FitO X Y e n T B fl st), .ow (.fro (prM (X n, Y n)))] Q E := by
  refine F_Fitter_add.mk ?_
  have e0 := hb.e0
  have hln := hS.ln
  have hsp : Sp X (bt Y e) (tp Y e) (n + 1) := ⟨asc, fun i _ => by show Y i - e ≤ Y i + e; omega⟩
  have rng : (List.range n).map (fun i => prM (X i, Y i)) ++ [prM (X n, Y n)] = (List.range (n + 1)).map fun i => prM (X i, Y i) := by rw [List.range_succ, List.map_append]; rfl
  have lr : ((List.range n).map fun i => prM (X i, Y i)).length = n := by simp
  by_cases hn2 : n < 2
  · unfold FitO
    walk_at "go"
    refine w_conflict0 (X := X) (Y := Y) (T := T) (B := B) hn2 _ _ _ fun _ => ?_
    have fin : ∀ {fl' st' : MV} {T' B' : List Nat}, FitS X Y e (n + 1) T' B' fl' st' → ∀ t1 t2 t3, Q (.fro (.bl true)) [.rf (.obj 0 [.fro (.int e), .fro (.int ((n : Int) + 1)), .lst ((List.range n).map (fun i => prM (X i, Y i)) ++ [prM (X n, Y n)]), .lst (T'.map (cr X (tp Y e))), .lst (B'.map (cr X (bt Y e))), .fro fl', .fro st']), t1, t2, t3] := fun hf t1 t2 t3 => by
      have := h1 (meets_few (by omega)) _ _ _ _ hf t1 t2 t3
      unfold FitO at this
      rw [← rng] at this
      exact this
    by_cases hn1 : n = 1
    · obtain ⟨rfl, rfl⟩ := hS.t1 hn1
      walk_at "go"
      refine if_go ?_
      walk_at "go"
      refine w_corners (X := X) (Y := Y) (T := [0]) (B := [0]) hb (by omega) asc (by simp) (by simp) hS.tl hS.bl hS.ct hS.cb _ _ fun T' B' hT' hB' l1 l2 t1 t2 => ?_
      unfold FitO
      walk_at "go"
      refine fin (hS.next hsp hT' hB' l1 l2 fun _ => ?_) _ _ _
      subst hn1
      exact ⟨0, 1, 0, 1, rfl, rfl, Wedge.start hsp⟩
    · have hn0 : n = 0 := by omega
      walk_at "go"
      refine if_go ?_
      walk_at "go"
      refine if_go ?_
      walk_at "go"
      refine w_corners (X := X) (Y := Y) hb (by omega) asc (by omega) (by omega) hS.tl hS.bl hS.ct hS.cb _ _ fun T' B' hT' hB' l1 l2 t1 t2 => ?_
      unfold FitO
      walk_at "go"
      refine fin (hS.next hsp hT' hB' l1 l2 fun _ => by omega) _ _ _
  · obtain ⟨f1, f2, s1, s2, rfl, rfl, w⟩ := hS.w (by omega)
    have ne := hS.tn (by omega)
    unfold FitO
    walk_at "go"
    refine w_conflict2 (X := X) (Y := Y) (T := T) (B := B) hb (by omega) w _ _ (fun c => fun _ => ?_) (fun c d => fun _ => ?_) (fun c d => fun _ => ?_)
    · walk_at "go"
      exact h2 (fun z => conflict_f w c (z f1 f2 n (by omega) w.hf.1 w.hf.2 (by omega))) _ _ _
    · walk_at "go"
      exact h2 (fun z => conflict_s w d (z s1 s2 n (by omega) w.hs.1 w.hs.2 (by omega))) _ _ _
    · walk_at "go"
      refine if_go ?_
      walk_at "go"
      refine if_go ?_
      walk_at "go"
      refine w_lower (X := X) (Y := Y) (T := T) (B := B) hb (by omega) hsp w ne.2 hS.bl.2 hS.cb _ _ fun a1 a2 ha _ _ _ => ?_
      unfold FitO
      walk_at "go"
      refine w_raise (X := X) (Y := Y) (T := T) (B := B) hb (by omega) hsp w ne.1 hS.tl.2 hS.ct _ _ fun c1 c2 hc _ _ _ => ?_
      have w2 := w.step hsp d c hc ha
      unfold FitO
      walk_at "go"
      refine w_corners (X := X) (Y := Y) hb (by omega) asc (by omega) (by omega) hS.tl hS.bl hS.ct hS.cb _ _ fun T' B' hT' hB' l1 l2 t1 t2 => ?_
      unfold FitO
      walk_at "go"
      have := h1 (w2.meets hsp) _ _ _ _ (hS.next hsp hT' hB' l1 l2 fun _ => ⟨_, _, _, _, rfl, rfl, w2⟩)
      unfold FitO at this
      rw [← rng] at this
      exact this _ _ _
end

section
variable {X Y : Nat → Int} {e : Int} {n f1 f2 s1 s2 : Nat} {T B : List Nat} {fl st : MV}
/-- a line that fits the first n points -/
structure LineOk (X Y : Nat → Int) (e : Int) (n : Nat) (p q d : Int) : Prop where
  d0 : 0 < d
  bp : p.natAbs < 2 ^ 100
  bq : q.natAbs < 2 ^ 200
  bd : d < 2 ^ 100
  near : ∀ i, i < n → ((p * X i + q - Y i * d).natAbs : Int) ≤ e * d
  up : (∀ i, i + 1 < n → Y i < Y (i + 1)) → 0 ≤ p
  z : n = 0 → p = 0 ∧ q = 0 ∧ d = 1
theorem natAbs_mul_lt {a b : Int} {k l : Nat} (ha : a.natAbs < 2 ^ k) (hb : b.natAbs < 2 ^ l) : (a * b).natAbs < 2 ^ (k + l) := by
  rw [Int.natAbs_mul, Nat.pow_add]
  exact Nat.mul_lt_mul'' ha hb
/-- the lowest line with a slope between the bounds fits -/
theorem lineOk_of (hb : Bd X Y e n) (hn : 0 < n) (hsp : Sp X (bt Y e) (tp Y e) n) {p d : Int} (hd : 0 < d) (bp : p.natAbs < 2 ^ 100) (bd : d < 2 ^ 100) (hbt : Between X (bt Y e) (tp Y e) n p d) (hup : (∀ i, i + 1 < n → Y i < Y (i + 1)) → 0 ≤ p) :
    LineOk X Y e n p (lineQ X (fun i => Y i - e) n p d) d := by
  obtain ⟨q1, q2⟩ := lineQ_out (X := X) (b := fun i => Y i - e) hn p d
  have hm := line_meets hsp hd hbt q1 q2
  refine ⟨hd, bp, ?_, bd, fun i hi => ?_, hup, fun z => by omega⟩
  · obtain ⟨j, hj, ej⟩ := q1
    rw [ej]
    have a1 := hb.x j hj
    have a2 := hb.y j hj
    have a3 := hb.e0
    have a4 := hb.e1
    have m1 := natAbs_mul_lt (a := Y j - e) (b := d) (k := 62) (l := 100) (by omega) (by omega)
    have m2 := natAbs_mul_lt (a := p) (b := X j) (k := 100) (l := 60) bp (by omega)
    omega
  · obtain ⟨h1, h2⟩ := hm i hi
    have e1 : (Y i - e) * d = Y i * d - e * d := Int.sub_mul _ _ _
    have e2 : (Y i + e) * d = Y i * d + e * d := Int.add_mul _ _ _
    dsimp only [bt, tp] at h1 h2
    omega
theorem asc_all (h : ∀ i, i + 1 < n → Y i < Y (i + 1)) : ∀ j i, i < j → j < n → Y i < Y j
  | 0, i, a, _ => by omega
  | j + 1, i, a, c => by
    have := h j c
    by_cases z : i = j
    · subst z; exact this
    · have := asc_all h j i (by omega) (by omega)
      omega
theorem slope_ok (hb : Bd X Y e n) (hn : 2 ≤ n) (hsp : Sp X (bt Y e) (tp Y e) n) (w : Wedge X (bt Y e) (tp Y e) n f1 f2 s1 s2) : (slopeB (frac (lo X (bt Y e) (tp Y e) f1 f2).1 (lo X (bt Y e) (tp Y e) f1 f2).2) (frac (up X (bt Y e) (tp Y e) s1 s2).1 (up X (bt Y e) (tp Y e) s1 s2).2)).1.natAbs < 2 ^ 90 ∧ (slopeB (frac (lo X (bt Y e) (tp Y e) f1 f2).1 (lo X (bt Y e) (tp Y e) f1 f2).2) (frac (up X (bt Y e) (tp Y e) s1 s2).1 (up X (bt Y e) (tp Y e) s1 s2).2)).2.natAbs < 2 ^ 90 ∧ LineOk X Y e n (slopeB (frac (lo X (bt Y e) (tp Y e) f1 f2).1 (lo X (bt Y e) (tp Y e) f1 f2).2) (frac (up X (bt Y e) (tp Y e) s1 s2).1 (up X (bt Y e) (tp Y e) s1 s2).2)).1 (lineQ X (fun i => Y i - e) n (slopeB (frac (lo X (bt Y e) (tp Y e) f1 f2).1 (lo X (bt Y e) (tp Y e) f1 f2).2) (frac (up X (bt Y e) (tp Y e) s1 s2).1 (up X (bt Y e) (tp Y e) s1 s2).2)).1 (slopeB (frac (lo X (bt Y e) (tp Y e) f1 f2).1 (lo X (bt Y e) (tp Y e) f1 f2).2) (frac (up X (bt Y e) (tp Y e) s1 s2).1 (up X (bt Y e) (tp Y e) s1 s2).2)).2) (slopeB (frac (lo X (bt Y e) (tp Y e) f1 f2).1 (lo X (bt Y e) (tp Y e) f1 f2).2) (frac (up X (bt Y e) (tp Y e) s1 s2).1 (up X (bt Y e) (tp Y e) s1 s2).2)).2 := by
  have e0 := hb.e0
  have e1 := hb.e1
  obtain ⟨a1, a2⟩ := w.hf
  obtain ⟨a3, a4⟩ := w.hs
  have x1 := hb.x f1 (by omega)
  have x2 := hb.x f2 (by omega)
  have x3 := hb.x s1 (by omega)
  have x4 := hb.x s2 (by omega)
  have y1 := hb.y f1 (by omega)
  have y2 := hb.y f2 (by omega)
  have y3 := hb.y s1 (by omega)
  have y4 := hb.y s2 (by omega)
  have bL : (lo X (bt Y e) (tp Y e) f1 f2).1.natAbs < 2 ^ 90 ∧ (lo X (bt Y e) (tp Y e) f1 f2).2.natAbs < 2 ^ 90 := by
    show (Y f2 - e - (Y f1 + e)).natAbs < 2 ^ 90 ∧ (X f2 - X f1).natAbs < 2 ^ 90
    omega
  have bU : (up X (bt Y e) (tp Y e) s1 s2).1.natAbs < 2 ^ 90 ∧ (up X (bt Y e) (tp Y e) s1 s2).2.natAbs < 2 ^ 90 := by
    show (Y s2 + e - (Y s1 - e)).natAbs < 2 ^ 90 ∧ (X s2 - X s1).natAbs < 2 ^ 90
    omega
  clear x1 x2 x3 x4 y1 y2 y3 y4
  have L0 : 0 < (lo X (bt Y e) (tp Y e) f1 f2).2 := hsp.pos a1 (by omega)
  have U0 : 0 < (up X (bt Y e) (tp Y e) s1 s2).2 := hsp.pos a3 (by omega)
  obtain ⟨l1, l2⟩ := frac_le1 (a := (lo X (bt Y e) (tp Y e) f1 f2).1) L0
  obtain ⟨u1, u2⟩ := frac_le1 (a := (up X (bt Y e) (tp Y e) s1 s2).1) U0
  have l3 := frac_pos (a := (lo X (bt Y e) (tp Y e) f1 f2).1) L0
  have u3 := frac_pos (a := (up X (bt Y e) (tp Y e) s1 s2).1) U0
  have l4 := frac_abs1 (a := (lo X (bt Y e) (tp Y e) f1 f2).1) (b := (lo X (bt Y e) (tp Y e) f1 f2).2)
  have u4 := frac_abs1 (a := (up X (bt Y e) (tp Y e) s1 s2).1) (b := (up X (bt Y e) (tp Y e) s1 s2).2)
  have l5 := frac_abs2 (a := (lo X (bt Y e) (tp Y e) f1 f2).1) (b := (lo X (bt Y e) (tp Y e) f1 f2).2)
  have u5 := frac_abs2 (a := (up X (bt Y e) (tp Y e) s1 s2).1) (b := (up X (bt Y e) (tp Y e) s1 s2).2)
  have lu : FLe (frac (lo X (bt Y e) (tp Y e) f1 f2).1 (lo X (bt Y e) (tp Y e) f1 f2).2) (frac (up X (bt Y e) (tp Y e) s1 s2).1 (up X (bt Y e) (tp Y e) s1 s2).2) := fle_trans l3 L0 u3 l2 (fle_trans L0 U0 u3 w.ok u1)
  obtain ⟨q1, q2, q3, q4⟩ := slopeB_out l3 u3 lu
  have bs : (slopeB (frac (lo X (bt Y e) (tp Y e) f1 f2).1 (lo X (bt Y e) (tp Y e) f1 f2).2) (frac (up X (bt Y e) (tp Y e) s1 s2).1 (up X (bt Y e) (tp Y e) s1 s2).2)).1.natAbs < 2 ^ 90 ∧ (slopeB (frac (lo X (bt Y e) (tp Y e) f1 f2).1 (lo X (bt Y e) (tp Y e) f1 f2).2) (frac (up X (bt Y e) (tp Y e) s1 s2).1 (up X (bt Y e) (tp Y e) s1 s2).2)).2.natAbs < 2 ^ 90 := by
    have c1 := Nat.lt_of_le_of_lt l4 bL.1
    have c2 := Nat.lt_of_le_of_lt l5 bL.2
    have c3 := Nat.lt_of_le_of_lt u4 bU.1
    have c4 := Nat.lt_of_le_of_lt u5 bU.2
    clear l4 u4 l5 u5 bL bU
    unfold slopeB
    split
    · exact ⟨c1, c2⟩
    · split
      · exact ⟨c3, c4⟩
      · exact ⟨by decide, by decide⟩
  have u0 : (∀ i, i + 1 < n → Y i < Y (i + 1)) → 0 ≤ (frac (up X (bt Y e) (tp Y e) s1 s2).1 (up X (bt Y e) (tp Y e) s1 s2).2).1 := fun hy => by
    have := asc_all hy s2 s1 a3 a4
    have : 0 ≤ (up X (bt Y e) (tp Y e) s1 s2).1 := by
      show 0 ≤ Y s2 + e - (Y s1 - e)
      omega
    exact Int.ediv_nonneg this (Int.le_of_lt (gcd_pos U0))
  have hbt := w.between hsp (p := (slopeB (frac (lo X (bt Y e) (tp Y e) f1 f2).1 (lo X (bt Y e) (tp Y e) f1 f2).2) (frac (up X (bt Y e) (tp Y e) s1 s2).1 (up X (bt Y e) (tp Y e) s1 s2).2)).1) (d := (slopeB (frac (lo X (bt Y e) (tp Y e) f1 f2).1 (lo X (bt Y e) (tp Y e) f1 f2).2) (frac (up X (bt Y e) (tp Y e) s1 s2).1 (up X (bt Y e) (tp Y e) s1 s2).2)).2) q1 (fle_trans L0 l3 q1 l1 q2) (fle_trans q1 u3 U0 q3 u2)
  clear l4 u4 l5 u5 bL bU
  have hL := lineOk_of hb (by omega) hsp q1 (Nat.lt_of_lt_of_le bs.1 (by decide)) (by have := bs.2; clear bs; omega) hbt fun hy => q4 (u0 hy)
  exact ⟨bs.1, bs.2, hL⟩
theorem w_line (hb : Bd X Y e n) (hn : n < 2900) (hS : FitS X Y e n T B fl st) (Q : OV → Env → Prop) (E : Int → Prop)
    (h : ∀ p q d, LineOk X Y e n p q d → ∀ en, Q (.fro (.tup [.int p, .int q, .int d])) en) : F_Fitter_line [.bo (FitO X Y e n T B fl st)] Q E := by
  refine F_Fitter_line.mk ?_
  have e0 := hb.e0
  have e1 := hb.e1
  have lr : ((List.range n).map fun i => prM (X i, Y i)).length = n := by simp
  by_cases n0 : n = 0
  · unfold FitO
    subst n0
    walk_at "go"
    exact h 0 0 1 ⟨by omega, by decide, by decide, by decide, fun i hi => by omega, fun _ => Int.le_refl _, fun _ => ⟨rfl, rfl, rfl⟩⟩ _
  · by_cases n1 : n = 1
    · unfold FitO
      walk_at "go"
      subst n1
      have y0 := hb.y 0 (by omega)
      refine h 0 (Y 0) 1 ⟨by omega, by decide, by omega, by decide, fun i hi => ?_, fun _ => Int.le_refl _, fun z => by omega⟩ _
      have : i = 0 := by omega
      subst this
      rw [show (0 : Int) * X 0 + Y 0 - Y 0 * 1 = 0 by omega]
      simpa using e0
    · obtain ⟨f1, f2, s1, s2, rfl, rfl, w⟩ := hS.w (by omega)
      have hsp := hS.sp
      obtain ⟨a1, a2⟩ := w.hf
      obtain ⟨a3, a4⟩ := w.hs
      have x1 := hb.x f1 (by omega)
      have x2 := hb.x f2 (by omega)
      have x3 := hb.x s1 (by omega)
      have x4 := hb.x s2 (by omega)
      have y1 := hb.y f1 (by omega)
      have y2 := hb.y f2 (by omega)
      have y3 := hb.y s1 (by omega)
      have y4 := hb.y s2 (by omega)
      have px := hsp.asc f1 f2 a1 a2
      have py := hsp.asc s1 s2 a3 a4
      unfold FitO
      walk_at "go"
      refine w_fraction _ _ (by omega) (by omega) _ _ fun _ => ?_
      walk_at "go"
      refine w_fraction _ _ (by omega) (by omega) _ _ fun _ => ?_
      walk_at "go"
      refine w_slope_between _ _ _ _ fun _ => ?_
      obtain ⟨bs1, bs2, hL⟩ := slope_ok hb (by omega) hsp w
      walk_at "go"
      refine w_line_with_slope X Y e (slopeB (frac (lo X (bt Y e) (tp Y e) f1 f2).1 (lo X (bt Y e) (tp Y e) f1 f2).2) (frac (up X (bt Y e) (tp Y e) s1 s2).1 (up X (bt Y e) (tp Y e) s1 s2).2)).1 (slopeB (frac (lo X (bt Y e) (tp Y e) f1 f2).1 (lo X (bt Y e) (tp Y e) f1 f2).2) (frac (up X (bt Y e) (tp Y e) s1 s2).1 (up X (bt Y e) (tp Y e) s1 s2).2)).2 n (by omega) (by omega) (fun i hi => by have := hb.x i hi; omega) (fun i hi => by have := hb.y i hi; omega) (by omega) (by omega) (by omega) _ (.inl rfl) _ _ fun _ => ?_
      walk_at "go"
      exact h _ _ _ hL _
end

/-! ### other sequences that agree below n -/
section
variable {X Y X' Y' b t b' t' : Nat → Int} {e : Int} {n f1 f2 s1 s2 : Nat} {T B : List Nat} {fl st : MV}
theorem Sp.congr (h : Sp X b t n) (hx : ∀ i, i < n → X i = X' i) (hb : ∀ i, i < n → b i = b' i) (ht : ∀ i, i < n → t i = t' i) : Sp X' b' t' n :=
  ⟨fun i j a c => by rw [← hx i (by omega), ← hx j c]; exact h.asc i j a c, fun i a => by rw [← hb i a, ← ht i a]; exact h.le i a⟩
theorem lo_congr (hx : ∀ i, i < n → X i = X' i) (hb : ∀ i, i < n → b i = b' i) (ht : ∀ i, i < n → t i = t' i) {i j : Nat} (hi : i < n) (hj : j < n) : lo X b t i j = lo X' b' t' i j := by
  unfold lo
  rw [hx i hi, hx j hj, hb j hj, ht i hi]
theorem up_congr (hx : ∀ i, i < n → X i = X' i) (hb : ∀ i, i < n → b i = b' i) (ht : ∀ i, i < n → t i = t' i) {i j : Nat} (hi : i < n) (hj : j < n) : up X b t i j = up X' b' t' i j := by
  unfold up
  rw [hx i hi, hx j hj, hb i hi, ht j hj]
theorem Wedge.congr (w : Wedge X b t n f1 f2 s1 s2) (hx : ∀ i, i < n → X i = X' i) (hb : ∀ i, i < n → b i = b' i) (ht : ∀ i, i < n → t i = t' i) : Wedge X' b' t' n f1 f2 s1 s2 := by
  obtain ⟨a1, a2⟩ := w.hf
  obtain ⟨a3, a4⟩ := w.hs
  have L := fun {i j : Nat} (hi : i < n) (hj : j < n) => lo_congr hx hb ht hi hj
  have U := fun {i j : Nat} (hi : i < n) (hj : j < n) => up_congr hx hb ht hi hj
  refine ⟨w.hf, w.hs, fun i j a c => ?_, fun i j a c => ?_, ?_⟩
  · rw [← L (by omega) c, ← L (by omega) a2]; exact w.fmax i j a c
  · rw [← U (by omega) c, ← U (by omega) a4]; exact w.smin i j a c
  · rw [← L (by omega) a2, ← U (by omega) a4]; exact w.ok
theorem Cov.congr {H : List Nat} (h : Cov X b H n) (hx : ∀ i, i < n → X i = X' i) (hb : ∀ i, i < n → b i = b' i) : Cov X' b' H n := by
  intro k hk x y hxy
  obtain ⟨c, h1, h2, h3⟩ := h k hk x y fun j hj => by rw [hx j hj]; exact hxy j hj
  refine ⟨c, h1, h2, ?_⟩
  rw [← hx k hk, ← hx c h2, ← hb c h2, ← hb k hk]
  exact h3
theorem Meets.congr {a : Nat} (h : Meets X b t a n) (hx : ∀ i, i < n → X i = X' i) (hb : ∀ i, i < n → b i = b' i) (ht : ∀ i, i < n → t i = t' i) : Meets X' b' t' a n := by
  intro i j k h1 h2 h3 h4
  have := h i j k h1 h2 h3 h4
  unfold Meet3 at this ⊢
  rw [← hx i (by omega), ← hx j (by omega), ← hx k h4, ← hb i (by omega), ← hb j (by omega), ← hb k h4, ← ht i (by omega), ← ht j (by omega), ← ht k h4]
  exact this
theorem FitS.congr (h : FitS X Y e n T B fl st) (hx : ∀ i, i < n → X i = X' i) (hy : ∀ i, i < n → Y i = Y' i) : FitS X' Y' e n T B fl st ∧ FitO X Y e n T B fl st = FitO X' Y' e n T B fl st := by
  have hb : ∀ i, i < n → bt Y e i = bt Y' e i := fun i hi => by show Y i - e = Y' i - e; rw [hy i hi]
  have ht : ∀ i, i < n → tp Y e i = tp Y' e i := fun i hi => by show Y i + e = Y' i + e; rw [hy i hi]
  have crt : ∀ i, i < n → cr X (tp Y e) i = cr X' (tp Y' e) i := fun i hi => by unfold cr; rw [hx i hi, ht i hi]
  have crb : ∀ i, i < n → cr X (bt Y e) i = cr X' (bt Y' e) i := fun i hi => by unfold cr; rw [hx i hi, hb i hi]
  refine ⟨⟨h.sp.congr hx hb ht, h.t1, h.t0, h.tn, h.ln, h.tl, h.bl, h.ct.congr hx fun i hi => by show -(tp Y e i) = -(tp Y' e i); rw [ht i hi], h.cb.congr hx hb, fun hn => ?_⟩, ?_⟩
  · obtain ⟨f1, f2, s1, s2, h1, h2, w⟩ := h.w hn
    obtain ⟨a1, a2⟩ := w.hf
    obtain ⟨a3, a4⟩ := w.hs
    exact ⟨f1, f2, s1, s2, by rw [h1, crt _ (by omega), crb _ a2], by rw [h2, crb _ (by omega), crt _ a4], w.congr hx hb ht⟩
  · unfold FitO
    rw [List.map_congr_left fun i hi => crt i (h.tl.2 i hi), List.map_congr_left fun i hi => crb i (h.bl.2 i hi), List.map_congr_left (l := List.range n) fun i hi => (by rw [hx i (List.mem_range.mp hi), hy i (List.mem_range.mp hi)] : prM (X i, Y i) = prM (X' i, Y' i))]
end
/-- the points as sequences -/
abbrev px (P : List (Int × Int)) : Nat → Int := fun i => (pa P i).1
abbrev py (P : List (Int × Int)) : Nat → Int := fun i => (pa P i).2
theorem map_range_pa (P : List (Int × Int)) : (List.range P.length).map (fun i => prM (px P i, py P i)) = P.map prM := by
  apply List.ext_getElem?
  intro k
  rw [List.getElem?_map, List.getElem?_map]
  by_cases h : k < P.length
  · rw [List.getElem?_range h, pa_get h]; rfl
  · rw [List.getElem?_eq_none (by simp; omega), List.getElem?_eq_none (by omega)]; rfl
/-- three points fit, by the middle -/
def Tri3 (e : Int) (a b c : Int × Int) : Prop := ((b.2 * (c.1 - a.1) - a.2 * (c.1 - b.1) - c.2 * (b.1 - a.1)).natAbs : Int) ≤ 2 * e * (c.1 - a.1)
theorem tri_meet (P : List (Int × Int)) (e : Int) (i j k : Nat) : Tri3 e (pa P i) (pa P j) (pa P k) ↔ Meet3 (px P) (bt (py P) e) (tp (py P) e) i j k := by
  unfold Tri3 Meet3 bt tp px py
  generalize pa P i = a
  generalize pa P j = b
  generalize pa P k = c
  have key : ∀ {z w : Int}, (z.natAbs : Int) ≤ w ↔ z ≤ w ∧ -z ≤ w := fun {z w} => by omega
  rw [key]
  constructor
  · rintro ⟨h1, h2⟩
    exact ⟨sub_le _ (by grind) (le_sub0 h2), sub_le _ (by grind) (le_sub0 h1)⟩
  · rintro ⟨h1, h2⟩
    exact ⟨sub_le _ (by grind) (le_sub0 h2), sub_le _ (by grind) (le_sub0 h1)⟩

/-- each three of the points fit -/
def FitsL (P : List (Int × Int)) (e : Int) : Prop := Meets (px P) (bt (py P) e) (tp (py P) e) 0 P.length
structure BdL (P : List (Int × Int)) (e : Int) : Prop where
  x : ∀ i, i < P.length → -(2 ^ 59) < (pa P i).1 ∧ (pa P i).1 < 2 ^ 59
  y : ∀ i, i < P.length → -(2 ^ 59) < (pa P i).2 ∧ (pa P i).2 < 2 ^ 59
  e0 : 0 ≤ e
  e1 : e < 2 ^ 59
theorem BdL.bd {P : List (Int × Int)} {e : Int} (h : BdL P e) : Bd (px P) (py P) e P.length := ⟨fun i hi => by have := h.x i hi; show -(2 ^ 60) < (pa P i).1 ∧ (pa P i).1 < 2 ^ 60; omega, fun i hi => by have := h.y i hi; show -(2 ^ 60) < (pa P i).2 ∧ (pa P i).2 < 2 ^ 60; omega, h.e0, by have := h.e1; omega⟩
theorem w_add1 {X Y : Nat → Int} {e : Int} {n : Nat} {T B : List Nat} {fl st : MV} (hb : Bd X Y e (n + 1)) (hn : n < 2900) (asc : ∀ i j, i < j → j < n + 1 → X i < X j) (hS : FitS X Y e n T B fl st) (Q : OV → Env → Prop) (E : Int → Prop)
    (h : ∀ n' T' B' fl' st', ((Meets X (bt Y e) (tp Y e) 0 (n + 1) ∧ n' = n + 1) ∨ (¬ Meets X (bt Y e) (tp Y e) 0 (n + 1) ∧ n' = n)) → FitS X Y e n' T' B' fl' st' → ∀ t1 t2 t3, Q (.fro (.bl (dB (Meets X (bt Y e) (tp Y e) 0 (n + 1))))) [.rf (FitO X Y e n' T' B' fl' st'), t1, t2, t3]) :
    F_Fitter_add [.rf (FitO X Y e n T B fl st), .ow (.fro (prM (X n, Y n)))] Q E :=
  w_add hb hn asc hS Q E (fun m T' B' fl' st' hS' t1 t2 t3 => by
    have := h (n + 1) T' B' fl' st' (.inl ⟨m, rfl⟩) hS' t1 t2 t3
    rwa [dB_yes m] at this) (fun m t1 t2 t3 => by
    have := h n T B fl st (.inr ⟨m, rfl⟩) hS t1 t2 t3
    rwa [dB_no m] at this)

/-! ### the greedy cutting of an index range, for any property of ranges -/
structure MonoP (M : Nat → Nat → Prop) : Prop where
  sub : ∀ {a b a' b' : Nat}, M a b → a ≤ a' → b' ≤ b → M a' b'
  one : ∀ a : Nat, M a (a + 1)
/-- the starts of the longest pieces of the first items -/
noncomputable def gs (M : Nat → Nat → Prop) : Nat → List Nat
  | 0 => []
  | i + 1 => match (gs M i).getLast? with
    | none => [i]
    | some s => match dB (M s (i + 1)) with
      | true => gs M i
      | false => gs M i ++ [i]
section
variable {M : Nat → Nat → Prop}
theorem gs_zero (M : Nat → Nat → Prop) : gs M 0 = [] := rfl
theorem gs_none {i : Nat} (h : gs M i = []) : gs M (i + 1) = [i] := by rw [gs, h]; rfl
theorem gs_stay {i s : Nat} (h : (gs M i).getLast? = some s) (hf : M s (i + 1)) : gs M (i + 1) = gs M i := by
  rw [gs, h]
  show (match dB (M s (i + 1)) with | true => gs M i | false => gs M i ++ [i]) = _
  rw [dB_yes hf]
theorem gs_new {i s : Nat} (h : (gs M i).getLast? = some s) (hf : ¬ M s (i + 1)) : gs M (i + 1) = gs M i ++ [i] := by
  rw [gs, h]
  show (match dB (M s (i + 1)) with | true => gs M i | false => gs M i ++ [i]) = _
  rw [dB_no hf]
theorem gs_nil {i : Nat} (h : gs M i = []) : i = 0 := by
  cases i with
  | zero => rfl
  | succ i =>
    cases hl : (gs M i).getLast? with
    | none => rw [gs_none (List.getLast?_eq_none_iff.mp hl)] at h; cases h
    | some s =>
      by_cases hf : M s (i + 1)
      · rw [gs_stay hl hf] at h; rw [h] at hl; cases hl
      · rw [gs_new hl hf] at h; simp at h
theorem gs_gd (hM : MonoP M) : ∀ i s, (gs M i).getLast? = some s → s < i ∧ M s i
  | 0, s, h => by rw [gs_zero] at h; cases h
  | i + 1, s, h => by
    cases hl : (gs M i).getLast? with
    | none =>
      rw [gs_none (List.getLast?_eq_none_iff.mp hl)] at h
      have : i = s := by simpa using h
      subst this
      exact ⟨by omega, hM.one _⟩
    | some t =>
      by_cases hf : M t (i + 1)
      · rw [gs_stay hl hf, hl] at h
        cases h
        have := (gs_gd hM i s hl).1
        exact ⟨by omega, hf⟩
      · rw [gs_new hl hf] at h
        have : i = s := by simpa using h
        subst this
        exact ⟨by omega, hM.one _⟩
theorem gs_some (M : Nat → Nat → Prop) {i : Nat} (h : 0 < i) : ∃ s, (gs M i).getLast? = some s := by
  cases q : (gs M i).getLast? with
  | none => have := gs_nil (List.getLast?_eq_none_iff.mp q); omega
  | some s => exact ⟨s, rfl⟩
/-- a piece that fits costs one more at most -/
theorem gs_fit (hM : MonoP M) (a : Nat) : ∀ b, a ≤ b → M a b → (gs M a).length ≤ (gs M b).length ∧ ((gs M b).length = (gs M a).length ∨ ((gs M b).length = (gs M a).length + 1 ∧ ∀ s, (gs M b).getLast? = some s → a ≤ s)) := by
  intro b
  induction b with
  | zero =>
    intro h _
    have : a = 0 := by omega
    subst this
    exact ⟨Nat.le_refl _, .inl rfl⟩
  | succ b ih =>
    intro h hf
    by_cases hab : a = b + 1
    · subst hab; exact ⟨Nat.le_refl _, .inl rfl⟩
    · obtain ⟨h1, h2⟩ := ih (by omega) (hM.sub hf (Nat.le_refl _) (by omega))
      cases hl : (gs M b).getLast? with
      | none =>
        have hn := List.getLast?_eq_none_iff.mp hl
        rw [gs_none hn]
        have := gs_nil hn
        subst this
        have : a = 0 := by omega
        subst this
        exact ⟨by simp [gs_zero], .inr ⟨by simp [gs_zero], fun s hs => by omega⟩⟩
      | some s =>
        by_cases hg : M s (b + 1)
        · rw [gs_stay hl hg]
          exact ⟨h1, by rw [hl] at h2; rw [hl]; exact h2⟩
        · rw [gs_new hl hg]
          rcases h2 with h2 | ⟨h2, h3⟩
          · refine ⟨by simp; omega, .inr ⟨by simp; omega, fun t ht => ?_⟩⟩
            have : b = t := by simpa using ht
            omega
          · exact absurd (hM.sub hf (h3 s hl) (Nat.le_refl _)) hg
/-- the last piece: one more than up to its start -/
theorem gs_last (M : Nat → Nat → Prop) : ∀ i s, (gs M i).getLast? = some s → (gs M i).length = (gs M s).length + 1 := by
  intro i
  induction i with
  | zero => intro s h; rw [gs_zero] at h; cases h
  | succ i ih =>
    intro s h
    cases hl : (gs M i).getLast? with
    | none =>
      have hn := List.getLast?_eq_none_iff.mp hl
      rw [gs_none hn] at h ⊢
      have : i = s := by simpa using h
      subst this
      rw [hn]; rfl
    | some t =>
      by_cases hg : M t (i + 1)
      · rw [gs_stay hl hg] at h ⊢
        exact ih s h
      · rw [gs_new hl hg] at h ⊢
        have : i = s := by simpa using h
        subst this
        simp
theorem gs_lt (M : Nat → Nat → Prop) : ∀ i, (∀ s ∈ gs M i, s < i) ∧ (gs M i).Pairwise (· < ·) ∧ (0 < i → (gs M i)[0]? = some 0)
  | 0 => by rw [gs_zero]; exact ⟨by simp, List.Pairwise.nil, fun h => by omega⟩
  | i + 1 => by
    obtain ⟨h1, h2, h3⟩ := gs_lt M i
    cases hl : (gs M i).getLast? with
    | none =>
      have hn := List.getLast?_eq_none_iff.mp hl
      rw [gs_none hn]
      have := gs_nil hn
      subst this
      exact ⟨by simp, List.pairwise_singleton _ _, fun _ => rfl⟩
    | some s =>
      have i0 : 0 < i := by
        have := h1 s (List.mem_of_getLast? hl)
        omega
      by_cases hf : M s (i + 1)
      · rw [gs_stay hl hf]
        exact ⟨fun t ht => by have := h1 t ht; omega, h2, fun _ => h3 i0⟩
      · rw [gs_new hl hf]
        refine ⟨fun t ht => ?_, List.pairwise_append.mpr ⟨h2, List.pairwise_singleton _ _, fun a ha b hb => ?_⟩, fun _ => ?_⟩
        · rcases List.mem_append.mp ht with z | z
          · have := h1 t z; omega
          · have : t = i := by simpa using z
            omega
        · have : b = i := by simpa using hb
          subst this
          exact h1 a ha
        · rw [List.getElem?_append_left (by have := h3 i0; exact (List.getElem?_eq_some_iff.mp this).1)]
          exact h3 i0
theorem gs_len (M : Nat → Nat → Prop) : ∀ i, (gs M i).length ≤ i
  | 0 => Nat.le_refl _
  | i + 1 => by
    have ih := gs_len M i
    cases hl : (gs M i).getLast? with
    | none => rw [gs_none (List.getLast?_eq_none_iff.mp hl)]; simp
    | some s =>
      by_cases hf : M s (i + 1)
      · rw [gs_stay hl hf]; omega
      · rw [gs_new hl hf]; simp; omega
theorem gs_mono (M : Nat → Nat → Prop) {a : Nat} : ∀ b, a ≤ b → (gs M a).length ≤ (gs M b).length
  | 0, h => by
    have : a = 0 := by omega
    subst this; exact Nat.le_refl _
  | b + 1, h => by
    by_cases z : a = b + 1
    · subst z; exact Nat.le_refl _
    · refine Nat.le_trans (gs_mono M b (by omega)) ?_
      cases hl : (gs M b).getLast? with
      | none => rw [List.getLast?_eq_none_iff.mp hl]; simp
      | some s =>
        by_cases hf : M s (b + 1)
        · rw [gs_stay hl hf]; exact Nat.le_refl _
        · rw [gs_new hl hf]; simp
/-- between two starts -/
theorem gs_gap (hM : MonoP M) : ∀ i k s t, (gs M i)[k]? = some s → (gs M i)[k + 1]? = some t → s < t ∧ t < i ∧ M s t ∧ ¬ M s (t + 1)
  | 0, k, s, t, h1, h2 => by rw [gs_zero] at h1; simp at h1
  | i + 1, k, s, t, h1, h2 => by
    cases hl : (gs M i).getLast? with
    | none =>
      have hn := List.getLast?_eq_none_iff.mp hl
      rw [gs_none hn] at h2
      simp at h2
    | some u =>
      by_cases hf : M u (i + 1)
      · rw [gs_stay hl hf] at h1 h2
        obtain ⟨a, b, c⟩ := gs_gap hM i k s t h1 h2
        exact ⟨a, by omega, c⟩
      · rw [gs_new hl hf] at h1 h2
        obtain ⟨q1, q2⟩ := gs_gd hM i u hl
        rw [List.getLast?_eq_getElem?] at hl
        have hul := (List.getElem?_eq_some_iff.mp hl).1
        by_cases hk : k + 1 < (gs M i).length
        · rw [List.getElem?_append_left (by omega)] at h1 h2
          obtain ⟨a, b, c⟩ := gs_gap hM i k s t h1 h2
          exact ⟨a, by omega, c⟩
        · have hk2 : k + 1 = (gs M i).length := by
            have := (List.getElem?_eq_some_iff.mp h2).1
            simp at this
            omega
          rw [List.getElem?_append_left (by omega)] at h1
          rw [hk2, List.getElem?_append_right (Nat.le_refl _)] at h2
          rw [show (gs M i).length - 1 = k by omega, h1] at hl
          cases hl
          have : i = t := by simpa using h2
          subst this
          exact ⟨q1, by omega, q2, hf⟩
abbrev nI (S : List Nat) : List Int := S.map fun (s : Nat) => (s : Int)
theorem nI_last {S : List Nat} {s : Nat} (h : S.getLast? = some s) : cell (nI S) ((S.length : Int) - 1) = s := by
  have hl : S.length ≠ 0 := fun z => by rw [List.length_eq_zero_iff.mp z] at h; cases h
  unfold cell
  rw [List.getD_eq_getElem?_getD, show ((S.length : Int) - 1).toNat = S.length - 1 by omega, List.getElem?_map]
  rw [List.getLast?_eq_getElem?] at h
  rw [h]; rfl
theorem nI_cell {S : List Nat} {k s : Nat} (h : S[k]? = some s) : cell (nI S) (k : Int) = s := by
  unfold cell
  rw [List.getD_eq_getElem?_getD, Int.toNat_natCast, List.getElem?_map, h]; rfl
/-! ### the least count by trying all cuts -/
noncomputable def gC (M : Nat → Nat → Prop) (n : Nat) : List Int := (List.range n).map fun i => ((gs M i).length : Int)
theorem gC_succ (M : Nat → Nat → Prop) (n : Nat) : gC M (n + 1) = gC M n ++ [((gs M n).length : Int)] := by
  unfold gC
  rw [List.range_succ, List.map_append]; rfl
theorem gC_len (M : Nat → Nat → Prop) (n : Nat) : (gC M n).length = n := by unfold gC; simp
theorem gC_cell (M : Nat → Nat → Prop) {n : Nat} {i : Int} (h0 : 0 ≤ i) (h : i < n) : cell (gC M n) i = (gs M i.toNat).length := by
  unfold cell gC
  rw [List.getD_eq_getElem?_getD, List.getElem?_map, List.getElem?_range (by omega)]; rfl
structure Best (M : Nat → Nat → Prop) (m j : Nat) (b : Int) : Prop where
  ub : ((gs M m).length : Int) ≤ b
  hs : ∀ s, s < j → M s m → b ≤ ((gs M s).length : Int) + 1
theorem fit_le (hM : MonoP M) {s m : Nat} (h : s ≤ m) (hf : M s m) : ((gs M m).length : Int) ≤ (gs M s).length + 1 := by
  obtain ⟨h1, h2 | ⟨h2, _⟩⟩ := gs_fit hM s m h hf <;> omega
theorem best_start (hM : MonoP M) (i : Nat) : Best M (i + 1) 0 (((gs M i).length : Int) + 1) := ⟨fit_le hM (by omega) (hM.one i), fun s hs => by omega⟩
theorem best_end (hM : MonoP M) {m : Nat} {b : Int} (hm : 0 < m) (h : Best M m m b) : b = (gs M m).length := by
  obtain ⟨s, hl⟩ := gs_some M hm
  obtain ⟨h1, h2⟩ := gs_gd hM m s hl
  have := h.hs s h1 h2
  have := gs_last M m s hl
  have := h.ub
  omega
/-- the last start may be left out -/
theorem best_end1 (hM : MonoP M) {m : Nat} {b : Int} (h : Best M (m + 1) m b) (hb : b ≤ ((gs M m).length : Int) + 1) : b = (gs M (m + 1)).length :=
  best_end hM (by omega) ⟨h.ub, fun s hs hfs => by
    by_cases z : s = m
    · subst z; exact hb
    · exact h.hs s (by omega) hfs⟩
theorem best_take (hM : MonoP M) {m j : Nat} {b : Int} (hj : j ≤ m) (hf : M j m) (h : Best M m j b) (hb : ((gs M j).length : Int) + 1 ≤ b) : Best M m (j + 1) (((gs M j).length : Int) + 1) :=
  ⟨fit_le hM hj hf, fun s hs hfs => by
    by_cases z : s = j
    · subst z; exact Int.le_refl _
    · exact Int.le_trans hb (h.hs s (by omega) hfs)⟩
theorem best_keep {m j : Nat} {b : Int} (h : Best M m j b) (hb : M j m → b ≤ ((gs M j).length : Int) + 1) : Best M m (j + 1) b :=
  ⟨h.ub, fun s hs hfs => by
    by_cases z : s = j
    · subst z; exact hb hfs
    · exact h.hs s (by omega) hfs⟩
/-! ### what is accepted has the fewest pieces -/
/-- where piece k ends -/
def en (S : List Int) (n : Nat) (k : Nat) : Int := if k + 1 < S.length then cell S ((k + 1 : Nat) : Int) else n
structure Starts (n : Nat) (S : List Int) : Prop where
  ne : 0 < S.length
  z : cell S ((0 : Nat) : Int) = 0
  l : cell S ((S.length - 1 : Nat) : Int) < n
  asc : ∀ k, k + 1 < S.length → cell S (k : Int) < cell S ((k + 1 : Nat) : Int)
theorem Starts.mono {n : Nat} {S : List Int} (h : Starts n S) : ∀ j i : Nat, i ≤ j → j < S.length → cell S (i : Int) ≤ cell S (j : Int)
  | 0, i, h1, _ => by
    have : i = 0 := by omega
    subst this
    exact Int.le_refl _
  | j + 1, i, h1, h2 => by
    by_cases z : i = j + 1
    · subst z; exact Int.le_refl _
    · have := h.mono j i (by omega) (by omega)
      have := h.asc j h2
      omega
theorem Starts.nn {n : Nat} {S : List Int} (h : Starts n S) {k : Nat} (hk : k < S.length) : 0 ≤ cell S (k : Int) ∧ cell S (k : Int) < n ∧ cell S (k : Int) < en S n k ∧ en S n k ≤ n := by
  have h1 := h.mono k 0 (by omega) hk
  have h2 := h.mono (S.length - 1) k (by omega) (by omega)
  have h3 := h.z
  have h4 := h.l
  refine ⟨by omega, by omega, ?_, ?_⟩
  · unfold en
    split
    · exact h.asc k (by assumption)
    · omega
  · unfold en
    split
    · have := h.mono (S.length - 1) (k + 1) (by omega) (by omega)
      omega
    · omega
theorem en_cell (S : List Int) (n k : Nat) (hk : k < S.length) : cell (S.drop 1 ++ [(n : Int)]) (k : Int) = en S n k := by
  unfold en cell
  rw [List.getD_eq_getElem?_getD, Int.toNat_natCast]
  by_cases h : k + 1 < S.length
  · rw [if_pos h, List.getElem?_append_left (by simp; omega), List.getElem?_drop, Nat.add_comm 1 k, Int.toNat_natCast, List.getD_eq_getElem?_getD]
  · rw [if_neg h, List.getElem?_append_right (by simp; omega)]
    have : k - (S.drop 1).length = 0 := by simp; omega
    rw [this]; rfl
theorem Starts.least (hM : MonoP M) {n : Nat} {S : List Int} (h : Starts n S) (fit : ∀ k, k < S.length → M (cell S (k : Int)).toNat (en S n k).toNat)
    (non : ∀ k, k + 1 < S.length → ¬ M (cell S (k : Int)).toNat ((cell S ((k + 1 : Nat) : Int)).toNat + 1)) : S.length = (gs M n).length := by
  have hz := h.z
  have ub : ∀ k : Nat, k < S.length → (gs M (cell S (k : Int)).toNat).length ≤ k := by
    intro k
    induction k with
    | zero => intro _; rw [hz]; exact Nat.le_of_eq rfl
    | succ k ih =>
      intro hk
      have := ih (by omega)
      have ha := h.asc k hk
      have hf := fit k (by omega)
      have h0 := h.nn (k := k) (by omega)
      unfold en at hf
      rw [if_pos hk] at hf
      have := fit_le hM (s := (cell S (k : Int)).toNat) (m := (cell S ((k + 1 : Nat) : Int)).toNat) (by omega) hf
      omega
  have lb : ∀ k : Nat, k < S.length → k + 1 ≤ (gs M ((cell S (k : Int)).toNat + 1)).length := by
    intro k
    induction k with
    | zero =>
      intro _
      rw [hz, show gs M ((0 : Int).toNat + 1) = [0] from gs_none (gs_zero M)]
      simp
    | succ k ih =>
      intro hk
      have ih := ih (by omega)
      have ha := h.asc k hk
      have h0 := h.nn (k := k) (by omega)
      obtain ⟨s, hq⟩ := gs_some M (i := (cell S ((k + 1 : Nat) : Int)).toNat + 1) (by omega)
      obtain ⟨q1, q2⟩ := gs_gd hM _ s hq
      have hs : (cell S (k : Int)).toNat < s := by
        refine Classical.not_not.mp fun z => non k hk (hM.sub q2 (by omega) (Nat.le_refl _))
      rw [gs_last M _ s hq]
      have := gs_mono M (a := (cell S (k : Int)).toNat + 1) s (by omega)
      omega
  have hn := h.ne
  have u := ub (S.length - 1) (by omega)
  have l := lb (S.length - 1) (by omega)
  have h0 := h.nn (k := S.length - 1) (by omega)
  have hf := fit (S.length - 1) (by omega)
  unfold en at hf
  rw [if_neg (by omega)] at hf
  have u2 := fit_le hM (s := (cell S ((S.length - 1 : Nat) : Int)).toNat) (m := n) (by omega) hf
  have l2 := gs_mono M (a := (cell S ((S.length - 1 : Nat) : Int)).toNat + 1) n (by omega)
  omega
end

/-! ### a cutting that grows -/
/-- the end of piece k -/
def nd (S : List Nat) (n k : Nat) : Nat := (S ++ [n]).getD (k + 1) 0
theorem nd_mid {S : List Nat} {n k t : Nat} (h : S[k + 1]? = some t) : nd S n k = t := by
  unfold nd
  rw [List.getD_eq_getElem?_getD, List.getElem?_append_left (List.getElem?_eq_some_iff.mp h).1, h]; rfl
theorem nd_end {S : List Nat} {n k : Nat} (h : k + 1 = S.length) : nd S n k = n := by
  unfold nd
  rw [List.getD_eq_getElem?_getD, h]
  simp
structure Mid {α β : Type} (M : Nat → Nat → Prop) (pok : Nat → Nat → α → Prop) (rok : Nat → Nat → β → Prop) (i : Nat) (ps : List α) (rs : List β) (st : Nat) : Prop where
  z : i = 0 → st = 0
  last : 0 < i → (gs M i).getLast? = some st
  pl : ps.length = (gs M i).length - 1
  zl : rs.length = (gs M i).length - 1
  po : ∀ (k : Nat) x, ps[k]? = some x → ∃ s t, (gs M i)[k]? = some s ∧ (gs M i)[k + 1]? = some t ∧ pok s t x
  zo : ∀ (k : Nat) y, rs[k]? = some y → ∃ s t, (gs M i)[k]? = some s ∧ (gs M i)[k + 1]? = some t ∧ rok s t y
structure CutG {α β : Type} (M : Nat → Nat → Prop) (pok : Nat → Nat → α → Prop) (rok : Nat → Nat → β → Prop) (n : Nat) (ps : List α) (rs : List β) : Prop where
  pl : ps.length = (gs M n).length
  zl : rs.length = (gs M n).length - 1
  po : ∀ (k : Nat) x, ps[k]? = some x → ∃ s, (gs M n)[k]? = some s ∧ pok s (nd (gs M n) n k) x
  zo : ∀ (k : Nat) y, rs[k]? = some y → ∃ s t, (gs M n)[k]? = some s ∧ (gs M n)[k + 1]? = some t ∧ rok s t y
section
variable {α β : Type} {M : Nat → Nat → Prop} {pok : Nat → Nat → α → Prop} {rok : Nat → Nat → β → Prop} {i : Nat} {ps : List α} {rs : List β} {st : Nat}
theorem Mid.zero : Mid M pok rok 0 ([] : List α) ([] : List β) 0 := ⟨fun _ => rfl, fun h => by omega, rfl, rfl, fun k m h => by simp at h, fun k m h => by simp at h⟩
theorem last_get {S : List Nat} {s : Nat} (h : S.getLast? = some s) : S[S.length - 1]? = some s ∧ S.length ≠ 0 := by
  rw [List.getLast?_eq_getElem?] at h
  exact ⟨h, fun z => by rw [z] at h; rw [List.length_eq_zero_iff.mp z] at h; cases h⟩
/-- the piece goes on -/
theorem Mid.stay (h : Mid M pok rok i ps rs st) (hM : MonoP M) (hf : M st (i + 1)) : Mid M pok rok (i + 1) ps rs st := by
  by_cases i0 : i = 0
  · subst i0
    have := h.z rfl
    subst this
    have e1 : gs M 1 = [0] := gs_none (gs_zero M)
    have p0 : ps = [] := List.length_eq_zero_iff.mp (by rw [h.pl]; rfl)
    have r0 : rs = [] := List.length_eq_zero_iff.mp (by rw [h.zl]; rfl)
    subst p0
    subst r0
    exact ⟨fun z => by omega, fun _ => by rw [e1]; rfl, by rw [e1]; rfl, by rw [e1]; rfl, fun k m q => by simp at q, fun k m q => by simp at q⟩
  · have e1 := gs_stay (h.last (by omega)) hf
    exact ⟨fun z => by omega, fun _ => by rw [e1]; exact h.last (by omega), by rw [e1]; exact h.pl, by rw [e1]; exact h.zl, by rw [e1]; exact h.po, by rw [e1]; exact h.zo⟩
theorem snoc_get {α : Type} {l : List α} {a x : α} {k : Nat} (h : (l ++ [a])[k]? = some x) : l[k]? = some x ∨ (k = l.length ∧ a = x) := by
  by_cases hk : k < l.length
  · rw [List.getElem?_append_left hk] at h
    exact .inl h
  · rw [List.getElem?_append_right (by omega)] at h
    have : k - l.length = 0 := by
      by_cases z : k - l.length = 0
      · exact z
      · rw [List.getElem?_eq_none (by simp; omega)] at h; cases h
    rw [this] at h
    exact .inr ⟨by omega, by simpa using h⟩
/-- a new piece begins -/
theorem Mid.new (h : Mid M pok rok i ps rs st) (hM : MonoP M) (i0 : 0 < i) (hf : ¬ M st (i + 1)) {x : α} {y : β} (hx : pok st i x) (hy : rok st i y) : Mid M pok rok (i + 1) (ps ++ [x]) (rs ++ [y]) i := by
  have e1 := gs_new (h.last i0) hf
  obtain ⟨q1, q2⟩ := last_get (h.last i0)
  have get : ∀ (k : Nat) s, (gs M i)[k]? = some s → (gs M i ++ [i])[k]? = some s := fun k s hk => by rw [List.getElem?_append_left (List.getElem?_eq_some_iff.mp hk).1]; exact hk
  have getn : (gs M i ++ [i])[(gs M i).length - 1 + 1]? = some i := by rw [show (gs M i).length - 1 + 1 = (gs M i).length by omega]; simp
  have hpl := h.pl
  have hzl := h.zl
  refine ⟨fun z => by omega, fun _ => by rw [e1]; simp, by rw [e1]; simp; omega, by rw [e1]; simp; omega, fun k m hk => ?_, fun k m hk => ?_⟩
  · rw [e1]
    rcases snoc_get hk with hk | ⟨hk, rfl⟩
    · obtain ⟨s, t, s1, s2, s3⟩ := h.po k m hk
      exact ⟨s, t, get _ _ s1, get _ _ s2, s3⟩
    · have hk1 : k = (gs M i).length - 1 := by omega
      subst hk1
      exact ⟨st, i, get _ _ q1, getn, hx⟩
  · rw [e1]
    rcases snoc_get hk with hk | ⟨hk, rfl⟩
    · obtain ⟨s, t, s1, s2, s3⟩ := h.zo k m hk
      exact ⟨s, t, get _ _ s1, get _ _ s2, s3⟩
    · have hk1 : k = (gs M i).length - 1 := by omega
      subst hk1
      exact ⟨st, i, get _ _ q1, getn, hy⟩
theorem Mid.nil (h : Mid M pok rok 0 ps rs st) : CutG M pok rok 0 ps rs := by
  have p0 : ps = [] := List.length_eq_zero_iff.mp (by rw [h.pl]; rfl)
  have r0 : rs = [] := List.length_eq_zero_iff.mp (by rw [h.zl]; rfl)
  subst p0
  subst r0
  exact ⟨rfl, rfl, fun k m q => by simp at q, fun k m q => by simp at q⟩
theorem Mid.done (h : Mid M pok rok i ps rs st) (i0 : 0 < i) {x : α} (hx : pok st i x) : CutG M pok rok i (ps ++ [x]) rs := by
  obtain ⟨q1, q2⟩ := last_get (h.last i0)
  have hpl := h.pl
  refine ⟨by simp; omega, h.zl, fun k m hk => ?_, h.zo⟩
  rcases snoc_get hk with hk | ⟨hk, rfl⟩
  · obtain ⟨s, t, s1, s2, s3⟩ := h.po k m hk
    exact ⟨s, s1, by rw [nd_mid s2]; exact s3⟩
  · have hk1 : k = (gs M i).length - 1 := by omega
    subst hk1
    exact ⟨st, q1, by rw [nd_end (by omega)]; exact hx⟩
end

end C
namespace C
open PySem PySem.Spec PyProof.Rows L2
local macro_rules | `(tactic| walk_at "ev") => `(tactic| (conv => whnf))
local macro_rules | `(tactic| walk_at "side") => `(tactic| (first | assumption | exact trivial | exact line1000 rfl | (show (0 : Int) < _; first | omega | decide) | exact rfl | exact smallof (by omega) (by omega) | exact ⟨smallof (by omega) (by omega), smallof (by omega) (by omega)⟩ | exact Or.inl (by omega) | exact Or.inr (Or.inl (by omega)) | exact cdiv_of (by omega) (by omega) | omega | exact lt_line (by omega) | exact le_line (by omega) | exact ⟨by decide, by decide, by decide⟩ | decide | fail))
local macro_rules | `(tactic| walk_at "go") => `(tactic| ((repeat' ((conv => whnf); first | refine And.intro (by walk_at "side") ?_ | walk_at "call" | walk_at "test" | fail)); try (conv => whnf)))
local macro_rules | `(tactic| walk_at "call") => `(tactic| (first | refine setE_go (by assumption) ?_ | fail))
local macro_rules | `(tactic| walk_at "test") => `(tactic| (first | refine mdec_yes (by omega) ?_ | refine mdec_no (by omega) ?_ | refine mdec_no (fun h => h rfl) ?_ | refine mndec_yes (by omega) ?_ | refine mndec_no (by omega) ?_ | fail))
local macro_rules | `(tactic| walk_at "call") => `(tactic| (first | refine gl0 ?_ | refine gl1 ?_ | refine gl2 ?_ | refine gl3 ?_ | refine at_go (by omega) (by omega) ?_ | refine at_goN (by omega) (by omega) ?_ | fail))
local macro_rules | `(tactic| walk_at "call") => `(tactic| (first | refine ints_go ?_ | refine bools_go ?_ | fail))
local macro_rules | `(tactic| walk_at "call") => `(tactic| (first | refine eqD_go (pl_ints _) (pl_ints _) ?_ | fail))
local macro_rules | `(tactic| walk_at "call") => `(tactic| (first | refine w_cell _ _ (by omega) _ _ (fun _ => ?_) | fail))
local macro_rules | `(tactic| walk_at "call") => `(tactic| (first | refine w_cell _ _ (by omega) _ _ (fun _ => ?_) | fail))
local macro_rules | `(tactic| walk_at "call") => `(tactic| (first | refine at_go (by omega) (by omega) ?_ | refine at_goN (by omega) (by omega) ?_ | refine atPr (by omega) (by omega) ?_ | refine atPrN (by omega) (by omega) ?_ | fail))
local macro_rules | `(tactic| walk_at "call") => `(tactic| (first | refine alls_go ?_ | fail))
local macro_rules | `(tactic| walk_at "call") => `(tactic| (first | refine eqD_go (pl_prs _) (pl_prs _) ?_ | fail))
local macro_rules | `(tactic| walk_at "call") => `(tactic| (first | refine at_go (by omega) (by omega) ?_ | refine at_goN (by omega) (by omega) ?_ | refine atPr (by omega) (by omega) ?_ | refine atPrN (by omega) (by omega) ?_ | refine atRg (by omega) (by omega) ?_ | refine atRgN (by omega) (by omega) ?_ | fail))
local macro_rules | `(tactic| walk_at "call") => `(tactic| (first | refine intsF_go ?_ | fail))
local macro_rules | `(tactic| walk_at "call") => `(tactic| (first | refine w_rise (by simp) (by simp) _ _ (fun _ => ?_) | refine w_below (by (try dsimp only [bt, tp]); omega) (by (try dsimp only [bt, tp]); omega) (by (try dsimp only [bt, tp]); omega) (by (try dsimp only [bt, tp]); omega) _ _ (fun _ => ?_) | fail))
/-! ### the cut of points -/
def pcM (x : Int × Int × Int × Int) : MV := .tup [.int x.1, .tup [.int x.2.1, .int x.2.2.1, .int x.2.2.2]]
def rsM (x : Int × Int × Int) : MV := .tup [.int x.1, .int x.2.1, .int x.2.2]
/-- the points from a up to n fit -/
abbrev MPt (P : List (Int × Int)) (e : Int) : Nat → Nat → Prop := fun a n => Meets (px P) (bt (py P) e) (tp (py P) e) a n
theorem mp_mono (P : List (Int × Int)) (e : Int) : MonoP (MPt P e) := ⟨fun h h1 h2 i j k a1 a2 a3 a4 => h i j k (by omega) a2 a3 (by omega), fun a i j k a1 a2 a3 a4 => by omega⟩
/-- piece x runs from s to t -/
structure PcOk (P : List (Int × Int)) (e : Int) (s t : Nat) (x : Int × Int × Int × Int) : Prop where
  st : x.1 = s
  d0 : 0 < x.2.2.2
  bp : x.2.1.natAbs < 2 ^ 100
  bq : x.2.2.1.natAbs < 2 ^ 200
  bd : x.2.2.2 < 2 ^ 100
  near : ∀ i, s ≤ i → i < t → ((x.2.1 * px P i + x.2.2.1 - py P i * x.2.2.2).natAbs : Int) ≤ e * x.2.2.2
  up : (∀ i, s ≤ i → i + 1 < t → py P i < py P (i + 1)) → 0 ≤ x.2.1
structure RsOk (P : List (Int × Int)) (e : Int) (s t : Nat) (y : Int × Int × Int) : Prop where
  ex : ∃ i j k : Nat, y = ((i : Int), (j : Int), (k : Int)) ∧ s ≤ i ∧ i < j ∧ j < k ∧ k ≤ t ∧ ¬ Meet3 (px P) (bt (py P) e) (tp (py P) e) i j k
abbrev CutP (P : List (Int × Int)) (e : Int) (n : Nat) (ps : List (Int × Int × Int × Int)) (rs : List (Int × Int × Int)) : Prop := CutG (MPt P e) (PcOk P e) (RsOk P e) n ps rs
theorem meet3_sh (X b t : Nat → Int) (s i j k : Nat) : Meet3 (fun a => X (s + a)) (fun a => b (s + a)) (fun a => t (s + a)) i j k = Meet3 X b t (s + i) (s + j) (s + k) := rfl
theorem meets_sh {X b t : Nat → Int} {s n : Nat} : Meets (fun a => X (s + a)) (fun a => b (s + a)) (fun a => t (s + a)) 0 n ↔ Meets X b t s (s + n) := by
  constructor
  · intro h i j k a1 a2 a3 a4
    have := h (i - s) (j - s) (k - s) (by omega) (by omega) (by omega) (by omega)
    rw [meet3_sh, show s + (i - s) = i by omega, show s + (j - s) = j by omega, show s + (k - s) = k by omega] at this
    exact this
  · intro h i j k a1 a2 a3 a4
    exact h (s + i) (s + j) (s + k) (by omega) (by omega) (by omega) (by omega)
/-- a conflict or none -/
theorem w_conflict {X Y : Nat → Int} {e : Int} {n : Nat} {T B : List Nat} {fl st : MV} (hb : Bd X Y e (n + 1)) (asc : ∀ i j, i < j → j < n + 1 → X i < X j) (hS : FitS X Y e n T B fl st) (Q : OV → Env → Prop) (E : Int → Prop)
    (h1 : Meets X (bt Y e) (tp Y e) 0 (n + 1) → ∀ en, Q (.fro .non) en)
    (h2 : ¬ Meets X (bt Y e) (tp Y e) 0 (n + 1) → ∀ i j : Nat, i < j → j < n → ¬ Meet3 X (bt Y e) (tp Y e) i j n → ∀ en, Q (.fro (.tup [.int i, .int j])) en) :
    F_Fitter_conflict [.bo (FitO X Y e n T B fl st), .ow (.fro (prM (X n, Y n)))] Q E := by
  by_cases hn : n < 2
  · exact w_conflict0 hn _ _ _ fun en => h1 (meets_few (by omega)) en
  · obtain ⟨f1, f2, s1, s2, rfl, rfl, w⟩ := hS.w (by omega)
    have e0 := hb.e0
    have hsp : Sp X (bt Y e) (tp Y e) (n + 1) := ⟨asc, fun i _ => by show Y i - e ≤ Y i + e; omega⟩
    have bad : ∀ i j, i < j → j < n → ¬ Meet3 X (bt Y e) (tp Y e) i j n → ¬ Meets X (bt Y e) (tp Y e) 0 (n + 1) := fun i j a c d z => d (z i j n (by omega) a c (by omega))
    refine w_conflict2 hb (by omega) w _ _ (fun c en => ?_) (fun c d en => ?_) fun c d en => ?_
    · exact h2 (bad f1 f2 w.hf.1 w.hf.2 (conflict_f w c)) f1 f2 w.hf.1 w.hf.2 (conflict_f w c) en
    · exact h2 (bad s1 s2 w.hs.1 w.hs.2 (conflict_s w d)) s1 s2 w.hs.1 w.hs.2 (conflict_s w d) en
    · obtain ⟨a1, a2, qf⟩ := newF_ex hsp f1 f2 (by omega)
      obtain ⟨c1, c2, qs⟩ := newS_ex hsp s1 s2 (by omega)
      exact h1 ((w.step hsp d c qf qs).meets hsp) en
theorem w_cut_init (P Z : List MV) (Q : OV → Env → Prop) (E : Int → Prop) (h : ∀ s1 s2, Q (.fro .non) [.rf (.obj 1 [.lst P, .lst Z]), s1, s2]) : F_Cutting_init__ [.rf (.obj 1 []), .bo (.lst P), .bo (.lst Z)] Q E := by
  refine F_Cutting_init__.mk ?_
  walk_at "go"
  exact h _ _
theorem lineOk_pc {P : List (Int × Int)} {e p q d : Int} {st t n : Nat} (hL : LineOk (fun j => px P (st + j)) (fun j => py P (st + j)) e n p q d) (hn : t = st + n) : PcOk P e st t ((st : Int), p, q, d) :=
  ⟨rfl, hL.d0, hL.bp, hL.bq, hL.bd, fun i a c => by
    have := hL.near (i - st) (by omega)
    rw [show st + (i - st) = i by omega] at this
    exact this, fun hy => hL.up fun i hi => by
    have := hy (st + i) (by omega) (by omega)
    rwa [show st + i + 1 = st + (i + 1) by omega] at this⟩
theorem w_cut (P : List (Int × Int)) (e : Int) (hl : P.length < 2900) (hB : BdL P e) (hP : ∀ i j, i < j → j < P.length → (pa P i).1 < (pa P j).1) (Q : OV → Env → Prop) (E : Int → Prop)
    (h : ∀ en ps rs, CutP P e P.length ps rs → Q (.obj 1 [.lst (ps.map pcM), .lst (rs.map rsM)]) en) : F_cut [.ow (.fro (.lst (P.map prM))), .ow (.fro (.int e))] Q E := by
  refine F_cut.mk ?_
  have lP : (List.map prM P).length = P.length := by simp
  have he := hB.e0
  have he1 := hB.e1
  have hM := mp_mono P e
  walk_at "go"
  refine w_fit_init (fun j => px P (0 + j)) (fun j => py P (0 + j)) e _ _ fun t => ?_
  walk_at "go"
  refine for_inv (fun i en => ∃ ps rs, ∃ st nn : Nat, ∃ mp mr T B fl sp s6 s7 s8, en = [.ow (.fro (.lst (P.map prM))), .ow (.fro (.int e)), .ow (.lst mp), .ow (.lst mr), .ow (.fro (.int st)), .ow (FitO (fun j => px P (st + j)) (fun j => py P (st + j)) e nn T B fl sp), s6, s7, s8] ∧ mp = List.map pcM ps ∧ mr = List.map rsM rs ∧ st + nn = i ∧ (0 < i → st < i) ∧ Mid (MPt P e) (PcOk P e) (RsOk P e) i ps rs st ∧ FitS (fun j => px P (st + j)) (fun j => py P (st + j)) e nn T B fl sp ∧ isRf s6 = false ∧ isRf s7 = false ∧ isRf s8 = false) ⟨[], [], 0, 0, _, _, [], [], _, _, _, _, _, rfl, rfl, rfl, rfl, fun z => by omega, Mid.zero, FitS.zero _ _ _ _ _, rfl, rfl, rfl⟩ ?_ ?_
  · rintro en ⟨ps, rs, st, nn, mp, mr, T, B, fl, sp, s6, s7, s8, rfl, rfl, rfl, hst, hst2, hMid, hS, h6, h7, h8⟩
    rw [enT_len] at *
    have hgl := gs_len (MPt P e) P.length
    have hpl := hMid.pl
    have hzl := hMid.zl
    have lps : (List.map pcM ps).length = ps.length := by simp
    have bdS : Bd (fun j => px P (st + j)) (fun j => py P (st + j)) e nn := ⟨fun j hj => hB.bd.x (st + j) (by omega), fun j hj => hB.bd.y (st + j) (by omega), hB.e0, by omega⟩
    walk_at "go"
    refine if_join (fun en => ∃ ps', en = [.ow (.fro (.lst (P.map prM))), .ow (.fro (.int e)), .ow (.lst (List.map pcM ps')), .ow (.lst (List.map rsM rs)), .ow (.fro (.int st)), .ow (FitO (fun j => px P (st + j)) (fun j => py P (st + j)) e nn T B fl sp), s6, s7, s8] ∧ CutP P e P.length ps' rs) (fun N hN => ?_) ?_
    · walk_at "go"
      refine mnemp (fun hne => ?_) fun hne => ?_
      · have n0 : 0 < P.length := by
          have := List.length_pos_iff.mpr hne
          omega
        walk_at "go"
        refine w_line bdS (by omega) hS _ _ fun p q d hL en => ?_
        walk_at "go"
        refine hN _ ⟨ps ++ [((st : Int), p, q, d)], ?_, hMid.done n0 (lineOk_pc hL (by omega))⟩
        rw [List.map_append]
        rfl
      · have n0 : P.length = 0 := by
          have := congrArg List.length hne
          simpa using this
        walk_at "go"
        refine hN _ ⟨ps, rfl, ?_⟩
        rw [n0] at hMid ⊢
        exact hMid.nil
    · rintro en ⟨ps', rfl, hC⟩
      walk_at "go"
      refine w_cut_init _ _ _ _ fun s1 s2 => ?_
      walk_at "go"
      exact h _ ps' rs hC
  · rintro i m en hi ⟨ps, rs, st, nn, mp, mr, T, B, fl, sp, s6, s7, s8, rfl, rfl, rfl, hst, hst2, hMid, hS, h6, h7, h8⟩ N hN
    obtain ⟨hi1, rfl⟩ := enPr hi
    clear hi
    have hgl := gs_len (MPt P e) i
    have hpl := hMid.pl
    have hzl := hMid.zl
    have lps : (List.map pcM ps).length = ps.length := by simp
    have lrs : (List.map rsM rs).length = rs.length := by simp
    have bd1 : Bd (fun j => px P (st + j)) (fun j => py P (st + j)) e (nn + 1) := ⟨fun j hj => hB.bd.x (st + j) (by omega), fun j hj => hB.bd.y (st + j) (by omega), hB.e0, by omega⟩
    have bd0 : Bd (fun j => px P (st + j)) (fun j => py P (st + j)) e nn := ⟨fun j hj => hB.bd.x (st + j) (by omega), fun j hj => hB.bd.y (st + j) (by omega), hB.e0, by omega⟩
    have bdn : Bd (fun j => px P (i + j)) (fun j => py P (i + j)) e (0 + 1) := ⟨fun j hj => hB.bd.x (i + j) (by omega), fun j hj => hB.bd.y (i + j) (by omega), hB.e0, by omega⟩
    have asc1 : ∀ a b, a < b → b < nn + 1 → px P (st + a) < px P (st + b) := fun a b c d => hP (st + a) (st + b) (by omega) (by omega)
    have hnew : prM (pa P i) = prM ((fun j => px P (st + j)) nn, (fun j => py P (st + j)) nn) := by
      show prM (pa P i) = prM ((pa P (st + nn)).1, (pa P (st + nn)).2)
      rw [hst]
    have hnew0 : prM (pa P i) = prM ((fun j => px P (i + j)) 0, (fun j => py P (i + j)) 0) := rfl
    have msh : Meets (fun j => px P (st + j)) (bt (fun j => py P (st + j)) e) (tp (fun j => py P (st + j)) e) 0 (nn + 1) ↔ MPt P e st (i + 1) := by
      have := meets_sh (X := px P) (b := bt (py P) e) (t := tp (py P) e) (s := st) (n := nn + 1)
      rw [show st + (nn + 1) = i + 1 by omega] at this
      exact this
    walk_at "go"
    rw [hnew]
    refine w_conflict bd1 asc1 hS _ _ (fun hm en => ?_) fun hm a b hab hb hmm en => ?_
    · walk_at "go"
      refine if_go ?_
      walk_at "go"
      refine w_add1 bd1 (by omega) asc1 hS _ _ fun n' T' B' fl' st' hn' hS2 _ _ _ => ?_
      obtain ⟨_, rfl⟩ := hn'.resolve_right fun z => z.1 hm
      walk_at "go"
      exact hN _ ⟨ps, rs, st, nn + 1, _, _, T', B', fl', st', _, _, _, rfl, rfl, rfl, by omega, fun _ => by omega, hMid.stay hM (msh.mp hm), hS2, rfl, rfl, rfl⟩
    · have i0 : 0 < i := by omega
      walk_at "go"
      refine if_go ?_
      walk_at "go"
      refine w_line bd0 (by omega) hS _ _ fun p q d hL en => ?_
      walk_at "go"
      refine w_fit_init (fun j => px P (i + j)) (fun j => py P (i + j)) e _ _ fun t => ?_
      walk_at "go"
      rw [← hnew, hnew0]
      refine w_add1 bdn (by omega) (fun a b c d => by omega) (FitS.zero _ _ e _ _) _ _ fun n' T' B' fl' st' hn' hS2 _ _ _ => ?_
      obtain ⟨_, rfl⟩ := hn'.resolve_right fun z => z.1 (meets_few (by omega))
      walk_at "go"
      refine hN _ ⟨ps ++ [((st : Int), p, q, d)], rs ++ [((st : Int) + a, (st : Int) + b, (i : Int))], i, 1, _, _, T', B', fl', st', _, _, _, rfl, by rw [List.map_append]; rfl, by rw [List.map_append]; rfl, rfl, fun _ => by omega, hMid.new hM i0 (fun z => hm (msh.mpr z)) (lineOk_pc hL (by omega)) ⟨st + a, st + b, i, by simp, by omega, by omega, by omega, by omega, ?_⟩, hS2, rfl, rfl, rfl⟩
      have : ¬ Meet3 (px P) (bt (py P) e) (tp (py P) e) (st + a) (st + b) (st + nn) := hmm
      rwa [hst] at this

end C
namespace C
open PySem PySem.Spec PyProof.Rows L2
local macro_rules | `(tactic| walk_at "ev") => `(tactic| (conv => whnf))
local macro_rules | `(tactic| walk_at "side") => `(tactic| (first | assumption | exact trivial | exact line1000 rfl | (show (0 : Int) < _; first | omega | decide) | exact rfl | exact smallof (by omega) (by omega) | exact ⟨smallof (by omega) (by omega), smallof (by omega) (by omega)⟩ | exact Or.inl (by omega) | exact Or.inr (Or.inl (by omega)) | exact cdiv_of (by omega) (by omega) | omega | exact lt_line (by omega) | exact le_line (by omega) | exact ⟨by decide, by decide, by decide⟩ | decide | fail))
local macro_rules | `(tactic| walk_at "go") => `(tactic| ((repeat' ((conv => whnf); first | refine And.intro (by walk_at "side") ?_ | walk_at "call" | walk_at "test" | fail)); try (conv => whnf)))
local macro_rules | `(tactic| walk_at "call") => `(tactic| (first | refine setE_go (by assumption) ?_ | fail))
local macro_rules | `(tactic| walk_at "test") => `(tactic| (first | refine mdec_yes (by omega) ?_ | refine mdec_no (by omega) ?_ | refine mdec_no (fun h => h rfl) ?_ | refine mndec_yes (by omega) ?_ | refine mndec_no (by omega) ?_ | fail))
local macro_rules | `(tactic| walk_at "call") => `(tactic| (first | refine gl0 ?_ | refine gl1 ?_ | refine gl2 ?_ | refine gl3 ?_ | refine at_go (by omega) (by omega) ?_ | refine at_goN (by omega) (by omega) ?_ | fail))
local macro_rules | `(tactic| walk_at "call") => `(tactic| (first | refine ints_go ?_ | refine bools_go ?_ | fail))
local macro_rules | `(tactic| walk_at "call") => `(tactic| (first | refine eqD_go (pl_ints _) (pl_ints _) ?_ | fail))
local macro_rules | `(tactic| walk_at "call") => `(tactic| (first | refine w_cell _ _ (by omega) _ _ (fun _ => ?_) | fail))
local macro_rules | `(tactic| walk_at "call") => `(tactic| (first | refine w_cell _ _ (by omega) _ _ (fun _ => ?_) | fail))
def inL (xs : List Int) : MV := .lst (xs.map .int)
theorem w_digits (c many count : Int) (hm : 0 < many) (hm1 : many < 2 ^ 50) (h0 : 0 ≤ count) (h1 : count < 1000) (Q : OV → Env → Prop) (E : Int → Prop)
    (h : ∀ e (ds : List Int), ds.length = count.toNat → (∀ d ∈ ds, 0 ≤ d ∧ d < many) → Q (.lst (ds.map .int)) e) : F_law_digits [.ow (.fro (.int c)), .ow (.fro (.int many)), .ow (.fro (.int count))] Q E := by
  refine F_law_digits.mk ?_
  walk_at "go"
  refine for_inv (fun i e => ∃ ms ds rest s5 s6, e = [.ow (.fro (.int c)), .ow (.fro (.int many)), .ow (.fro (.int count)), .ow (.lst ms), .ow (.fro (.int rest)), s5, s6] ∧ ms = ds.map .int ∧ ds.length = i ∧ (∀ d ∈ ds, 0 ≤ d ∧ d < many) ∧ isRf s5 = false ∧ isRf s6 = false) ⟨[], [], _, _, _, rfl, rfl, rfl, by simp, rfl, rfl⟩ ?_ ?_
  · rintro e ⟨ms, ds, rest, s5, s6, rfl, rfl, hl, hd, h5, h6⟩
    rw [rgM_len] at hl
    walk_at "go"
    exact h _ ds hl hd
  · rintro i m e hi ⟨ms, ds, rest, s5, s6, rfl, rfl, hl, hd, h5, h6⟩ N hN
    obtain ⟨hi, rfl⟩ := rgM_at hi
    have hl2 : (ds.map MV.int).length < 1000 := by rw [List.length_map]; omega
    have fin : ∀ x : Int, ∀ r s5 s6, isRf s5 = false → isRf s6 = false → N [.ow (.fro (.int c)), .ow (.fro (.int many)), .ow (.fro (.int count)), .ow (.lst (ds.map .int ++ [.int (x % many)])), .ow (.fro (.int r)), s5, s6] := fun x r s5 s6 h5 h6 =>
      hN _ ⟨_, ds ++ [x % many], _, _, _, rfl, by simp, by simp [hl], fun d hd' => by
        rcases List.mem_append.mp hd' with z | z
        · exact hd d z
        · have : d = x % many := by simpa using z
          subst this
          exact ⟨Int.emod_nonneg _ (by omega), Int.emod_lt_of_pos _ hm⟩, h5, h6⟩
    walk_at "go"
    refine if_go ?_
    walk_at "go"
    refine mdec (fun hc => ?_) fun hc => ?_
    · walk_at "go"
      exact fin _ _ _ _ rfl h6
    · walk_at "go"
      exact fin _ _ _ _ rfl rfl

local macro_rules | `(tactic| walk_at "call") => `(tactic| (first | refine at_go (by omega) (by omega) ?_ | refine at_goN (by omega) (by omega) ?_ | refine atPr (by omega) (by omega) ?_ | refine atPrN (by omega) (by omega) ?_ | fail))
local macro_rules | `(tactic| walk_at "call") => `(tactic| (first | refine alls_go ?_ | fail))
local macro_rules | `(tactic| walk_at "call") => `(tactic| (first | refine eqD_go (pl_prs _) (pl_prs _) ?_ | fail))
local macro_rules | `(tactic| walk_at "call") => `(tactic| (first | refine at_go (by omega) (by omega) ?_ | refine at_goN (by omega) (by omega) ?_ | refine atPr (by omega) (by omega) ?_ | refine atPrN (by omega) (by omega) ?_ | refine atRg (by omega) (by omega) ?_ | refine atRgN (by omega) (by omega) ?_ | fail))
local macro_rules | `(tactic| walk_at "call") => `(tactic| (first | refine intsF_go ?_ | fail))
/-! ### streams -/
/-- values as points -/
def pts (v : List Int) : List (Int × Int) := (List.range v.length).map fun (k : Nat) => ((k : Int), cell v k)
theorem pts_len (v : List Int) : (pts v).length = v.length := by unfold pts; simp
theorem pa_pts {v : List Int} {k : Nat} (h : k < v.length) : pa (pts v) k = ((k : Int), cell v k) := by
  unfold pa pts
  rw [List.getD_eq_getElem?_getD, List.getElem?_map, List.getElem?_range h]; rfl
theorem pts_asc (v : List Int) : ∀ i j, i < j → j < (pts v).length → (pa (pts v) i).1 < (pa (pts v) j).1 := fun i j a b => by
  rw [pts_len] at b
  rw [pa_pts (by omega), pa_pts b]
  show (i : Int) < j
  omega
theorem pts_bd {v : List Int} {e : Int} (hl : v.length < 2000) (hv : ∀ i, i < v.length → -(2 ^ 59) < cell v (i : Int) ∧ cell v (i : Int) < 2 ^ 59) (e0 : 0 ≤ e) (e1 : e < 2 ^ 59) : BdL (pts v) e :=
  ⟨fun i hi => by rw [pts_len] at hi; rw [pa_pts hi]; show -(2 ^ 59) < (i : Int) ∧ (i : Int) < 2 ^ 59; omega, fun i hi => by rw [pts_len] at hi; rw [pa_pts hi]; exact hv i hi, e0, e1⟩

/-! ### extremes of slopes over pairs of spans (spans.py; not yet used) -/
structure PExt (X b t : Nat → Int) (n f1 f2 s1 s2 : Nat) : Prop where
  hf : f1 < f2 ∧ f2 < n
  hs : s1 < s2 ∧ s2 < n
  fmax : ∀ i j, i < j → j < n → FLe (lo X b t i j) (lo X b t f1 f2)
  smin : ∀ i j, i < j → j < n → FLe (up X b t s1 s2) (up X b t i j)
theorem PExt.wedge {X b t : Nat → Int} {n f1 f2 s1 s2 : Nat} (w : PExt X b t n f1 f2 s1 s2) (ok : FLe (lo X b t f1 f2) (up X b t s1 s2)) : Wedge X b t n f1 f2 s1 s2 := ⟨w.hf, w.hs, w.fmax, w.smin, ok⟩
theorem PExt.iff {X b t : Nat → Int} {n f1 f2 s1 s2 : Nat} (h : Sp X b t n) (w : PExt X b t n f1 f2 s1 s2) : FLe (lo X b t f1 f2) (up X b t s1 s2) ↔ Meets X b t 0 n :=
  ⟨fun z => (w.wedge z).meets h, fun z => meets_all h z w.hf.1 w.hf.2 w.hs.1 w.hs.2⟩
/-- one more span: the extremes of the new pairs are put in one by one (j of them so far) -/
structure PExtJ (X b t : Nat → Int) (n j : Nat) (L U : Option (Int × Int)) : Prop where
  n0 : n + j ≤ 1 → L = none ∧ U = none
  n1 : 2 ≤ n ∨ (0 < n ∧ 0 < j) → ∃ f1 f2 s1 s2, L = some (lo X b t f1 f2) ∧ U = some (up X b t s1 s2) ∧ (f1 < f2 ∧ (f2 < n ∨ (f2 = n ∧ f1 < j))) ∧ (s1 < s2 ∧ (s2 < n ∨ (s2 = n ∧ s1 < j))) ∧
    (∀ a c, a < c → (c < n ∨ (c = n ∧ a < j)) → FLe (lo X b t a c) (lo X b t f1 f2)) ∧ (∀ a c, a < c → (c < n ∨ (c = n ∧ a < j)) → FLe (up X b t s1 s2) (up X b t a c))
theorem PExtJ.ext {X b t : Nat → Int} {n : Nat} {L U : Option (Int × Int)} (h : PExtJ X b t n n L U) (hn : 1 ≤ n) : ∃ f1 f2 s1 s2, L = some (lo X b t f1 f2) ∧ U = some (up X b t s1 s2) ∧ PExt X b t (n + 1) f1 f2 s1 s2 := by
  obtain ⟨f1, f2, s1, s2, rfl, rfl, h1, h2, h3, h4⟩ := h.n1 (by omega)
  exact ⟨f1, f2, s1, s2, rfl, rfl, ⟨by omega, by omega, fun a c q r => h3 a c q (by omega), fun a c q r => h4 a c q (by omega)⟩⟩
instance (a b : Int × Int) : Decidable (FLe a b) := by unfold FLe; infer_instance
def mxL (L : Option (Int × Int)) (x : Int × Int) : Option (Int × Int) := match L with
  | none => some x
  | some l => if FLe x l then some l else some x
def mnU (U : Option (Int × Int)) (x : Int × Int) : Option (Int × Int) := match U with
  | none => some x
  | some u => if FLe u x then some u else some x
theorem PExtJ.step {X b t : Nat → Int} {n j : Nat} {L U : Option (Int × Int)} (h : Sp X b t (n + 1)) (hj : j < n) (w : PExtJ X b t n j L U) : PExtJ X b t n (j + 1) (mxL L (lo X b t j n)) (mnU U (up X b t j n)) := by
  refine ⟨fun z => by omega, fun _ => ?_⟩
  by_cases n1 : n = 1
  · subst n1
    have j0 : j = 0 := by omega
    subst j0
    obtain ⟨rfl, rfl⟩ := w.n0 (by omega)
    refine ⟨0, 1, 0, 1, rfl, rfl, by omega, by omega, fun a c q r => ?_, fun a c q r => ?_⟩
    · have a0 : a = 0 := by omega
      have c1 : c = 1 := by omega
      subst a0 c1
      exact fle_refl _
    · have a0 : a = 0 := by omega
      have c1 : c = 1 := by omega
      subst a0 c1
      exact fle_refl _
  · obtain ⟨f1, f2, s1, s2, rfl, rfl, h1, h2, h3, h4⟩ := w.n1 (by omega)
    have p1 := h.pos h1.1 (show f2 < n + 1 by omega)
    have p2 := h.pos h2.1 (show s2 < n + 1 by omega)
    have p3 := h.pos hj (show n < n + 1 by omega)
    have k1 : ∃ f1' f2', mxL (some (lo X b t f1 f2)) (lo X b t j n) = some (lo X b t f1' f2') ∧ (f1' < f2' ∧ (f2' < n ∨ (f2' = n ∧ f1' < j + 1))) ∧ ∀ a c, a < c → (c < n ∨ (c = n ∧ a < j + 1)) → FLe (lo X b t a c) (lo X b t f1' f2') := by
      by_cases c : FLe (lo X b t j n) (lo X b t f1 f2)
      · refine ⟨f1, f2, by unfold mxL; exact if_pos c, by omega, fun a d q r => ?_⟩
        by_cases z : d = n ∧ a = j
        · rw [z.1, z.2]; exact c
        · exact h3 a d q (by omega)
      · refine ⟨j, n, by unfold mxL; exact if_neg c, by omega, fun a d q r => ?_⟩
        by_cases z : d = n ∧ a = j
        · rw [z.1, z.2]; exact fle_refl _
        · exact fle_trans (h.pos q (by omega)) p1 p3 (h3 a d q (by omega)) (fle_of_not c)
    have k2 : ∃ f1' f2', mnU (some (up X b t s1 s2)) (up X b t j n) = some (up X b t f1' f2') ∧ (f1' < f2' ∧ (f2' < n ∨ (f2' = n ∧ f1' < j + 1))) ∧ ∀ a c, a < c → (c < n ∨ (c = n ∧ a < j + 1)) → FLe (up X b t f1' f2') (up X b t a c) := by
      by_cases c : FLe (up X b t s1 s2) (up X b t j n)
      · refine ⟨s1, s2, by unfold mnU; exact if_pos c, by omega, fun a d q r => ?_⟩
        by_cases z : d = n ∧ a = j
        · rw [z.1, z.2]; exact c
        · exact h4 a d q (by omega)
      · refine ⟨j, n, by unfold mnU; exact if_neg c, by omega, fun a d q r => ?_⟩
        by_cases z : d = n ∧ a = j
        · rw [z.1, z.2]; exact fle_refl _
        · exact fle_trans p3 p2 (h.pos q (by omega)) (fle_of_not c) (h4 a d q (by omega))
    obtain ⟨a1, a2, e1, e2, e3⟩ := k1
    obtain ⟨c1, c2, g1, g2, g3⟩ := k2
    exact ⟨a1, a2, c1, c2, e1, g1, e2, g2, e3, g3⟩

theorem mxL_no {l x : Int × Int} (h : ¬ FLe x l) : mxL (some l) x = some x := if_neg h
theorem mxL_yes {l x : Int × Int} (h : FLe x l) : mxL (some l) x = some l := if_pos h
theorem mnU_no {l x : Int × Int} (h : ¬ FLe l x) : mnU (some l) x = some x := if_neg h
theorem mnU_yes {l x : Int × Int} (h : FLe l x) : mnU (some l) x = some l := if_pos h
/-- the extremes of the pairs of the first n spans -/
abbrev ExtN (X b t : Nat → Int) (n : Nat) (L U : Option (Int × Int)) : Prop := PExtJ X b t n 0 L U
theorem PExtJ.next {X b t : Nat → Int} {n : Nat} {L U : Option (Int × Int)} (w : PExtJ X b t n n L U) : ExtN X b t (n + 1) L U := by
  refine ⟨fun z => w.n0 (by omega), fun z => ?_⟩
  obtain ⟨f1, f2, s1, s2, h1, h2, h3, h4, h5, h6⟩ := w.n1 (by omega)
  exact ⟨f1, f2, s1, s2, h1, h2, by omega, by omega, fun a c p q => h5 a c p (by omega), fun a c p q => h6 a c p (by omega)⟩
theorem ExtN.ext {X b t : Nat → Int} {n : Nat} {L U : Option (Int × Int)} (w : ExtN X b t n L U) (hn : 2 ≤ n) : ∃ f1 f2 s1 s2, L = some (lo X b t f1 f2) ∧ U = some (up X b t s1 s2) ∧ PExt X b t n f1 f2 s1 s2 := by
  obtain ⟨f1, f2, s1, s2, h1, h2, h3, h4, h5, h6⟩ := w.n1 (by omega)
  exact ⟨f1, f2, s1, s2, h1, h2, ⟨by omega, by omega, fun a c p q => h5 a c p (by omega), fun a c p q => h6 a c p (by omega)⟩⟩

/-! ### what a right cutting says, by its starts -/
def pcA (ps : List (Int × Int × Int × Int)) (k : Nat) : Int × Int × Int × Int := ps.getD k (0, 0, 0, 0)
def rsA (rs : List (Int × Int × Int)) (k : Nat) : Int × Int × Int := rs.getD k (0, 0, 0)
theorem atPc {xs : List (Int × Int × Int × Int)} {i : Int} {Q : MV → Prop} (h0 : 0 ≤ i) (h1 : i < xs.length) (q : Q (pcM (pcA xs i.toNat))) : gAt (xs.map pcM) i Q := atT pcM (0, 0, 0, 0) h0 h1 q
theorem atRs {xs : List (Int × Int × Int)} {i : Int} {Q : MV → Prop} (h0 : 0 ≤ i) (h1 : i < xs.length) (q : Q (rsM (rsA xs i.toNat))) : gAt (xs.map rsM) i Q := atT rsM (0, 0, 0) h0 h1 q
local macro_rules | `(tactic| walk_at "call") => `(tactic| (first | refine atPc (by omega) (by omega) ?_ | refine atRs (by omega) (by omega) ?_ | fail))
theorem starts_gs {M : Nat → Nat → Prop} (hM : MonoP M) {n : Nat} (hn : 0 < n) : Starts n (nI (gs M n)) ∧ ∀ k, k < (gs M n).length → en (nI (gs M n)) n k = (nd (gs M n) n k : Nat) := by
  obtain ⟨g1, g2, g3⟩ := gs_lt M n
  have s0 := g3 hn
  have l0 := (List.getElem?_eq_some_iff.mp s0).1
  have ls : (nI (gs M n)).length = (gs M n).length := by simp
  have mk : ∀ k, k < (gs M n).length → (gs M n)[k]? = some ((gs M n).getD k 0) := fun k hk => by
    rw [List.getD_eq_getElem?_getD, List.getElem?_eq_getElem hk]; rfl
  refine ⟨⟨by omega, by rw [nI_cell s0]; rfl, ?_, fun k hk => ?_⟩, fun k hk => ?_⟩
  · rw [ls, nI_cell (mk _ (by omega))]
    have := g1 _ (List.mem_of_getElem? (mk ((gs M n).length - 1) (by omega)))
    omega
  · rw [ls] at hk
    rw [nI_cell (mk k (by omega)), nI_cell (mk (k + 1) hk)]
    have := (gs_gap hM n k _ _ (mk k (by omega)) (mk (k + 1) hk)).1
    omega
  · unfold en
    rw [ls]
    split
    · rename_i h
      rw [nI_cell (mk (k + 1) h), nd_mid (mk (k + 1) h)]
    · rw [nd_end (by omega)]
theorem CutP.out {P : List (Int × Int)} {e : Int} {n : Nat} {ps : List (Int × Int × Int × Int)} {rs : List (Int × Int × Int)} (h : CutP P e n ps rs) :
    ps.map Prod.fst = nI (gs (MPt P e) n) ∧ (0 < n → Starts n (nI (gs (MPt P e) n)) ∧ rs.length + 1 = ps.length ∧ (∀ k, k < ps.length → PcOk P e (cell (nI (gs (MPt P e) n)) (k : Int)).toNat (en (nI (gs (MPt P e) n)) n k).toNat (pcA ps k)) ∧
      ∀ k, k < rs.length → RsOk P e (cell (nI (gs (MPt P e) n)) (k : Int)).toNat (cell (nI (gs (MPt P e) n)) ((k + 1 : Nat) : Int)).toNat (rsA rs k)) := by
  have hpl := h.pl
  have hzl := h.zl
  have pg : ∀ k, k < ps.length → ps[k]? = some (pcA ps k) := fun k hk => by
    unfold pcA
    rw [List.getD_eq_getElem?_getD, List.getElem?_eq_getElem hk]; rfl
  have rg : ∀ k, k < rs.length → rs[k]? = some (rsA rs k) := fun k hk => by
    unfold rsA
    rw [List.getD_eq_getElem?_getD, List.getElem?_eq_getElem hk]; rfl
  refine ⟨?_, fun hn => ?_⟩
  · apply List.ext_getElem?
    intro k
    rw [List.getElem?_map, List.getElem?_map]
    by_cases hk : k < ps.length
    · obtain ⟨s, s1, s2⟩ := h.po k _ (pg k hk)
      rw [pg k hk, s1]
      show some (pcA ps k).1 = _
      rw [s2.st]; rfl
    · rw [List.getElem?_eq_none (by omega), List.getElem?_eq_none (by omega)]; rfl
  · obtain ⟨hS, hE⟩ := starts_gs (mp_mono P e) hn
    have l0 := hS.ne
    rw [List.length_map] at l0
    refine ⟨hS, by omega, fun k hk => ?_, fun k hk => ?_⟩
    · obtain ⟨s, s1, s2⟩ := h.po k _ (pg k hk)
      rw [nI_cell s1, hE k (by omega), Int.toNat_natCast, Int.toNat_natCast]
      exact s2
    · obtain ⟨s, t, s1, t1, s2⟩ := h.zo k _ (rg k hk)
      rw [nI_cell s1, nI_cell t1, Int.toNat_natCast, Int.toNat_natCast]
      exact s2

/-! ### list(enumerate(v)) as points -/
theorem enM_pts (v : List Int) : enM (v.map .int) = (pts v).map prM := by
  apply List.ext_getElem?
  intro k
  have e2 : ((pts v).map prM)[k]? = if k < v.length then some (prM ((k : Int), cell v (k : Int))) else none := by
    unfold pts
    rw [List.getElem?_map, List.getElem?_map]
    split
    · rename_i c
      rw [List.getElem?_range c]; rfl
    · rw [List.getElem?_eq_none (by simp; omega)]; rfl
  rw [e2]
  unfold enM
  rw [List.getElem?_mapIdx, List.getElem?_map]
  split
  · rename_i c
    have : v[k]? = some (cell v (k : Int)) := by
      unfold cell
      rw [List.getD_eq_getElem?_getD, Int.toNat_natCast, List.getElem?_eq_getElem c]; rfl
    rw [this]; rfl
  · rw [List.getElem?_eq_none (by omega)]; rfl

/-! ### levels of an index -/
def kpts (m : List Int) : List (Int × Int) := (List.range m.length).map fun (k : Nat) => (cell m k, (k : Int))
theorem kpts_len (m : List Int) : (kpts m).length = m.length := by unfold kpts; simp
theorem pa_kpts {m : List Int} {k : Nat} (h : k < m.length) : pa (kpts m) k = (cell m k, (k : Int)) := by
  unfold pa kpts
  rw [List.getD_eq_getElem?_getD, List.getElem?_map, List.getElem?_range h]; rfl
def Asc (m : List Int) : Prop := ∀ i j : Nat, i < j → j < m.length → cell m (i : Int) < cell m (j : Int)
def Bnd (m : List Int) : Prop := ∀ i : Nat, i < m.length → -(2 ^ 59) < cell m (i : Int) ∧ cell m (i : Int) < 2 ^ 59
theorem kpts_bd {m : List Int} {e : Int} (hl : m.length < 2000) (hb : Bnd m) (e0 : 0 ≤ e) (e1 : e < 2 ^ 59) : BdL (kpts m) e :=
  ⟨fun i hi => by rw [kpts_len] at hi; rw [pa_kpts hi]; exact hb i hi, fun i hi => by rw [kpts_len] at hi; rw [pa_kpts hi]; show -(2 ^ 59) < (i : Int) ∧ (i : Int) < 2 ^ 59; omega, e0, e1⟩
theorem kpts_asc {m : List Int} (h : Asc m) : ∀ i j, i < j → j < (kpts m).length → (pa (kpts m) i).1 < (pa (kpts m) j).1 := fun i j a b => by
  rw [kpts_len] at b
  rw [pa_kpts (by omega), pa_kpts b]
  exact h i j a b
theorem st_cellC (ps : List (Int × Int × Int × Int)) (k : Nat) : cell (ps.map Prod.fst) (k : Int) = (pcA ps k).1 := by
  unfold cell pcA
  rw [List.getD_eq_getElem?_getD, List.getD_eq_getElem?_getD, List.getElem?_map, Int.toNat_natCast]
  cases ps[k]? <;> rfl
/-- a level -/
structure LvOk (m : List Int) (e : Int) (ps : List (Int × Int × Int × Int)) : Prop where
  st : ps.map Prod.fst = nI (gs (MPt (kpts m) e) m.length)
  s : 0 < m.length → Starts m.length (ps.map Prod.fst)
  ok : ∀ k, k < ps.length → (0 ≤ (pcA ps k).2.1 ∧ (pcA ps k).2.1 < 2 ^ 100) ∧ 0 < (pcA ps k).2.2.2 ∧ (pcA ps k).2.2.2 < 2 ^ 100
  near : ∀ k, k < ps.length → ∀ i : Nat, (pcA ps k).1 ≤ i → (i : Int) < en (ps.map Prod.fst) m.length k → (((pcA ps k).2.1 * cell m (i : Int) + (pcA ps k).2.2.1 - i * (pcA ps k).2.2.2).natAbs : Int) ≤ e * (pcA ps k).2.2.2
  len : ps.length ≤ m.length
  few : 2 ≤ ps.length → ps.length < m.length
theorem LvOk.of {m : List Int} {e : Int} (hm : Asc m) {ps : List (Int × Int × Int × Int)} {rs : List (Int × Int × Int)} (h : CutP (kpts m) e m.length ps rs) : LvOk m e ps := by
  have o := h.out
  have hM := mp_mono (kpts m) e
  have gl := gs_len (MPt (kpts m) e) m.length
  have pl : ps.length = (gs (MPt (kpts m) e) m.length).length := by
    have := congrArg List.length o.1
    rw [List.length_map] at this
    simpa using this
  have hS : 0 < m.length → Starts m.length (ps.map Prod.fst) := fun z => by rw [o.1]; exact (o.2 z).1
  have lpf : (ps.map Prod.fst).length = ps.length := by simp
  have hok : ∀ k, k < ps.length → PcOk (kpts m) e (cell (ps.map Prod.fst) (k : Int)).toNat (C.en (ps.map Prod.fst) m.length k).toNat (pcA ps k) := fun k hk => by
    rw [o.1]; exact (o.2 (by omega)).2.2.1 k hk
  have xy : ∀ i, i < m.length → px (kpts m) i = cell m (i : Int) ∧ py (kpts m) i = i := fun i hi => by
    unfold px py
    rw [pa_kpts hi]
    exact ⟨rfl, rfl⟩
  refine ⟨o.1, hS, fun k hk => ?_, fun k hk i h1 h2 => ?_, by omega, fun h2 => ?_⟩
  · have n1 := (hS (by omega)).nn (k := k) (by omega)
    have := hok k hk
    have b1 := this.bp
    have b2 := this.d0
    have b3 := this.bd
    have b4 := this.up fun i a b => by
      rw [(xy i (by omega)).2, (xy (i + 1) (by omega)).2]; omega
    omega
  · have n1 := (hS (by omega)).nn (k := k) (by omega)
    have := (hok k hk).near i (by rw [st_cellC]; omega) (by omega)
    rw [(xy i (by omega)).1, (xy i (by omega)).2] at this
    exact this
  · have hS' := hS (by omega)
    have mk : ∀ k, k < ps.length → (gs (MPt (kpts m) e) m.length)[k]? = some ((gs (MPt (kpts m) e) m.length).getD k 0) := fun k hk => by
      rw [List.getD_eq_getElem?_getD, List.getElem?_eq_getElem (by omega)]; rfl
    have g01 := gs_gap hM m.length 0 _ _ (mk 0 (by omega)) (mk 1 (by omega))
    have s1 : 2 ≤ cell (ps.map Prod.fst) ((1 : Nat) : Int) := by
      rw [o.1, nI_cell (mk 1 (by omega))]
      have : ¬ (gs (MPt (kpts m) e) m.length).getD 1 0 < 2 := fun z => g01.2.2.2 fun i j k a1 a2 a3 a4 => by omega
      omega
    have up : ∀ k : Nat, 1 ≤ k → k < ps.length → (k : Int) + 1 ≤ cell (ps.map Prod.fst) (k : Int) := by
      intro k
      induction k with
      | zero => intro h; omega
      | succ k ih =>
        intro _ hk
        by_cases c : k = 0
        · subst c
          have e1 : ((0 + 1 : Nat) : Int) = ((1 : Nat) : Int) := rfl
          rw [e1]
          omega
        · have := ih (by omega) (by omega)
          have := hS'.asc k (by omega)
          omega
    have := up (ps.length - 1) (by omega) (by omega)
    have := (hS'.nn (k := ps.length - 1) (by omega)).2.1
    omega
theorem w_level_init (m : List Int) (e : Int) (hl : m.length < 1990) (hb : Bnd m) (ha : Asc m) (e0 : 0 ≤ e) (e1 : e < 2 ^ 59) (Q : OV → Env → Prop) (E : Int → Prop)
    (h : ∀ ps, LvOk m e ps → ∀ s1 s2 s3 s4, Q (.fro .non) [.rf (.obj 4 [.fro (.lst (m.map .int)), .fro (.int e), .fro (.lst (ps.map pcM))]), s1, s2, s3, s4]) :
    F_Level_init__ [.rf (.obj 4 []), .ow (.fro (.lst (m.map .int))), .ow (.fro (.int e))] Q E := by
  refine F_Level_init__.mk ?_
  have lP := kpts_len m
  have hB : BdL (kpts m) e := kpts_bd (by omega) hb e0 e1
  walk_at "go"
  rw [enM_pts]
  refine lc_ty prM (fun p => prM (p.2, p.1)) _ (le_line (by rw [pts_len]; omega)) (fun p hp Y y => ?_) ?_
  · walk_at "go"
    exact y
  rw [show (pts m).map (fun p => prM (p.2, p.1)) = (kpts m).map prM by unfold pts kpts; rw [List.map_map, List.map_map]; rfl]
  walk_at "go"
  refine w_cut (kpts m) e (by omega) hB (kpts_asc ha) _ _ fun _ ps rs hC => ?_
  rw [lP] at hC
  walk_at "go"
  exact h ps (LvOk.of ha hC) _ _ _ _

end C
namespace C
open PySem PySem.Spec PyProof.Rows L2
local macro_rules | `(tactic| walk_at "ev") => `(tactic| (conv => whnf))
local macro_rules | `(tactic| walk_at "side") => `(tactic| (first | assumption | exact trivial | exact line1000 rfl | (show (0 : Int) < _; first | omega | decide) | exact rfl | exact smallof (by omega) (by omega) | exact ⟨smallof (by omega) (by omega), smallof (by omega) (by omega)⟩ | exact Or.inl (by omega) | exact Or.inr (Or.inl (by omega)) | exact cdiv_of (by omega) (by omega) | omega | exact lt_line (by omega) | exact le_line (by omega) | exact ⟨by decide, by decide, by decide⟩ | decide | fail))
local macro_rules | `(tactic| walk_at "go") => `(tactic| ((repeat' ((conv => whnf); first | refine And.intro (by walk_at "side") ?_ | walk_at "call" | walk_at "test" | fail)); try (conv => whnf)))
local macro_rules | `(tactic| walk_at "call") => `(tactic| (first | refine setE_go (by assumption) ?_ | fail))
local macro_rules | `(tactic| walk_at "test") => `(tactic| (first | refine mdec_yes (by omega) ?_ | refine mdec_no (by omega) ?_ | refine mdec_no (fun h => h rfl) ?_ | refine mndec_yes (by omega) ?_ | refine mndec_no (by omega) ?_ | fail))
local macro_rules | `(tactic| walk_at "call") => `(tactic| (first | refine gl0 ?_ | refine gl1 ?_ | refine gl2 ?_ | refine gl3 ?_ | refine at_go (by omega) (by omega) ?_ | refine at_goN (by omega) (by omega) ?_ | fail))
local macro_rules | `(tactic| walk_at "call") => `(tactic| (first | refine ints_go ?_ | refine bools_go ?_ | fail))
local macro_rules | `(tactic| walk_at "call") => `(tactic| (first | refine eqD_go (pl_ints _) (pl_ints _) ?_ | fail))
local macro_rules | `(tactic| walk_at "call") => `(tactic| (first | refine w_cell _ _ (by omega) _ _ (fun _ => ?_) | fail))
local macro_rules | `(tactic| walk_at "call") => `(tactic| (first | refine w_cell _ _ (by omega) _ _ (fun _ => ?_) | fail))
local macro_rules | `(tactic| walk_at "call") => `(tactic| (first | refine at_go (by omega) (by omega) ?_ | refine at_goN (by omega) (by omega) ?_ | refine atPr (by omega) (by omega) ?_ | refine atPrN (by omega) (by omega) ?_ | fail))
local macro_rules | `(tactic| walk_at "call") => `(tactic| (first | refine alls_go ?_ | fail))
local macro_rules | `(tactic| walk_at "call") => `(tactic| (first | refine eqD_go (pl_prs _) (pl_prs _) ?_ | fail))
local macro_rules | `(tactic| walk_at "call") => `(tactic| (first | refine at_go (by omega) (by omega) ?_ | refine at_goN (by omega) (by omega) ?_ | refine atPr (by omega) (by omega) ?_ | refine atPrN (by omega) (by omega) ?_ | refine atRg (by omega) (by omega) ?_ | refine atRgN (by omega) (by omega) ?_ | fail))
local macro_rules | `(tactic| walk_at "call") => `(tactic| (first | refine intsF_go ?_ | fail))
local macro_rules | `(tactic| walk_at "call") => `(tactic| (first | refine atPc (by omega) (by omega) ?_ | refine atRs (by omega) (by omega) ?_ | fail))
/-! ### k21: widths, and the plain law of the best error -/
/-- binary digits -/
def nb (n : Nat) : Nat := if h : n = 0 then 0 else nb (n / 2) + 1
termination_by n
decreasing_by omega
theorem nb_zero : nb 0 = 0 := by unfold nb; rfl
theorem nb_pos {n : Nat} (h : 0 < n) : nb n = nb (n / 2) + 1 := by
  rw [nb]
  exact dif_neg (by omega)
theorem nb_le : ∀ (k n : Nat), nb n ≤ k ↔ n < 2 ^ k
  | 0, n => by
    by_cases c : n = 0
    · subst c; rw [nb_zero]; simp
    · rw [nb_pos (by omega)]; simp; omega
  | k + 1, n => by
    by_cases c : n = 0
    · subst c; rw [nb_zero]
      have : 0 < 2 ^ (k + 1) := Nat.two_pow_pos _
      omega
    · rw [nb_pos (by omega)]
      have := nb_le k (n / 2)
      have e : 2 ^ (k + 1) = 2 * 2 ^ k := by rw [Nat.pow_succ]; omega
      omega
theorem nb_mono {m n : Nat} (h : m ≤ n) : nb m ≤ nb n := (nb_le _ _).mpr (Nat.lt_of_le_of_lt h ((nb_le _ _).mp (Nat.le_refl _)))

/-! ### a key is sought in a level -/
theorem last_le (m : List Int) (x : Int) (s : Nat) (h : cell m (s : Int) ≤ x) : ∀ t, s < t → ∃ i : Nat, s ≤ i ∧ i < t ∧ cell m (i : Int) ≤ x ∧ ∀ j : Nat, i < j → j < t → x < cell m (j : Int)
  | 0, a => by omega
  | t + 1, a => by
    by_cases c : cell m (t : Int) ≤ x
    · exact ⟨t, by omega, by omega, c, fun j a b => by omega⟩
    · by_cases d : s = t
      · subst d; exact absurd h c
      · obtain ⟨i, i1, i2, i3, i4⟩ := last_le m x s h t (by omega)
        refine ⟨i, i1, by omega, i3, fun j a b => ?_⟩
        by_cases q : j = t
        · subst q; omega
        · exact i4 j a (by omega)
theorem find_up {p q d x y i e : Int} (p0 : 0 ≤ p) (d0 : 0 < d) (yx : y ≤ x) (h : ((p * y + q - i * d).natAbs : Int) ≤ e * d) : i ≤ (p * x + q) / d + e := by
  have h1 : p * y ≤ p * x := Int.mul_le_mul_of_nonneg_left yx p0
  have h2 : (i - e) * d ≤ p * x + q := by rw [Int.sub_mul]; omega
  have := Int.le_ediv_of_mul_le d0 h2
  omega
theorem find_down {p q d x y i e : Int} (p0 : 0 ≤ p) (d0 : 0 < d) (yx : x < y) (h : ((p * y + q - (i + 1) * d).natAbs : Int) ≤ e * d) : -(-(p * x + q) / d) - 1 - e ≤ i := by
  have h1 : p * x ≤ p * y := Int.mul_le_mul_of_nonneg_left (by omega) p0
  have h2 : (-(i + 1 + e)) * d ≤ -(p * x + q) := by rw [Int.neg_mul, Int.add_mul]; omega
  have := Int.le_ediv_of_mul_le d0 h2
  omega
theorem ceil_floor (y d : Int) (d0 : 0 < d) : y / d ≤ -(-y / d) := by
  have h1 : -y / d ≤ -(y / d) := by
    refine Int.ediv_le_of_le_mul d0 ?_
    have := Int.mul_ediv_add_emod y d
    have := Int.emod_nonneg y (show d ≠ 0 by omega)
    rw [Int.neg_mul, Int.mul_comm]
    omega
  omega
theorem w_ceiling (p q d x : Int) (m : MulOk p x) (d0 : 0 < d ∧ d < 2 ^ 220) (Q : OV → Env → Prop) (E : Int → Prop) (h : ∀ en, Q (.fro (.int (-(-(p * x + q) / d)))) en) : F_ceiling_at [.ow (.fro (.tup [.int p, .int q, .int d])), .ow (.fro (.int x))] Q E := by
  refine F_ceiling_at.mk ?_
  walk_at "go"
  exact h _
theorem w_floor (p q d x : Int) (m : MulOk p x) (d0 : 0 < d ∧ d < 2 ^ 220) (Q : OV → Env → Prop) (E : Int → Prop) (h : ∀ en, Q (.fro (.int ((p * x + q) / d))) en) : F_floor_at [.ow (.fro (.tup [.int p, .int q, .int d])), .ow (.fro (.int x))] Q E := by
  refine F_floor_at.mk ?_
  walk_at "go"
  exact h _
abbrev lvO (m : List Int) (e : Int) (ps : List (Int × Int × Int × Int)) : MV := .obj 4 [.lst (m.map .int), .int e, .lst (ps.map pcM)]
theorem w_end_of (m : List Int) (e : Int) (ps : List (Int × Int × Int × Int)) (lp : ps.length < 2000) (k : Nat) (hk : k < ps.length) (Q : OV → Env → Prop) (E : Int → Prop)
    (h : ∀ en, Q (.fro (.int (C.en (ps.map Prod.fst) m.length k))) en) : F_Level_end_of [.bo (.fro (lvO m e ps)), .ow (.fro (.int k))] Q E := by
  refine F_Level_end_of.mk ?_
  have lpm : (ps.map pcM).length = ps.length := by simp
  have lpf : (ps.map Prod.fst).length = ps.length := by simp
  have lm : (m.map MV.int).length = m.length := by simp
  unfold C.en at h
  rw [lpf] at h
  walk_at "go"
  refine mdec (fun c => ?_) fun c => ?_
  · rw [if_pos (by omega), st_cellC] at h
    walk_at "go"
    rw [show ((k : Int) + 1).toNat = k + 1 by omega]
    exact h _
  · rw [if_neg (by omega)] at h
    walk_at "go"
    rw [lm]
    exact h _
theorem w_find (m : List Int) (e : Int) (ps : List (Int × Int × Int × Int)) (hL : LvOk m e ps) (hA : Asc m) (lm : m.length < 1990) (e0 : 0 ≤ e) (e1 : e < 2 ^ 59) (k : Nat) (hk : k < ps.length) (x : Int) (hx : -(2 ^ 60) < x ∧ x < 2 ^ 60)
    (hs : cell m (pcA ps k).1 ≤ x) (hn : k + 1 < ps.length → x < cell m (pcA ps (k + 1)).1) (dp : Int) (L0 : List (Int × Int)) (l0 : L0.length < 200000) (Q : OV → Env → Prop) (E : Int → Prop)
    (h : ∀ (i : Nat) (L1 : List (Int × Int)), i < m.length → cell m (i : Int) ≤ x → (i + 1 < m.length → x < cell m ((i + 1 : Nat) : Int)) → L1.length ≤ nb (2 * e + 1).toNat → (∀ l ∈ L1, l.1 = dp ∧ 0 ≤ l.2 ∧ l.2 < m.length) →
      ∀ t1 t2 t3 t4 t5 t6, Q (.fro (.int i)) [.ow (.fro (lvO m e ps)), .ow (.fro (.int k)), .ow (.fro (.int x)), .ow (.fro (.int dp)), .rf (.lst ((L0 ++ L1).map prM)), t1, t2, t3, t4, t5, t6]) :
    F_Level_find [.ow (.fro (lvO m e ps)), .ow (.fro (.int k)), .ow (.fro (.int x)), .ow (.fro (.int dp)), .rf (.lst (L0.map prM))] Q E := by
  refine F_Level_find.mk ?_
  have lpl := hL.len
  have lpm : (ps.map pcM).length = ps.length := by simp
  have lpf : (ps.map Prod.fst).length = ps.length := by simp
  have lmm : (m.map MV.int).length = m.length := by simp
  have hS := hL.s (by omega)
  obtain ⟨n1, n2, n3, n4⟩ := hS.nn (k := k) (by omega)
  obtain ⟨⟨p0, p1⟩, d0, d1⟩ := hL.ok k hk
  have near := hL.near k hk
  rw [st_cellC] at n1 n2 n3
  obtain ⟨s, hss⟩ : ∃ s : Nat, (s : Int) = (pcA ps k).1 := ⟨(pcA ps k).1.toNat, by omega⟩
  obtain ⟨t, htt⟩ : ∃ t : Nat, (t : Int) = C.en (ps.map Prod.fst) m.length k := ⟨(C.en (ps.map Prod.fst) m.length k).toNat, by omega⟩
  have hnt : t < m.length → x < cell m (t : Int) := fun z => by
    unfold C.en at htt
    rw [lpf] at htt
    split at htt
    · rename_i c
      rw [htt, st_cellC]
      exact hn c
    · omega
  rw [← hss] at hs
  have m1 : MulOk (pcA ps k).2.1 x := mulok (by omega) (by omega)
  have d2 : 0 < (pcA ps k).2.2.2 ∧ (pcA ps k).2.2.2 < 2 ^ 220 := ⟨d0, Int.lt_trans d1 (by decide)⟩
  obtain ⟨i, i1, i2, i3, i4⟩ := last_le m x s hs t (by omega)
  have up := find_up p0 d0 i3 (near i (by omega) (by omega))
  have dn : i + 1 < t → -(-((pcA ps k).2.1 * x + (pcA ps k).2.2.1) / (pcA ps k).2.2.2) - 1 - e ≤ i := fun z => by
    have := near (i + 1) (by omega) (by omega)
    rw [show (((i + 1 : Nat)) : Int) = (i : Int) + 1 by omega] at this
    exact find_down p0 d0 (i4 (i + 1) (by omega) z) (by rw [show ((i : Int) + 1) = ((i + 1 : Nat) : Int) by omega] at this ⊢; exact this)
  have cf := ceil_floor ((pcA ps k).2.1 * x + (pcA ps k).2.2.1) (pcA ps k).2.2.2 d0
  clear near p1 d1
  walk_at "go"
  rw [Int.toNat_natCast]
  refine w_end_of m e ps (by omega) k hk _ _ fun _ => ?_
  rw [← htt]
  walk_at "go"
  refine w_ceiling _ _ _ _ m1 d2 _ _ fun _ => ?_
  walk_at "go"
  refine w_floor _ _ _ _ m1 d2 _ _ fun _ => ?_
  generalize hc : -(-((pcA ps k).2.1 * x + (pcA ps k).2.2.1) / (pcA ps k).2.2.2) = ce at *
  generalize hf : ((pcA ps k).2.1 * x + (pcA ps k).2.2.1) / (pcA ps k).2.2.2 = fl at *
  walk_at "go"
  rw [← hss]
  have lo1 : (s : Int) ≤ min ((t : Int) - 1) (max (s : Int) (ce - 1 - e)) := by omega
  have lo2 : min ((t : Int) - 1) (max (s : Int) (ce - 1 - e)) ≤ i := by omega
  have hi1 : (i : Int) ≤ min ((t : Int) - 1) (fl + e) := by omega
  have hi2 : min ((t : Int) - 1) (fl + e) ≤ (t : Int) - 1 := by omega
  have gap : min ((t : Int) - 1) (fl + e) - min ((t : Int) - 1) (max (s : Int) (ce - 1 - e)) ≤ 2 * e + 1 := by omega
  obtain ⟨hi, hhi⟩ : ∃ hi, hi = min ((t : Int) - 1) (fl + e) := ⟨_, rfl⟩
  obtain ⟨lo, hlo⟩ : ∃ lo, lo = min ((t : Int) - 1) (max (s : Int) (ce - 1 - e)) := ⟨_, rfl⟩
  rw [← hhi] at hi1 hi2 gap
  rw [← hlo] at lo1 lo2 gap
  clear up dn cf
  have tm : (t : Int) ≤ m.length := by omega
  have s0 : (0 : Int) ≤ s := by omega
  clear n1 n2 n3 n4 hss htt
  refine while_inv (fun M en => ∃ (lo hi : Int) (L1 : List (Int × Int)) (s10 : Slot), en = [.ow (.fro (lvO m e ps)), .ow (.fro (.int k)), .ow (.fro (.int x)), .ow (.fro (.int dp)), .rf (.lst ((L0 ++ L1).map prM)), .ow (.fro (.int s)), .ow (.fro (.tup [.int (pcA ps k).2.1, .int (pcA ps k).2.2.1, .int (pcA ps k).2.2.2])), .ow (.fro (.int (t - 1))), .ow (.fro (.int lo)), .ow (.fro (.int hi)), s10] ∧ isRf s10 = false ∧ M = (hi - lo).toNat ∧ (s : Int) ≤ lo ∧ lo ≤ i ∧ (i : Int) ≤ hi ∧ hi ≤ t - 1 ∧ L1.length + nb (hi - lo).toNat ≤ nb (2 * e + 1).toNat ∧ ∀ l ∈ L1, l.1 = dp ∧ 0 ≤ l.2 ∧ l.2 < m.length)
    _ ⟨lo, hi, [], .un, by rw [List.append_nil, hhi, hlo], rfl, rfl, by omega, by omega, by omega, by omega, ?_, fun l hl => by cases hl⟩ ?_
  · have := nb_mono (m := (hi - lo).toNat) (n := (2 * e + 1).toNat) (by omega)
    simpa using this
  · rintro M en ⟨lo, hi, L1, s10, rfl, q10, hM, b1, b2, b3, b4, b5, b6⟩ N hN
    have nbs : nb (2 * e + 1).toNat ≤ 62 := (nb_le _ _).mpr (by omega)
    have lLm : ((L0 ++ L1).map prM).length = L0.length + L1.length := by simp
    walk_at "go"
    refine mdec (fun c => ?_) fun c => ?_
    · have hh : nb (hi - lo).toNat = nb ((hi - lo).toNat / 2) + 1 := nb_pos (by omega)
      walk_at "go"
      refine if_go ?_
      walk_at "go"
      refine mdec (fun c2 => ?_) fun c2 => ?_
      · walk_at "go"
        refine hN _ _ (by omega) ⟨(lo + hi + 1) / 2, hi, L1 ++ [(dp, (lo + hi + 1) / 2)], .ow (.fro (.int ((lo + hi + 1) / 2))), ?_, rfl, rfl, by omega, ?_, by omega, by omega, ?_, ?_⟩
        · rw [← List.append_assoc, List.map_append (l₁ := L0 ++ L1)]; rfl
        · have : ¬ i < ((lo + hi + 1) / 2).toNat := fun z => by
            have := i4 ((lo + hi + 1) / 2).toNat z (by omega)
            rw [show ((((lo + hi + 1) / 2).toNat : Nat) : Int) = (lo + hi + 1) / 2 by omega] at this
            omega
          omega
        · rw [show (hi - (lo + hi + 1) / 2).toNat = (hi - lo).toNat / 2 by omega]
          simp; omega
        · intro l hl
          rcases List.mem_append.mp hl with z | z
          · exact b6 l z
          · rw [List.mem_singleton.mp z]
            exact ⟨rfl, by show 0 ≤ (lo + hi + 1) / 2; omega, by show (lo + hi + 1) / 2 < _; omega⟩
      · walk_at "go"
        refine hN _ _ (by omega) ⟨lo, (lo + hi + 1) / 2 - 1, L1 ++ [(dp, (lo + hi + 1) / 2)], .ow (.fro (.int ((lo + hi + 1) / 2))), ?_, rfl, rfl, by omega, by omega, ?_, by omega, ?_, ?_⟩
        · rw [← List.append_assoc, List.map_append (l₁ := L0 ++ L1)]; rfl
        · have : ¬ ((lo + hi + 1) / 2).toNat ≤ i := fun z => by
            have : cell m ((lo + hi + 1) / 2) ≤ cell m (i : Int) := by
              rcases Nat.lt_or_ge ((lo + hi + 1) / 2).toNat i with q | q
              · have := hA _ _ q (by omega)
                rw [show ((((lo + hi + 1) / 2).toNat : Nat) : Int) = (lo + hi + 1) / 2 by omega] at this
                omega
              · rw [show (lo + hi + 1) / 2 = (i : Int) by omega]; exact Int.le_refl _
            omega
          omega
        · have := nb_mono (m := ((lo + hi + 1) / 2 - 1 - lo).toNat) (n := (hi - lo).toNat / 2) (by omega)
          simp; omega
        · intro l hl
          rcases List.mem_append.mp hl with z | z
          · exact b6 l z
          · rw [List.mem_singleton.mp z]
            exact ⟨rfl, by show 0 ≤ (lo + hi + 1) / 2; omega, by show (lo + hi + 1) / 2 < _; omega⟩
    · have : lo = i := by omega
      subst this
      walk_at "go"
      refine h i L1 (by omega) i3 (fun z => ?_) (by omega) b6 _ _ _ _ _ _
      by_cases q : i + 1 < t
      · exact i4 (i + 1) (by omega) q
      · rw [show ((i + 1 : Nat)) = t by omega]
        exact hnt (by omega)

end C
namespace C
open PySem PySem.Spec PyProof.Rows L2
local macro_rules | `(tactic| walk_at "ev") => `(tactic| (conv => whnf))
local macro_rules | `(tactic| walk_at "side") => `(tactic| (first | assumption | exact trivial | exact line1000 rfl | (show (0 : Int) < _; first | omega | decide) | exact rfl | exact smallof (by omega) (by omega) | exact ⟨smallof (by omega) (by omega), smallof (by omega) (by omega)⟩ | exact Or.inl (by omega) | exact Or.inr (Or.inl (by omega)) | exact cdiv_of (by omega) (by omega) | omega | exact lt_line (by omega) | exact le_line (by omega) | exact ⟨by decide, by decide, by decide⟩ | decide | fail))
local macro_rules | `(tactic| walk_at "go") => `(tactic| ((repeat' ((conv => whnf); first | refine And.intro (by walk_at "side") ?_ | walk_at "call" | walk_at "test" | fail)); try (conv => whnf)))
local macro_rules | `(tactic| walk_at "call") => `(tactic| (first | refine setE_go (by assumption) ?_ | fail))
local macro_rules | `(tactic| walk_at "test") => `(tactic| (first | refine mdec_yes (by omega) ?_ | refine mdec_no (by omega) ?_ | refine mdec_no (fun h => h rfl) ?_ | refine mndec_yes (by omega) ?_ | refine mndec_no (by omega) ?_ | fail))
local macro_rules | `(tactic| walk_at "call") => `(tactic| (first | refine gl0 ?_ | refine gl1 ?_ | refine gl2 ?_ | refine gl3 ?_ | refine at_go (by omega) (by omega) ?_ | refine at_goN (by omega) (by omega) ?_ | fail))
local macro_rules | `(tactic| walk_at "call") => `(tactic| (first | refine ints_go ?_ | refine bools_go ?_ | fail))
local macro_rules | `(tactic| walk_at "call") => `(tactic| (first | refine eqD_go (pl_ints _) (pl_ints _) ?_ | fail))
local macro_rules | `(tactic| walk_at "call") => `(tactic| (first | refine w_cell _ _ (by omega) _ _ (fun _ => ?_) | fail))
local macro_rules | `(tactic| walk_at "call") => `(tactic| (first | refine w_cell _ _ (by omega) _ _ (fun _ => ?_) | fail))
local macro_rules | `(tactic| walk_at "call") => `(tactic| (first | refine at_go (by omega) (by omega) ?_ | refine at_goN (by omega) (by omega) ?_ | refine atPr (by omega) (by omega) ?_ | refine atPrN (by omega) (by omega) ?_ | fail))
local macro_rules | `(tactic| walk_at "call") => `(tactic| (first | refine alls_go ?_ | fail))
local macro_rules | `(tactic| walk_at "call") => `(tactic| (first | refine eqD_go (pl_prs _) (pl_prs _) ?_ | fail))
local macro_rules | `(tactic| walk_at "call") => `(tactic| (first | refine at_go (by omega) (by omega) ?_ | refine at_goN (by omega) (by omega) ?_ | refine atPr (by omega) (by omega) ?_ | refine atPrN (by omega) (by omega) ?_ | refine atRg (by omega) (by omega) ?_ | refine atRgN (by omega) (by omega) ?_ | fail))
local macro_rules | `(tactic| walk_at "call") => `(tactic| (first | refine intsF_go ?_ | fail))
local macro_rules | `(tactic| walk_at "call") => `(tactic| (first | refine atPc (by omega) (by omega) ?_ | refine atRs (by omega) (by omega) ?_ | fail))
/-! ### an index -/
structure Lv where
  m : List Int
  e : Int
  ps : List (Int × Int × Int × Int)
def lvM (l : Lv) : MV := lvO l.m l.e l.ps
def lvD : Lv := ⟨[], 0, []⟩
def lvA (Ls : List Lv) (k : Nat) : Lv := Ls.getD k lvD
theorem atLv {xs : List Lv} {i : Int} {Q : MV → Prop} (h0 : 0 ≤ i) (h1 : i < xs.length) (q : Q (lvM (lvA xs i.toNat))) : gAt (xs.map lvM) i Q := atT lvM lvD h0 h1 q
theorem atLvN {xs : List Lv} {i : Int} {Q : MV → Prop} (h0 : i < 0) (h1 : 0 ≤ i + xs.length) (q : Q (lvM (lvA xs (i + xs.length).toNat))) : gAt (xs.map lvM) i Q := atTN lvM lvD h0 h1 q
local macro_rules | `(tactic| walk_at "call") => `(tactic| (first | refine atLv (by omega) (by omega) ?_ | refine atLvN (by omega) (by omega) ?_ | fail))
theorem lvA_old {Ls : List Lv} {z : Lv} {k : Nat} (h : k < Ls.length) : lvA (Ls ++ [z]) k = lvA Ls k := by
  unfold lvA
  rw [List.getD_eq_getElem?_getD, List.getD_eq_getElem?_getD, List.getElem?_append_left h]
theorem lvA_new {Ls : List Lv} {z : Lv} : lvA (Ls ++ [z]) Ls.length = z := by
  unfold lvA
  rw [List.getD_eq_getElem?_getD]
  simp
/-- the keys of the level above -/
def upM (l : Lv) : List Int := (l.ps.map Prod.fst).map fun s => cell l.m s
structure LvG (l : Lv) : Prop where
  ok : LvOk l.m l.e l.ps
  asc : Asc l.m
  bnd : Bnd l.m
  e0 : 0 ≤ l.e
  e1 : l.e < 2 ^ 59
/-- levels from the lowest one on -/
structure Chn (v : List Int) (e u : Int) (Ls : List Lv) : Prop where
  ne : 0 < Ls.length
  m0 : (lvA Ls 0).m = v
  e0 : (lvA Ls 0).e = e
  up : ∀ k, k + 1 < Ls.length → (lvA Ls (k + 1)).m = upM (lvA Ls k) ∧ (lvA Ls (k + 1)).e = u ∧ 2 ≤ (lvA Ls k).ps.length
  ok : ∀ k, k < Ls.length → LvG (lvA Ls k)
theorem upM_len (l : Lv) : (upM l).length = l.ps.length := by unfold upM; simp
theorem upM_cell {l : Lv} {k : Nat} (h : k < l.ps.length) : cell (upM l) (k : Int) = cell l.m (pcA l.ps k).1 := by
  have e : (upM l)[k]? = some (cell l.m (pcA l.ps k).1) := by
    unfold upM
    rw [List.getElem?_map, List.getElem?_map]
    have : l.ps[k]? = some (pcA l.ps k) := by unfold pcA; rw [List.getD_eq_getElem?_getD, List.getElem?_eq_getElem h]; rfl
    rw [this]; rfl
  show (upM l).getD k 0 = _
  rw [List.getD_eq_getElem?_getD, e]; rfl
theorem LvG.start {l : Lv} (h : LvG l) {k : Nat} (hk : k < l.ps.length) : 0 ≤ (pcA l.ps k).1 ∧ (pcA l.ps k).1 < l.m.length := by
  have := h.ok.len
  have := (h.ok.s (by omega)).nn (k := k) (by rw [List.length_map]; exact hk)
  rw [st_cellC] at this
  omega
theorem LvG.upAsc {l : Lv} (h : LvG l) : Asc (upM l) ∧ Bnd (upM l) := by
  have lpl := h.ok.len
  constructor
  · intro i j a b
    rw [upM_len] at b
    rw [upM_cell (by omega), upM_cell b]
    have hS := h.ok.s (by omega)
    have s1 := h.start (k := i) (by omega)
    have s2 := h.start b
    have key : ∀ j, i < j → j < l.ps.length → (pcA l.ps i).1 < (pcA l.ps j).1 := by
      intro j
      induction j with
      | zero => intro a; omega
      | succ j ih =>
        intro a b
        have := hS.asc j (by rw [List.length_map]; omega)
        rw [st_cellC, st_cellC] at this
        by_cases c : i = j
        · subst c; exact this
        · have := ih (by omega) (by omega)
          omega
    have := key j a b
    have := h.asc (pcA l.ps i).1.toNat (pcA l.ps j).1.toNat (by omega) (by omega)
    rw [show (((pcA l.ps i).1.toNat : Nat) : Int) = (pcA l.ps i).1 by omega, show (((pcA l.ps j).1.toNat : Nat) : Int) = (pcA l.ps j).1 by omega] at this
    exact this
  · intro i b
    rw [upM_len] at b
    rw [upM_cell b]
    have s1 := h.start b
    have := h.bnd (pcA l.ps i).1.toNat (by omega)
    rw [show (((pcA l.ps i).1.toNat : Nat) : Int) = (pcA l.ps i).1 by omega] at this
    exact this
abbrev ixM (v : List Int) (Ls : List Lv) : MV := .obj 5 [.lst (v.map .int), .lst (Ls.map lvM)]
theorem w_index_init (v : List Int) (e u : Int) (hl : v.length < 1900) (hb : Bnd v) (ha : Asc v) (e0 : 0 ≤ e) (e1 : e < 2 ^ 59) (u0 : 0 ≤ u) (u1 : u < 2 ^ 59) (Q : OV → Env → Prop) (E : Int → Prop)
    (h : ∀ Ls, Chn v e u Ls → (lvA Ls (Ls.length - 1)).ps.length ≤ 1 → Ls.length ≤ v.length + 1 → ∀ s1 s2 s3 s4 s5 s6, Q (.fro .non) [.rf (.obj 5 [.fro (.lst (v.map .int)), .lst (Ls.map lvM)]), s1, s2, s3, s4, s5, s6]) :
    F_Index_init__ [.rf (.obj 5 []), .ow (.fro (.lst (v.map .int))), .ow (.fro (.int e)), .ow (.fro (.int u))] Q E := by
  refine F_Index_init__.mk ?_
  walk_at "go"
  refine w_level_init v e (by omega) hb ha e0 e1 _ _ fun ps hL _ _ _ _ => ?_
  walk_at "go"
  refine while_inv (fun M en => ∃ (Ls : List Lv) (s4 : Slot), en = [.rf (.obj 5 [.fro (.lst (v.map .int)), .lst (Ls.map lvM)]), .ow (.fro (.lst (v.map .int))), .ow (.fro (.int e)), .ow (.fro (.int u)), s4, .un, .un] ∧ isRf s4 = false ∧ M = (lvA Ls (Ls.length - 1)).ps.length ∧ Chn v e u Ls ∧ Ls.length + (lvA Ls (Ls.length - 1)).ps.length ≤ v.length + 1)
    _ ⟨[⟨v, e, ps⟩], .un, rfl, rfl, rfl, ⟨by simp, rfl, rfl, fun k hk => by simp at hk, fun k hk => ?_⟩, by have := hL.len; show 1 + ps.length ≤ _; omega⟩ ?_
  · have : k = 0 := by simpa using hk
    subst this
    exact ⟨hL, ha, hb, e0, e1⟩
  · rintro M en ⟨Ls, s4, rfl, q4, hM, hC, hl2⟩ N hN
    have ne := hC.ne
    have lLm : (Ls.map lvM).length = Ls.length := by simp
    have lg := hC.ok (Ls.length - 1) (by omega)
    have e3 : (-1 + (Ls.length : Int)).toNat = Ls.length - 1 := by omega
    walk_at "go"
    rw [e3]
    generalize hl : lvA Ls (Ls.length - 1) = l at *
    have lpm : (l.ps.map pcM).length = l.ps.length := by simp
    have lmm : (l.m.map MV.int).length = l.m.length := by simp
    have lpl := lg.ok.len
    walk_at "go"
    refine mdec (fun c => ?_) fun c => ?_
    · walk_at "go"
      rw [e3, hl]
      walk_at "go"
      refine lc_ty pcM (fun y => .int (cell l.m y.1)) _ (le_line (by omega)) (fun y hy Y q => ?_) ?_
      · obtain ⟨k, hk, rfl⟩ := List.getElem_of_mem hy
        have := lg.start hk
        have e1 : pcA l.ps k = l.ps[k] := by unfold pcA; rw [List.getD_eq_getElem?_getD, List.getElem?_eq_getElem hk]; rfl
        rw [e1] at this
        walk_at "go"
        exact q
      rw [show l.ps.map (fun y => MV.int (cell l.m y.1)) = (upM l).map .int by unfold upM; rw [List.map_map, List.map_map]; rfl]
      walk_at "go"
      have ul := upM_len l
      refine w_level_init (upM l) u (by omega) lg.upAsc.2 lg.upAsc.1 u0 u1 _ _ fun ps2 hL2 _ _ _ _ => ?_
      walk_at "go"
      have hfew := hL2.few
      have hlen2 := hL2.len
      have enew : lvA (Ls ++ [(⟨upM l, u, ps2⟩ : Lv)]) ((Ls ++ [(⟨upM l, u, ps2⟩ : Lv)]).length - 1) = ⟨upM l, u, ps2⟩ := by
        rw [show (Ls ++ [(⟨upM l, u, ps2⟩ : Lv)]).length - 1 = Ls.length by simp]
        exact lvA_new
      refine hN ps2.length _ (by omega) ⟨Ls ++ [⟨upM l, u, ps2⟩], .ow (.fro (lvM l)), by rw [List.map_append]; rfl, rfl, by rw [enew], ⟨by simp, ?_, ?_, fun k hk => ?_, fun k hk => ?_⟩, ?_⟩
      · rw [lvA_old ne]; exact hC.m0
      · rw [lvA_old ne]; exact hC.e0
      · rw [List.length_append, List.length_singleton] at hk
        by_cases z : k + 1 = Ls.length
        · rw [z, lvA_new, lvA_old (by omega), show k = Ls.length - 1 by omega, hl]
          exact ⟨rfl, rfl, by omega⟩
        · rw [lvA_old (by omega), lvA_old (by omega)]
          exact hC.up k (by omega)
      · rw [List.length_append, List.length_singleton] at hk
        by_cases z : k = Ls.length
        · rw [z, lvA_new]
          exact ⟨hL2, lg.upAsc.1, lg.upAsc.2, u0, u1⟩
        · rw [lvA_old (by omega)]
          exact hC.ok k (by omega)
      · rw [enew, List.length_append, List.length_singleton]
        show Ls.length + 1 + ps2.length ≤ _
        by_cases z : 2 ≤ ps2.length
        · have := hfew z
          omega
        · omega
    · walk_at "go"
      exact h Ls hC (by rw [hl]; omega) (by omega) _ _ _ _ _ _

end C
namespace C
open PySem PySem.Spec PyProof.Rows L2
local macro_rules | `(tactic| walk_at "ev") => `(tactic| (conv => whnf))
local macro_rules | `(tactic| walk_at "side") => `(tactic| (first | assumption | exact trivial | exact line1000 rfl | (show (0 : Int) < _; first | omega | decide) | exact rfl | exact smallof (by omega) (by omega) | exact ⟨smallof (by omega) (by omega), smallof (by omega) (by omega)⟩ | exact Or.inl (by omega) | exact Or.inr (Or.inl (by omega)) | exact cdiv_of (by omega) (by omega) | omega | exact lt_line (by omega) | exact le_line (by omega) | exact ⟨by decide, by decide, by decide⟩ | decide | fail))
local macro_rules | `(tactic| walk_at "go") => `(tactic| ((repeat' ((conv => whnf); first | refine And.intro (by walk_at "side") ?_ | walk_at "call" | walk_at "test" | fail)); try (conv => whnf)))
local macro_rules | `(tactic| walk_at "call") => `(tactic| (first | refine setE_go (by assumption) ?_ | fail))
local macro_rules | `(tactic| walk_at "test") => `(tactic| (first | refine mdec_yes (by omega) ?_ | refine mdec_no (by omega) ?_ | refine mdec_no (fun h => h rfl) ?_ | refine mndec_yes (by omega) ?_ | refine mndec_no (by omega) ?_ | fail))
local macro_rules | `(tactic| walk_at "call") => `(tactic| (first | refine gl0 ?_ | refine gl1 ?_ | refine gl2 ?_ | refine gl3 ?_ | refine at_go (by omega) (by omega) ?_ | refine at_goN (by omega) (by omega) ?_ | fail))
local macro_rules | `(tactic| walk_at "call") => `(tactic| (first | refine ints_go ?_ | refine bools_go ?_ | fail))
local macro_rules | `(tactic| walk_at "call") => `(tactic| (first | refine eqD_go (pl_ints _) (pl_ints _) ?_ | fail))
local macro_rules | `(tactic| walk_at "call") => `(tactic| (first | refine w_cell _ _ (by omega) _ _ (fun _ => ?_) | fail))
local macro_rules | `(tactic| walk_at "call") => `(tactic| (first | refine w_cell _ _ (by omega) _ _ (fun _ => ?_) | fail))
local macro_rules | `(tactic| walk_at "call") => `(tactic| (first | refine at_go (by omega) (by omega) ?_ | refine at_goN (by omega) (by omega) ?_ | refine atPr (by omega) (by omega) ?_ | refine atPrN (by omega) (by omega) ?_ | fail))
local macro_rules | `(tactic| walk_at "call") => `(tactic| (first | refine alls_go ?_ | fail))
local macro_rules | `(tactic| walk_at "call") => `(tactic| (first | refine eqD_go (pl_prs _) (pl_prs _) ?_ | fail))
local macro_rules | `(tactic| walk_at "call") => `(tactic| (first | refine at_go (by omega) (by omega) ?_ | refine at_goN (by omega) (by omega) ?_ | refine atPr (by omega) (by omega) ?_ | refine atPrN (by omega) (by omega) ?_ | refine atRg (by omega) (by omega) ?_ | refine atRgN (by omega) (by omega) ?_ | fail))
local macro_rules | `(tactic| walk_at "call") => `(tactic| (first | refine intsF_go ?_ | fail))
local macro_rules | `(tactic| walk_at "call") => `(tactic| (first | refine atPc (by omega) (by omega) ?_ | refine atRs (by omega) (by omega) ?_ | fail))
local macro_rules | `(tactic| walk_at "call") => `(tactic| (first | refine atLv (by omega) (by omega) ?_ | refine atLvN (by omega) (by omega) ?_ | fail))
/-! ### entries -/
abbrev En := Int × Option Int
def vM : Option Int → MV
  | none => .non
  | some v => .int v
def eM (x : En) : MV := .tup [.int x.1, vM x.2]
def enD : En := (0, none)
def eA (es : List En) (k : Nat) : En := es.getD k enD
theorem atE {xs : List En} {i : Int} {Q : MV → Prop} (h0 : 0 ≤ i) (h1 : i < xs.length) (q : Q (eM (eA xs i.toNat))) : gAt (xs.map eM) i Q := atT eM enD h0 h1 q
theorem atEN {xs : List En} {i : Int} {Q : MV → Prop} (h0 : i < 0) (h1 : 0 ≤ i + xs.length) (q : Q (eM (eA xs (i + xs.length).toNat))) : gAt (xs.map eM) i Q := atTN eM enD h0 h1 q
local macro_rules | `(tactic| walk_at "call") => `(tactic| (first | refine atE (by omega) (by omega) ?_ | refine atEN (by omega) (by omega) ?_ | fail))
/-- ascending keys, each near 0 -/
structure Srt (es : List En) : Prop where
  asc : es.Pairwise fun a b => a.1 < b.1
  bnd : ∀ x ∈ es, -(2 ^ 59) < x.1 ∧ x.1 < 2 ^ 59
theorem eA_g {es : List En} {i : Nat} (h : i < es.length) : es[i] = eA es i := by
  unfold eA
  rw [List.getD_eq_getElem?_getD, List.getElem?_eq_getElem h]; rfl
theorem eA_mem {es : List En} {i : Nat} (h : i < es.length) : eA es i ∈ es := by rw [← eA_g h]; exact List.getElem_mem h
theorem mem_eA {es : List En} {x : En} : x ∈ es ↔ ∃ i, i < es.length ∧ eA es i = x := by
  constructor
  · intro h
    obtain ⟨i, hi, e⟩ := List.getElem_of_mem h
    exact ⟨i, hi, by rw [← eA_g hi]; exact e⟩
  · rintro ⟨i, hi, rfl⟩
    exact eA_mem hi
theorem Srt.lt {es : List En} (h : Srt es) {i j : Nat} (a : i < j) (b : j < es.length) : (eA es i).1 < (eA es j).1 := by
  have := List.pairwise_iff_getElem.mp h.asc i j (by omega) b a
  rw [eA_g, eA_g] at this
  exact this
theorem Srt.nil : Srt [] := ⟨.nil, fun x hx => (by cases hx)⟩
theorem Srt.one {x : En} (h : -(2 ^ 59) < x.1 ∧ x.1 < 2 ^ 59) : Srt [x] := ⟨List.pairwise_singleton _ _, fun y hy => by rw [List.mem_singleton.mp hy]; exact h⟩
theorem Srt.filter {es : List En} (h : Srt es) (p : En → Bool) : Srt (es.filter p) := ⟨h.asc.filter _, fun x hx => h.bnd x (List.mem_filter.mp hx).1⟩
theorem Srt.key {es : List En} (h : Srt es) {x y : En} (hx : x ∈ es) (hy : y ∈ es) (e : x.1 = y.1) : x = y := by
  obtain ⟨i, hi, rfl⟩ := mem_eA.mp hx
  obtain ⟨j, hj, rfl⟩ := mem_eA.mp hy
  by_cases c : i < j
  · have := h.lt c hj; omega
  · by_cases d : j < i
    · have := h.lt d hi; omega
    · rw [show i = j by omega]
/-- ascending lists with the same entries -/
theorem Srt.eq {a b : List En} (ha : Srt a) (hb : Srt b) (h : ∀ y, y ∈ a ↔ y ∈ b) : a = b := by
  have nd : ∀ {l : List En}, Srt l → l.Nodup := fun hl => hl.asc.imp fun {a b} h e => by rw [e] at h; omega
  refine List.Perm.eq_of_pairwise (le := fun a b => a.1 < b.1) (fun a b _ _ h1 h2 => by omega) ha.asc hb.asc ?_
  exact (List.perm_ext_iff_of_nodup (nd ha) (nd hb)).mpr h
/-- two lists merged; the newer entry counts -/
structure Mg (new old f : List En) : Prop where
  srt : Srt f
  mem : ∀ x, x ∈ f ↔ x ∈ new ∨ (x ∈ old ∧ ∀ y ∈ new, y.1 ≠ x.1)
  len : f.length ≤ new.length + old.length
theorem Mg.uniq {new old f g : List En} (a : Mg new old f) (b : Mg new old g) : f = g := a.srt.eq b.srt fun y => by rw [a.mem, b.mem]
theorem Srt.snoc {f : List En} {z : En} (h : Srt f) (k : ∀ y ∈ f, y.1 < z.1) (b : -(2 ^ 59) < z.1 ∧ z.1 < 2 ^ 59) : Srt (f ++ [z]) := by
  refine ⟨List.pairwise_append.mpr ⟨h.asc, List.pairwise_singleton _ _, fun a ha c hc => ?_⟩, fun x hx => ?_⟩
  · rw [List.mem_singleton.mp hc]
    exact k a ha
  · rcases List.mem_append.mp hx with q | q
    · exact h.bnd x q
    · rw [List.mem_singleton.mp q]; exact b
theorem takeE {v : List En} {i : Nat} (h : i < v.length) : v.take (i + 1) = v.take i ++ [eA v i] := by
  rw [List.take_succ, List.getElem?_eq_getElem h, eA_g h]; rfl
/-- what merged has found: i entries of v (newer), p of w seen -/
structure MgI (v w f : List En) (i p : Nat) : Prop where
  srt : Srt f
  mem : ∀ y, y ∈ f ↔ y ∈ v.take i ∨ (y ∈ w.take p ∧ ∀ z ∈ v.take i, z.1 ≠ y.1)
  pw : p ≤ w.length
  lw : p < w.length → ∀ y ∈ f, y.1 < (eA w p).1
  lv : i < v.length → ∀ y ∈ f, y.1 < (eA v i).1
  len : f.length ≤ i + p
theorem mem_takeE {v : List En} {i : Nat} {x : En} (hi : i ≤ v.length) : x ∈ v.take i ↔ ∃ k, k < i ∧ eA v k = x := by
  constructor
  · intro h
    obtain ⟨k, hk, rfl⟩ := List.getElem_of_mem h
    rw [List.length_take] at hk
    exact ⟨k, by omega, by rw [List.getElem_take, eA_g (by omega)]⟩
  · rintro ⟨k, hk, rfl⟩
    rw [← eA_g (show k < v.length by omega)]
    exact List.mem_of_getElem? (i := k) (by rw [List.getElem?_take, if_pos hk, List.getElem?_eq_getElem])
theorem MgI.other {v w f : List En} {i p : Nat} (h : MgI v w f i p) (sv : Srt v) (sw : Srt w) (hi : i < v.length) (hp : p < w.length) (c : (eA w p).1 < (eA v i).1) : MgI v w (f ++ [eA w p]) i (p + 1) := by
  refine ⟨h.srt.snoc (h.lw hp) (sw.bnd _ (eA_mem hp)), fun y => ?_, by omega, fun q y hy => ?_, fun q y hy => ?_, by simp; have := h.len; omega⟩
  · rw [takeE hp, List.mem_append, List.mem_append, h.mem, List.mem_singleton]
    constructor
    · rintro ((a | ⟨a, b⟩) | a)
      · exact .inl a
      · exact .inr ⟨.inl a, b⟩
      · subst a
        refine .inr ⟨.inr rfl, fun z hz e => ?_⟩
        have := h.lw hp z ((h.mem z).mpr (.inl hz))
        omega
    · rintro (a | ⟨a | a, b⟩)
      · exact .inl (.inl a)
      · exact .inl (.inr ⟨a, b⟩)
      · exact .inr a
  · have := sw.lt (show p < p + 1 by omega) q
    rcases List.mem_append.mp hy with a | a
    · have := h.lw hp y a
      omega
    · rw [List.mem_singleton.mp a]; exact this
  · rcases List.mem_append.mp hy with a | a
    · exact h.lv q y a
    · rw [List.mem_singleton.mp a]; exact c
theorem MgI.own {v w f : List En} {i p : Nat} (h : MgI v w f i p) (sv : Srt v) (sw : Srt w) (hi : i < v.length) (c : p < w.length → (eA v i).1 < (eA w p).1) : MgI v w (f ++ [eA v i]) (i + 1) p := by
  refine ⟨h.srt.snoc (h.lv hi) (sv.bnd _ (eA_mem hi)), fun y => ?_, h.pw, fun q y hy => ?_, fun q y hy => ?_, by simp; have := h.len; omega⟩
  · rw [takeE hi, List.mem_append, List.mem_append, h.mem, List.mem_singleton]
    constructor
    · rintro ((a | ⟨a, b⟩) | a)
      · exact .inl (.inl a)
      · refine .inr ⟨a, fun z hz => ?_⟩
        rcases List.mem_append.mp hz with k | k
        · exact b z k
        · rw [List.mem_singleton.mp k]
          intro e
          have := h.lv hi y ((h.mem y).mpr (.inr ⟨a, b⟩))
          omega
      · exact .inl (.inr a)
    · rintro ((a | a) | ⟨a, b⟩)
      · exact .inl (.inl a)
      · exact .inr a
      · exact .inl (.inr ⟨a, fun z hz => b z (List.mem_append_left _ hz)⟩)
  · rcases List.mem_append.mp hy with a | a
    · exact h.lw q y a
    · rw [List.mem_singleton.mp a]; exact c q
  · have := sv.lt (show i < i + 1 by omega) q
    rcases List.mem_append.mp hy with a | a
    · have := h.lv hi y a
      omega
    · rw [List.mem_singleton.mp a]; exact this
theorem MgI.both {v w f : List En} {i p : Nat} (h : MgI v w f i p) (sv : Srt v) (sw : Srt w) (hi : i < v.length) (hp : p < w.length) (c : (eA w p).1 = (eA v i).1) : MgI v w (f ++ [eA v i]) (i + 1) (p + 1) := by
  refine ⟨h.srt.snoc (h.lv hi) (sv.bnd _ (eA_mem hi)), fun y => ?_, by omega, fun q y hy => ?_, fun q y hy => ?_, by simp; have := h.len; omega⟩
  · rw [takeE hi, takeE hp, List.mem_append, List.mem_append, List.mem_append, h.mem, List.mem_singleton, List.mem_singleton]
    constructor
    · rintro ((a | ⟨a, b⟩) | a)
      · exact .inl (.inl a)
      · refine .inr ⟨.inl a, fun z hz => ?_⟩
        rcases List.mem_append.mp hz with k | k
        · exact b z k
        · rw [List.mem_singleton.mp k]
          intro e
          have := h.lv hi y ((h.mem y).mpr (.inr ⟨a, b⟩))
          omega
      · exact .inl (.inr a)
    · rintro ((a | a) | ⟨a | a, b⟩)
      · exact .inl (.inl a)
      · exact .inr a
      · exact .inl (.inr ⟨a, fun z hz => b z (List.mem_append_left _ hz)⟩)
      · subst a
        exact absurd c.symm (b _ (List.mem_append_right _ (List.mem_singleton.mpr rfl)))
  · have := sw.lt (show p < p + 1 by omega) q
    rcases List.mem_append.mp hy with a | a
    · have := h.lw hp y a
      omega
    · rw [List.mem_singleton.mp a]; omega
  · have := sv.lt (show i < i + 1 by omega) q
    rcases List.mem_append.mp hy with a | a
    · have := h.lv hi y a
      omega
    · rw [List.mem_singleton.mp a]; exact this
theorem MgI.end_ {v w f : List En} {p : Nat} (h : MgI v w f v.length p) (sw : Srt w) : Mg v w (f ++ w.drop p) := by
  have hp := h.pw
  refine ⟨⟨List.pairwise_append.mpr ⟨h.srt.asc, sw.asc.drop, fun a ha b hb => ?_⟩, fun x hx => ?_⟩, fun y => ?_, ?_⟩
  · obtain ⟨k, hk, rfl⟩ := List.getElem_of_mem hb
    rw [List.length_drop] at hk
    rw [List.getElem_drop, eA_g (by omega)]
    have := h.lw (by omega) a ha
    by_cases z : k = 0
    · subst z; exact this
    · have := sw.lt (show p < p + k by omega) (by omega)
      omega
  · rcases List.mem_append.mp hx with q | q
    · exact h.srt.bnd x q
    · exact sw.bnd x (List.mem_of_mem_drop q)
  · rw [List.mem_append, h.mem, List.take_length]
    constructor
    · rintro ((a | ⟨a, b⟩) | a)
      · exact .inl a
      · exact .inr ⟨List.mem_of_mem_take a, b⟩
      · refine .inr ⟨List.mem_of_mem_drop a, fun z hz e => ?_⟩
        obtain ⟨k, hk, rfl⟩ := List.getElem_of_mem a
        rw [List.length_drop] at hk
        rw [List.getElem_drop, eA_g (by omega)] at e
        have := h.lw (by omega) z ((h.mem z).mpr (.inl (by rw [List.take_length]; exact hz)))
        by_cases q : k = 0
        · subst q
          rw [Nat.add_zero] at e
          omega
        · have := sw.lt (show p < p + k by omega) (by omega)
          omega
    · rintro (a | ⟨a, b⟩)
      · exact .inl (.inl a)
      · rw [← List.take_append_drop p w] at a
        rcases List.mem_append.mp a with k | k
        · exact .inl (.inr ⟨k, b⟩)
        · exact .inr k
  · rw [List.length_append, List.length_drop]
    have := h.len
    omega

end C
namespace C
open PySem PySem.Spec PyProof.Rows L2
local macro_rules | `(tactic| walk_at "ev") => `(tactic| (conv => whnf))
local macro_rules | `(tactic| walk_at "side") => `(tactic| (first | assumption | exact trivial | exact line1000 rfl | (show (0 : Int) < _; first | omega | decide) | exact rfl | exact smallof (by omega) (by omega) | exact ⟨smallof (by omega) (by omega), smallof (by omega) (by omega)⟩ | exact Or.inl (by omega) | exact Or.inr (Or.inl (by omega)) | exact cdiv_of (by omega) (by omega) | omega | exact lt_line (by omega) | exact le_line (by omega) | exact ⟨by decide, by decide, by decide⟩ | decide | fail))
local macro_rules | `(tactic| walk_at "go") => `(tactic| ((repeat' ((conv => whnf); first | refine And.intro (by walk_at "side") ?_ | walk_at "call" | walk_at "test" | fail)); try (conv => whnf)))
local macro_rules | `(tactic| walk_at "call") => `(tactic| (first | refine setE_go (by assumption) ?_ | fail))
local macro_rules | `(tactic| walk_at "test") => `(tactic| (first | refine mdec_yes (by omega) ?_ | refine mdec_no (by omega) ?_ | refine mdec_no (fun h => h rfl) ?_ | refine mndec_yes (by omega) ?_ | refine mndec_no (by omega) ?_ | fail))
local macro_rules | `(tactic| walk_at "call") => `(tactic| (first | refine gl0 ?_ | refine gl1 ?_ | refine gl2 ?_ | refine gl3 ?_ | refine at_go (by omega) (by omega) ?_ | refine at_goN (by omega) (by omega) ?_ | fail))
local macro_rules | `(tactic| walk_at "call") => `(tactic| (first | refine ints_go ?_ | refine bools_go ?_ | fail))
local macro_rules | `(tactic| walk_at "call") => `(tactic| (first | refine eqD_go (pl_ints _) (pl_ints _) ?_ | fail))
local macro_rules | `(tactic| walk_at "call") => `(tactic| (first | refine w_cell _ _ (by omega) _ _ (fun _ => ?_) | fail))
local macro_rules | `(tactic| walk_at "call") => `(tactic| (first | refine w_cell _ _ (by omega) _ _ (fun _ => ?_) | fail))
local macro_rules | `(tactic| walk_at "call") => `(tactic| (first | refine at_go (by omega) (by omega) ?_ | refine at_goN (by omega) (by omega) ?_ | refine atPr (by omega) (by omega) ?_ | refine atPrN (by omega) (by omega) ?_ | fail))
local macro_rules | `(tactic| walk_at "call") => `(tactic| (first | refine alls_go ?_ | fail))
local macro_rules | `(tactic| walk_at "call") => `(tactic| (first | refine eqD_go (pl_prs _) (pl_prs _) ?_ | fail))
local macro_rules | `(tactic| walk_at "call") => `(tactic| (first | refine at_go (by omega) (by omega) ?_ | refine at_goN (by omega) (by omega) ?_ | refine atPr (by omega) (by omega) ?_ | refine atPrN (by omega) (by omega) ?_ | refine atRg (by omega) (by omega) ?_ | refine atRgN (by omega) (by omega) ?_ | fail))
local macro_rules | `(tactic| walk_at "call") => `(tactic| (first | refine intsF_go ?_ | fail))
local macro_rules | `(tactic| walk_at "call") => `(tactic| (first | refine atPc (by omega) (by omega) ?_ | refine atRs (by omega) (by omega) ?_ | fail))
local macro_rules | `(tactic| walk_at "call") => `(tactic| (first | refine atLv (by omega) (by omega) ?_ | refine atLvN (by omega) (by omega) ?_ | fail))
local macro_rules | `(tactic| walk_at "call") => `(tactic| (first | refine atE (by omega) (by omega) ?_ | refine atEN (by omega) (by omega) ?_ | fail))
/-! ### merged -/
theorem getE {xs : List En} {i : Nat} {m : MV} (h : (xs.map eM)[i]? = some m) : i < xs.length ∧ m = eM (eA xs i) := by
  rw [List.getElem?_map] at h
  cases e : xs[i]? with
  | none => rw [e] at h; cases h
  | some x =>
    rw [e] at h
    have hl : i < xs.length := Classical.not_not.mp fun z => by rw [List.getElem?_eq_none (by omega)] at e; cases e
    refine ⟨hl, ?_⟩
    rw [← eA_g hl]
    rw [List.getElem?_eq_getElem hl] at e
    cases e
    exact (Option.some.inj h).symm
theorem w_merged {v w : List En} (sv : Srt v) (sw : Srt w) (lv : v.length < 2500) (lw : w.length < 2500) (Q : OV → Env → Prop) (E : Int → Prop)
    (k : ∀ f, Mg v w f → ∀ en, Q (.fro (.lst (f.map eM))) en) : F_merged [.ow (.fro (.lst (v.map eM))), .ow (.fro (.lst (w.map eM)))] Q E := by
  refine F_merged.mk ?_
  have lvm : (v.map eM).length = v.length := by simp
  have lwm : (w.map eM).length = w.length := by simp
  walk_at "go"
  refine for_inv (fun i en => ∃ (f : List En) (p : Nat) (s4 : Slot), en = [.ow (.fro (.lst (v.map eM))), .ow (.fro (.lst (w.map eM))), .ow (.lst (f.map eM)), .ow (.fro (.int p)), s4] ∧ isRf s4 = false ∧ MgI v w f i p) ⟨[], 0, .un, rfl, rfl, ⟨Srt.nil, fun y => by simp, by omega, fun _ y hy => (by cases hy), fun _ y hy => (by cases hy), by simp⟩⟩ ?_ ?_
  · rintro en ⟨f, p, s4, rfl, q4, ht⟩
    rw [lvm] at ht
    have lf := ht.len
    have pw := ht.pw
    have lfm : (f.map eM).length = f.length := by simp
    have e1 := ht.end_ sw
    have ec : cutM (w.map eM) (some (p : Int)) none = (w.drop p).map eM := by rw [cut_from _ (by omega), Int.toNat_natCast, List.map_drop]
    walk_at "go"
    rw [ec]
    refine ⟨le_line (by simp; omega), ?_⟩
    rw [← List.map_append]
    exact k (f ++ w.drop p) e1 _
  · rintro i m en hi ⟨f, p, s4, rfl, q4, ht⟩ N hN
    obtain ⟨hi1, rfl⟩ := getE hi
    clear hi
    walk_at "go"
    refine while_inv (fun n en => ∃ (f : List En) (p : Nat), en = [.ow (.fro (.lst (v.map eM))), .ow (.fro (.lst (w.map eM))), .ow (.lst (f.map eM)), .ow (.fro (.int p)), .ow (.fro (eM (eA v i)))] ∧ MgI v w f i p ∧ n = w.length - p) (w.length - p) ⟨f, p, rfl, ht, rfl⟩ ?_
    rintro n en ⟨f, p, rfl, ht, rfl⟩ N2 hN2
    have lf := ht.len
    have pw := ht.pw
    have lfm : (f.map eM).length = f.length := by simp
    walk_at "go"
    refine mdec (fun c => ?_) fun c => ?_
    · walk_at "go"
      refine mdec (fun d => ?_) fun d => ?_
      · walk_at "go"
        refine hN2 (w.length - (p + 1)) _ (by omega) ⟨_, p + 1, ?_, ht.other sv sw hi1 (by omega) d, rfl⟩
        rw [List.map_append]; rfl
      · walk_at "go"
        refine if_go ?_
        walk_at "go"
        refine mdec (fun b => ?_) fun b => ?_
        · walk_at "go"
          exact hN _ ⟨_, p + 1, .ow (.fro (eM (eA v i))), by rw [List.map_append]; rfl, rfl, ht.both sv sw hi1 (by omega) b⟩
        · walk_at "go"
          exact hN _ ⟨_, p, .ow (.fro (eM (eA v i))), by rw [List.map_append]; rfl, rfl, ht.own sv sw hi1 fun _ => by have d' : ¬ (eA w p).1 < (eA v i).1 := d; have b' : ¬ (eA w p).1 = (eA v i).1 := b; omega⟩
    · walk_at "go"
      refine if_go ?_
      walk_at "go"
      exact hN _ ⟨_, p, .ow (.fro (eM (eA v i))), by rw [List.map_append]; rfl, rfl, ht.own sv sw hi1 fun q => by omega⟩

end C
namespace C
open PySem PySem.Spec PyProof.Rows L2
local macro_rules | `(tactic| walk_at "ev") => `(tactic| (conv => whnf))
local macro_rules | `(tactic| walk_at "side") => `(tactic| (first | assumption | exact trivial | exact line1000 rfl | (show (0 : Int) < _; first | omega | decide) | exact rfl | exact smallof (by omega) (by omega) | exact ⟨smallof (by omega) (by omega), smallof (by omega) (by omega)⟩ | exact Or.inl (by omega) | exact Or.inr (Or.inl (by omega)) | exact cdiv_of (by omega) (by omega) | omega | exact lt_line (by omega) | exact le_line (by omega) | exact ⟨by decide, by decide, by decide⟩ | decide | fail))
local macro_rules | `(tactic| walk_at "go") => `(tactic| ((repeat' ((conv => whnf); first | refine And.intro (by walk_at "side") ?_ | walk_at "call" | walk_at "test" | fail)); try (conv => whnf)))
local macro_rules | `(tactic| walk_at "call") => `(tactic| (first | refine setE_go (by assumption) ?_ | fail))
local macro_rules | `(tactic| walk_at "test") => `(tactic| (first | refine mdec_yes (by omega) ?_ | refine mdec_no (by omega) ?_ | refine mdec_no (fun h => h rfl) ?_ | refine mndec_yes (by omega) ?_ | refine mndec_no (by omega) ?_ | fail))
local macro_rules | `(tactic| walk_at "call") => `(tactic| (first | refine gl0 ?_ | refine gl1 ?_ | refine gl2 ?_ | refine gl3 ?_ | refine at_go (by omega) (by omega) ?_ | refine at_goN (by omega) (by omega) ?_ | fail))
local macro_rules | `(tactic| walk_at "call") => `(tactic| (first | refine ints_go ?_ | refine bools_go ?_ | fail))
local macro_rules | `(tactic| walk_at "call") => `(tactic| (first | refine eqD_go (pl_ints _) (pl_ints _) ?_ | fail))
local macro_rules | `(tactic| walk_at "call") => `(tactic| (first | refine w_cell _ _ (by omega) _ _ (fun _ => ?_) | fail))
local macro_rules | `(tactic| walk_at "call") => `(tactic| (first | refine w_cell _ _ (by omega) _ _ (fun _ => ?_) | fail))
local macro_rules | `(tactic| walk_at "call") => `(tactic| (first | refine at_go (by omega) (by omega) ?_ | refine at_goN (by omega) (by omega) ?_ | refine atPr (by omega) (by omega) ?_ | refine atPrN (by omega) (by omega) ?_ | fail))
local macro_rules | `(tactic| walk_at "call") => `(tactic| (first | refine alls_go ?_ | fail))
local macro_rules | `(tactic| walk_at "call") => `(tactic| (first | refine eqD_go (pl_prs _) (pl_prs _) ?_ | fail))
local macro_rules | `(tactic| walk_at "call") => `(tactic| (first | refine at_go (by omega) (by omega) ?_ | refine at_goN (by omega) (by omega) ?_ | refine atPr (by omega) (by omega) ?_ | refine atPrN (by omega) (by omega) ?_ | refine atRg (by omega) (by omega) ?_ | refine atRgN (by omega) (by omega) ?_ | fail))
local macro_rules | `(tactic| walk_at "call") => `(tactic| (first | refine intsF_go ?_ | fail))
local macro_rules | `(tactic| walk_at "call") => `(tactic| (first | refine atPc (by omega) (by omega) ?_ | refine atRs (by omega) (by omega) ?_ | fail))
local macro_rules | `(tactic| walk_at "call") => `(tactic| (first | refine atLv (by omega) (by omega) ?_ | refine atLvN (by omega) (by omega) ?_ | fail))
local macro_rules | `(tactic| walk_at "call") => `(tactic| (first | refine atE (by omega) (by omega) ?_ | refine atEN (by omega) (by omega) ?_ | fail))
/-! ### a store -/
abbrev Rn := List En × List Lv
def rO : Option Rn → MV
  | none => .non
  | some r => .obj 6 [.lst (r.1.map eM), ixM (r.1.map Prod.fst) r.2]
def roD : Option Rn := none
def roA (rs : List (Option Rn)) (k : Nat) : Option Rn := rs.getD k none
theorem atRo {xs : List (Option Rn)} {i : Int} {Q : MV → Prop} (h0 : 0 ≤ i) (h1 : i < xs.length) (q : Q (rO (roA xs i.toNat))) : gAt (xs.map rO) i Q := atT rO none h0 h1 q
local macro_rules | `(tactic| walk_at "call") => `(tactic| (first | refine atRo (by omega) (by omega) ?_ | fail))
theorem roA_g {rs : List (Option Rn)} {i : Nat} (h : i < rs.length) : rs[i] = roA rs i := by
  unfold roA
  rw [List.getD_eq_getElem?_getD, List.getElem?_eq_getElem h]; rfl
abbrev StO (mv ed cap er : Int) (buf : List En) (rs : List (Option Rn)) : OV := .obj 7 [.fro (.int mv), .fro (.int ed), .fro (.int cap), .fro (.int er), .fro (.lst (buf.map eM)), .lst (rs.map rO)]
/-- a run that is right -/
structure RnG (r : Rn) : Prop where
  ne : r.1 ≠ []
  srt : Srt r.1
  ix : ∃ e u, Chn (r.1.map Prod.fst) e u r.2
  one : (lvA r.2 (r.2.length - 1)).ps.length ≤ 1
  lLs : r.2.length ≤ r.1.length + 1
theorem keys_cell {es : List En} {i : Nat} (h : i < es.length) : cell (es.map Prod.fst) (i : Int) = (eA es i).1 := by
  unfold cell eA
  rw [Int.toNat_natCast, List.getD_eq_getElem?_getD, List.getD_eq_getElem?_getD, List.getElem?_map, List.getElem?_eq_getElem h]; rfl
theorem Srt.keys {es : List En} (h : Srt es) : Asc (es.map Prod.fst) ∧ Bnd (es.map Prod.fst) := by
  constructor
  · intro i j a b
    rw [List.length_map] at b
    rw [keys_cell (by omega), keys_cell b]
    exact h.lt a b
  · intro i b
    rw [List.length_map] at b
    rw [keys_cell b]
    exact h.bnd _ (eA_mem b)
theorem w_run_init {es : List En} (h : Srt es) (hl : es.length < 1900) (ne : es ≠ []) (er : Int) (e0 : 0 ≤ er) (e1 : er < 2 ^ 59) (Q : OV → Env → Prop) (E : Int → Prop)
    (k : ∀ Ls, RnG (es, Ls) → ∀ s1 s2 s3 s4, Q (.fro .non) [.rf (.obj 6 [.fro (.lst (es.map eM)), .fro (ixM (es.map Prod.fst) Ls)]), s1, s2, s3, s4]) :
    F_Run_init__ [.rf (.obj 6 []), .ow (.fro (.lst (es.map eM))), .ow (.fro (.int er))] Q E := by
  refine F_Run_init__.mk ?_
  walk_at "go"
  refine lc_ty eM (fun x => .int x.1) _ (le_line (by omega)) (fun x hx Y q => ?_) ?_
  · walk_at "go"
    exact q
  rw [show es.map (fun x => MV.int x.1) = (es.map Prod.fst).map .int by rw [List.map_map]; rfl]
  walk_at "go"
  refine w_index_init (es.map Prod.fst) er 1 (by rw [List.length_map]; exact hl) h.keys.2 h.keys.1 e0 e1 (by omega) (by omega) _ _ fun Ls hC one lLs _ _ _ _ _ _ => ?_
  rw [List.length_map] at lLs
  walk_at "go"
  exact k Ls ⟨ne, h, ⟨_, _, hC⟩, one, lLs⟩ _ _ _ _
theorem w_store_init (cap er : Int) (Q : OV → Env → Prop) (E : Int → Prop) (k : ∀ s1 s2, Q (.fro .non) [.rf (StO 0 0 cap er [] []), s1, s2]) : F_Store_init__ [.rf (.obj 7 []), .ow (.fro (.int cap)), .ow (.fro (.int er))] Q E := by
  refine F_Store_init__.mk ?_
  walk_at "go"
  exact k _ _
/-- the runs up to level L merged with the buffer: the entries, the moves -/
inductive Fl (rs : List (Option Rn)) (buf : List En) : Nat → List En → Int → Prop
  | z : Fl rs buf 0 buf buf.length
  | s {i : Nat} {E F : List En} {mv : Int} {r : Rn} : Fl rs buf i E mv → i < rs.length → roA rs i = some r → Mg E r.1 F → Fl rs buf (i + 1) F (mv + r.1.length)
theorem Fl.uniq {rs : List (Option Rn)} {buf : List En} : ∀ {i : Nat} {E F : List En} {m n : Int}, Fl rs buf i E m → Fl rs buf i F n → E = F ∧ m = n
  | 0, _, _, _, _, .z, .z => ⟨rfl, rfl⟩
  | i + 1, _, _, _, _, .s a _ h1 m1, .s b _ h2 m2 => by
    obtain ⟨rfl, rfl⟩ := Fl.uniq a b
    rw [h1] at h2
    cases h2
    exact ⟨m1.uniq m2, rfl⟩
theorem Fl.some {rs : List (Option Rn)} {buf : List En} : ∀ {i : Nat} {E : List En} {m : Int}, Fl rs buf i E m → ∀ k, k < i → k < rs.length ∧ ∃ r, roA rs k = some r
  | 0, _, _, _, k, h => by omega
  | i + 1, _, _, .s a hi h1 _, k, h => by
    by_cases c : k = i
    · subst c; exact ⟨hi, _, h1⟩
    · exact Fl.some a k (by omega)
def szR : Option Rn → Nat
  | none => 0
  | some r => r.1.length
def tot (rs : List (Option Rn)) : Nat := (rs.map szR).sum
theorem Fl.len {rs : List (Option Rn)} {buf : List En} : ∀ {i : Nat} {E : List En} {m : Int}, Fl rs buf i E m → E.length ≤ buf.length + tot (rs.take i)
  | 0, _, _, .z => by simp
  | i + 1, _, _, .s (r := r) a hi h1 g => by
    have := Fl.len a
    have := g.len
    have e : tot (rs.take (i + 1)) = tot (rs.take i) + r.1.length := by
      unfold tot
      rw [List.take_succ, List.getElem?_eq_getElem hi, roA_g hi, h1]
      simp [szR]
    omega
theorem Fl.srt {rs : List (Option Rn)} {buf : List En} (hb : Srt buf) : ∀ {i : Nat} {E : List En} {m : Int}, Fl rs buf i E m → Srt E
  | 0, _, _, .z => hb
  | _ + 1, _, _, .s _ _ _ g => g.srt

end C
namespace C
open PySem PySem.Spec PyProof.Rows L2
local macro_rules | `(tactic| walk_at "ev") => `(tactic| (conv => whnf))
local macro_rules | `(tactic| walk_at "side") => `(tactic| (first | assumption | exact trivial | exact line1000 rfl | (show (0 : Int) < _; first | omega | decide) | exact rfl | exact smallof (by omega) (by omega) | exact ⟨smallof (by omega) (by omega), smallof (by omega) (by omega)⟩ | exact Or.inl (by omega) | exact Or.inr (Or.inl (by omega)) | exact cdiv_of (by omega) (by omega) | omega | exact lt_line (by omega) | exact le_line (by omega) | exact ⟨by decide, by decide, by decide⟩ | decide | fail))
local macro_rules | `(tactic| walk_at "go") => `(tactic| ((repeat' ((conv => whnf); first | refine And.intro (by walk_at "side") ?_ | walk_at "call" | walk_at "test" | fail)); try (conv => whnf)))
local macro_rules | `(tactic| walk_at "call") => `(tactic| (first | refine setE_go (by assumption) ?_ | fail))
local macro_rules | `(tactic| walk_at "test") => `(tactic| (first | refine mdec_yes (by omega) ?_ | refine mdec_no (by omega) ?_ | refine mdec_no (fun h => h rfl) ?_ | refine mndec_yes (by omega) ?_ | refine mndec_no (by omega) ?_ | fail))
local macro_rules | `(tactic| walk_at "call") => `(tactic| (first | refine gl0 ?_ | refine gl1 ?_ | refine gl2 ?_ | refine gl3 ?_ | refine at_go (by omega) (by omega) ?_ | refine at_goN (by omega) (by omega) ?_ | fail))
local macro_rules | `(tactic| walk_at "call") => `(tactic| (first | refine ints_go ?_ | refine bools_go ?_ | fail))
local macro_rules | `(tactic| walk_at "call") => `(tactic| (first | refine eqD_go (pl_ints _) (pl_ints _) ?_ | fail))
local macro_rules | `(tactic| walk_at "call") => `(tactic| (first | refine w_cell _ _ (by omega) _ _ (fun _ => ?_) | fail))
local macro_rules | `(tactic| walk_at "call") => `(tactic| (first | refine w_cell _ _ (by omega) _ _ (fun _ => ?_) | fail))
local macro_rules | `(tactic| walk_at "call") => `(tactic| (first | refine at_go (by omega) (by omega) ?_ | refine at_goN (by omega) (by omega) ?_ | refine atPr (by omega) (by omega) ?_ | refine atPrN (by omega) (by omega) ?_ | fail))
local macro_rules | `(tactic| walk_at "call") => `(tactic| (first | refine alls_go ?_ | fail))
local macro_rules | `(tactic| walk_at "call") => `(tactic| (first | refine eqD_go (pl_prs _) (pl_prs _) ?_ | fail))
local macro_rules | `(tactic| walk_at "call") => `(tactic| (first | refine at_go (by omega) (by omega) ?_ | refine at_goN (by omega) (by omega) ?_ | refine atPr (by omega) (by omega) ?_ | refine atPrN (by omega) (by omega) ?_ | refine atRg (by omega) (by omega) ?_ | refine atRgN (by omega) (by omega) ?_ | fail))
local macro_rules | `(tactic| walk_at "call") => `(tactic| (first | refine intsF_go ?_ | fail))
local macro_rules | `(tactic| walk_at "call") => `(tactic| (first | refine atPc (by omega) (by omega) ?_ | refine atRs (by omega) (by omega) ?_ | fail))
local macro_rules | `(tactic| walk_at "call") => `(tactic| (first | refine atLv (by omega) (by omega) ?_ | refine atLvN (by omega) (by omega) ?_ | fail))
local macro_rules | `(tactic| walk_at "call") => `(tactic| (first | refine atE (by omega) (by omega) ?_ | refine atEN (by omega) (by omega) ?_ | fail))
local macro_rules | `(tactic| walk_at "call") => `(tactic| (first | refine atRo (by omega) (by omega) ?_ | fail))
/-! ### flush and write -/
def flR (rs : List (Option Rn)) (L : Nat) (x : Option Rn) : List (Option Rn) := List.replicate L none ++ x :: rs.drop (L + 1)
abbrev fl0 (rs : List (Option Rn)) (L : Nat) : List (Option Rn) := List.replicate L none ++ rs.drop L
theorem fl0_len {rs : List (Option Rn)} {L : Nat} (h : L ≤ rs.length) : (fl0 rs L).length = rs.length := by simp; omega
theorem fl0_at {rs : List (Option Rn)} {L : Nat} (h : L < rs.length) : roA (fl0 rs L) L = roA rs L := by
  unfold roA
  rw [List.getD_eq_getElem?_getD, List.getD_eq_getElem?_getD, List.getElem?_append_right (by simp)]
  simp
theorem fl0_set {rs : List (Option Rn)} {L : Nat} (h : L < rs.length) (x : Option Rn) : (fl0 rs L).set L x = flR rs L x := by
  show (List.replicate L none ++ rs.drop L).set L x = List.replicate L none ++ x :: rs.drop (L + 1)
  rw [List.set_append_right _ _ (by simp), List.length_replicate, Nat.sub_self, List.drop_eq_getElem_cons h]
  rfl
theorem flR_succ {rs : List (Option Rn)} {L : Nat} : flR rs L none = fl0 rs (L + 1) := by
  show List.replicate L none ++ none :: rs.drop (L + 1) = List.replicate (L + 1) none ++ rs.drop (L + 1)
  rw [List.replicate_succ', List.append_assoc]
  rfl
theorem flR_same {rs : List (Option Rn)} {L : Nat} (h : L < rs.length) (hn : roA rs L = none) : fl0 rs L = flR rs L none := by
  show List.replicate L none ++ rs.drop L = List.replicate L none ++ none :: rs.drop (L + 1)
  rw [List.drop_eq_getElem_cons h, roA_g h, hn]
theorem flR_end {rs : List (Option Rn)} (x : Option Rn) : fl0 rs rs.length ++ [x] = flR rs rs.length x := by
  unfold flR
  simp
def noneLeft (rs : List (Option Rn)) (L : Nat) : Prop := ∀ x ∈ rs.drop L, x = none
noncomputable def kept (rs : List (Option Rn)) (L : Nat) (F : List En) : List En := match dB (noneLeft rs L) with
  | true => F.filter fun x => x.2.isSome
  | false => F
/-- what stands at the level that is filled -/
def Fil (E : List En) (x : Option Rn) : Prop := (E = [] ∧ x = none) ∨ ∃ Ls, x = some (E, Ls) ∧ RnG (E, Ls)
theorem kept_le (rs : List (Option Rn)) (L : Nat) (F : List En) : (kept rs L F).length ≤ F.length := by
  unfold kept
  split
  · exact List.length_filter_le _ _
  · exact Nat.le_refl _
theorem kept_srt {F : List En} (rs : List (Option Rn)) (L : Nat) (h : Srt F) : Srt (kept rs L F) := by
  unfold kept
  split
  · exact h.filter _
  · exact h
theorem tot_take (rs : List (Option Rn)) (n : Nat) : tot (rs.take n) ≤ tot rs := by
  have : tot rs = tot (rs.take n) + tot (rs.drop n) := by
    unfold tot
    rw [← List.sum_append, ← List.map_append, List.take_append_drop]
  omega
theorem tot_at {rs : List (Option Rn)} {k : Nat} {r : Rn} (hk : k < rs.length) (h : roA rs k = some r) : r.1.length ≤ tot rs := by
  have h1 := tot_take rs (k + 1)
  have : tot (rs.take (k + 1)) = tot (rs.take k) + r.1.length := by
    unfold tot
    rw [List.take_succ, List.getElem?_eq_getElem hk, roA_g hk, h]
    simp [szR]
  omega
theorem Fl.mv {rs : List (Option Rn)} {buf : List En} : ∀ {i : Nat} {E : List En} {m : Int}, Fl rs buf i E m → m = buf.length + tot (rs.take i)
  | 0, _, _, .z => by simp [tot]
  | i + 1, _, _, .s (r := r) a hi h1 g => by
    have := Fl.mv a
    have e : tot (rs.take (i + 1)) = tot (rs.take i) + r.1.length := by
      unfold tot
      rw [List.take_succ, List.getElem?_eq_getElem hi, roA_g hi, h1]
      simp [szR]
    omega
theorem flR_set {rs : List (Option Rn)} {L : Nat} (x y : Option Rn) : (flR rs L x).set L y = flR rs L y := by
  show (List.replicate L none ++ x :: rs.drop (L + 1)).set L y = List.replicate L none ++ y :: rs.drop (L + 1)
  rw [List.set_append_right _ _ (by simp), List.length_replicate, Nat.sub_self]
  rfl
theorem flR_len (rs : List (Option Rn)) (L : Nat) (x : Option Rn) : (flR rs L x).length = L + 1 + (rs.length - (L + 1)) := by
  unfold flR
  simp; omega
theorem vM_is (x : Option Int) : (true ^^ isNon (OV.fro (vM x))) = x.isSome := by cases x <;> rfl
theorem vM_non (x : Option Int) : (false ^^ isNon (OV.fro (vM x))) = x.isNone := by cases x <;> rfl
theorem ixN_at {n i : Nat} (h : i < n) : ixN n (i : Int) = some i := by
  unfold ixN
  rw [if_pos (by omega), Int.toNat_natCast, if_pos (by omega)]
theorem anyLeft (rs : List (Option Rn)) (L : Nat) : (((rs.drop L).map Option.isSome).map (fun b : Bool => b)).any id = !dB (noneLeft rs L) := by
  rw [List.map_id']
  by_cases c : noneLeft rs L
  · rw [dB_yes c]
    refine Bool.eq_false_iff.mpr fun z => ?_
    obtain ⟨b, hb, e⟩ := List.any_eq_true.mp z
    obtain ⟨x, hx, rfl⟩ := List.mem_map.mp hb
    rw [c x hx] at e
    cases e
  · rw [dB_no c]
    refine List.any_eq_true.mpr (Classical.not_not.mp fun z => c fun x hx => ?_)
    cases x with
    | none => rfl
    | some r => exact absurd ⟨true, List.mem_map.mpr ⟨some r, hx, rfl⟩, rfl⟩ z
theorem kept_yes {rs : List (Option Rn)} {L : Nat} (F : List En) (h : noneLeft rs L) : kept rs L F = F.filter fun x => x.2.isSome := by unfold kept; rw [dB_yes h]
theorem kept_no {rs : List (Option Rn)} {L : Nat} (F : List En) (h : ¬ noneLeft rs L) : kept rs L F = F := by unfold kept; rw [dB_no h]
theorem stO_app {i : Nat} {rs : List (Option Rn)} {a ed cap er : Int} {s1 s2 s3 s4 s5 : Slot} (h : i = rs.length) : setP [.rf (StO a ed cap er [] (fl0 rs i)), s1, s2, s3, s4, s5] 0 [18] (.lst ((fl0 rs i).map rO ++ [MV.non])) = [.rf (StO a ed cap er [] (flR rs i none)), s1, s2, s3, s4, s5] := by
  subst h
  have e : (fl0 rs rs.length).map rO ++ [MV.non] = (flR rs rs.length none).map rO := by
    have := List.map_append (f := rO) (l₁ := fl0 rs rs.length) (l₂ := [none])
    rw [flR_end] at this
    exact this.symm
  rw [e]
  rfl
theorem stO_set {i : Nat} {rs : List (Option Rn)} {a ed cap er : Int} {s1 s2 s3 s4 s5 : Slot} (x : Option Rn) : setP [.rf (StO a ed cap er [] (flR rs i none)), s1, s2, s3, s4, s5] 0 [18] (.lst (((flR rs i none).map rO).set i (rO x))) = [.rf (StO a ed cap er [] (flR rs i x)), s1, s2, s3, s4, s5] := by
  rw [← List.map_set, flR_set]
  rfl
theorem w_flush {mv ed cap er : Int} {buf : List En} {rs : List (Option Rn)} (hb : Srt buf) (hr : ∀ k, k < rs.length → ∀ r, roA rs k = some r → RnG r) (tl : buf.length + tot rs < 1900) (lr : rs.length < 1900) (m0 : 0 ≤ mv ∧ mv < 2 ^ 60) (e0 : 0 ≤ er) (e1 : er < 2 ^ 59) (Q : OV → Env → Prop) (E : Int → Prop)
    (k : ∀ L F m x, Fl rs buf L F m → L ≤ rs.length → (L < rs.length → roA rs L = none) → Fil (kept rs L F) x → ∀ s1 s2 s3 s4 s5, Q (.fro .non) [.rf (StO (mv + m) ed cap er [] (flR rs L x)), s1, s2, s3, s4, s5]) :
    F_Store_flush [.rf (StO mv ed cap er buf rs)] Q E := by
  refine F_Store_flush.mk ?_
  have lbm : (buf.map eM).length = buf.length := by simp
  walk_at "go"
  rw [lbm]
  refine while_inv (fun n en => ∃ (i : Nat) (F : List En) (m : Int) (s3 : Slot), en = [.rf (StO (mv + m) ed cap er [] (fl0 rs i)), .ow (.fro (.lst (F.map eM))), .ow (.fro (.int i)), s3, .un, .un] ∧ isRf s3 = false ∧ Fl rs buf i F m ∧ i ≤ rs.length ∧ n = rs.length - i) (rs.length - 0) ⟨0, buf, _, .un, rfl, rfl, .z, by omega, rfl⟩ ?_
  rintro n en ⟨i, F, m, s3, rfl, q3, hf, il, rfl⟩ N hN
  have l0 : (fl0 rs i).length = rs.length := fl0_len il
  have l0m : ((fl0 rs i).map rO).length = rs.length := by rw [List.length_map]; exact l0
  have hm := hf.mv
  have hF := hf.len
  have tt := tot_take rs i
  have sF := hf.srt hb
  walk_at "go"
  by_cases st : ∃ r, i < rs.length ∧ roA rs i = some r
  · obtain ⟨r, ic, hx⟩ := st
    refine mdec_yes (by omega) ?_
    have g := hr i ic r hx
    have rl := tot_at ic hx
    have rm : (r.1.map eM).length = r.1.length := by simp
    walk_at "go"
    rw [Int.toNat_natCast, fl0_at ic, hx]
    walk_at "go"
    rw [Int.toNat_natCast, fl0_at ic, hx]
    walk_at "go"
    refine w_merged sF g.srt (by omega) (by omega) _ _ fun F2 g2 en => ?_
    walk_at "go"
    rw [l0m, ixN_at ic]
    walk_at "go"
    have es : ((fl0 rs i).map rO).set i MV.non = (fl0 rs (i + 1)).map rO := by rw [← flR_succ, ← fl0_set ic none, List.map_set]; rfl
    rw [es, rm]
    refine hN (rs.length - (i + 1)) _ (by omega) ⟨i + 1, F2, m + r.1.length, .ow (.fro (.lst (r.1.map eM))), ?_, rfl, .s hf ic hx g2, by omega, rfl⟩
    rw [Int.add_assoc]
    rfl
  · have hn : i < rs.length → roA rs i = none := fun ic => by
      cases hx : roA rs i with
      | none => rfl
      | some r => exact absurd ⟨r, ic, hx⟩ st
    have cm : cutM ((fl0 rs i).map rO) (some (i : Int)) none = (rs.drop i).map rO := by
      rw [cut_from _ (by omega), Int.toNat_natCast, ← List.map_drop]
      congr 1
      show (List.replicate i none ++ rs.drop i).drop i = _
      simp
    refine mdec (fun c => ?_) fun c => ?_
    all_goals walk_at "go"
    all_goals first
      | rw [Int.toNat_natCast, fl0_at (by omega), hn (by omega)]
        walk_at "go"
      | skip
    all_goals refine if_join (fun en => en = [.rf (StO (mv + m) ed cap er [] (fl0 rs i)), .ow (.fro (.lst ((kept rs i F).map eM))), .ow (.fro (.int i)), s3, .un, .un]) (fun N2 hN2 => ?_) ?_
    all_goals try rintro en rfl
    all_goals walk_at "go"
    all_goals first
      | rw [cm]
        refine lc_ty rO (fun x => .bl x.isSome) _ (le_line (by simp; omega)) (fun x hx Y q => ?_) ?_
        · cases x with
          | none =>
            walk_at "go"
            exact q
          | some r =>
            walk_at "go"
            exact q
        rw [show (rs.drop i).map (fun x => MV.bl x.isSome) = ((rs.drop i).map Option.isSome).map .bl by rw [List.map_map]; rfl]
        walk_at "go"
        rw [show ((rs.drop i).map Option.isSome).any id = !dB (noneLeft rs i) by have := anyLeft rs i; rwa [List.map_id'] at this, Bool.not_not]
        refine mdec (fun d => ?_) fun d => ?_
        · walk_at "go"
          refine lc_tyF eM eM (fun x => x.2.isSome) _ _ (le_line (by simp; omega)) (fun x hx Y N y1 n1 => ?_) ?_
          · walk_at "go"
            rw [vM_is]
            cases hv : x.2.isSome with
            | false => exact n1 hv
            | true =>
              walk_at "go"
              exact y1 hv
          rw [List.nil_append, ← kept_yes F d]
          walk_at "go"
          exact hN2 _ rfl
        · walk_at "go"
          exact hN2 _ (by rw [kept_no F d])
      | skip
    all_goals refine if_join (fun en => en = [.rf (StO (mv + m) ed cap er [] (flR rs i none)), .ow (.fro (.lst ((kept rs i F).map eM))), .ow (.fro (.int i)), s3, .un, .un]) (fun N2 hN2 => ?_) ?_
    all_goals try rintro en rfl
    all_goals walk_at "go"
    all_goals first
      | have ic : i < rs.length := by omega
        exact hN2 _ (by rw [← flR_same ic (hn ic)])
      | have ic : i = rs.length := by omega
        exact hN2 _ (stO_app ic)
      | skip
    all_goals
      have kl := kept_le rs i F
      have ks := kept_srt rs i sF
      have kem : ((kept rs i F).map eM).length = (kept rs i F).length := by simp
      refine if_go ?_
      walk_at "go"
      have hs : i < rs.length → roA rs i = none := hn
      cases hk : kept rs i F with
      | nil =>
        walk_at "go"
        exact k i F m none hf il hs (.inl ⟨hk, rfl⟩) _ _ _ _ _
      | cons y ys =>
        rw [hk] at ks kl kem
        walk_at "go"
        refine w_run_init ks (by omega) (by simp) er e0 e1 _ _ fun Ls hL _ _ _ _ => ?_
        have fl : ((flR rs i none).map rO).length = i + 1 + (rs.length - (i + 1)) := by rw [List.length_map, flR_len]
        walk_at "go"
        rw [fl, ixN_at (by omega)]
        walk_at "go"
        have e2 := stO_set (i := i) (rs := rs) (a := mv + m) (ed := ed) (cap := cap) (er := er) (s1 := .ow (.fro (.lst ((y :: ys).map eM)))) (s2 := .ow (.fro (.int i))) (s3 := s3) (s4 := .un) (s5 := .un) (some (y :: ys, Ls))
        have kk := k i F m (some (y :: ys, Ls)) hf il hs (.inr ⟨Ls, by rw [hk], by rw [hk]; exact hL⟩) (.ow (.fro (.lst ((y :: ys).map eM)))) (.ow (.fro (.int i))) s3 .un .un
        rw [← e2] at kk
        exact kk

end C
namespace C
open PySem PySem.Spec PyProof.Rows L2
local macro_rules | `(tactic| walk_at "ev") => `(tactic| (conv => whnf))
local macro_rules | `(tactic| walk_at "side") => `(tactic| (first | assumption | exact trivial | exact line1000 rfl | (show (0 : Int) < _; first | omega | decide) | exact rfl | exact smallof (by omega) (by omega) | exact ⟨smallof (by omega) (by omega), smallof (by omega) (by omega)⟩ | exact Or.inl (by omega) | exact Or.inr (Or.inl (by omega)) | exact cdiv_of (by omega) (by omega) | omega | exact lt_line (by omega) | exact le_line (by omega) | exact ⟨by decide, by decide, by decide⟩ | decide | fail))
local macro_rules | `(tactic| walk_at "go") => `(tactic| ((repeat' ((conv => whnf); first | refine And.intro (by walk_at "side") ?_ | walk_at "call" | walk_at "test" | fail)); try (conv => whnf)))
local macro_rules | `(tactic| walk_at "call") => `(tactic| (first | refine setE_go (by assumption) ?_ | fail))
local macro_rules | `(tactic| walk_at "test") => `(tactic| (first | refine mdec_yes (by omega) ?_ | refine mdec_no (by omega) ?_ | refine mdec_no (fun h => h rfl) ?_ | refine mndec_yes (by omega) ?_ | refine mndec_no (by omega) ?_ | fail))
local macro_rules | `(tactic| walk_at "call") => `(tactic| (first | refine gl0 ?_ | refine gl1 ?_ | refine gl2 ?_ | refine gl3 ?_ | refine at_go (by omega) (by omega) ?_ | refine at_goN (by omega) (by omega) ?_ | fail))
local macro_rules | `(tactic| walk_at "call") => `(tactic| (first | refine ints_go ?_ | refine bools_go ?_ | fail))
local macro_rules | `(tactic| walk_at "call") => `(tactic| (first | refine eqD_go (pl_ints _) (pl_ints _) ?_ | fail))
local macro_rules | `(tactic| walk_at "call") => `(tactic| (first | refine w_cell _ _ (by omega) _ _ (fun _ => ?_) | fail))
local macro_rules | `(tactic| walk_at "call") => `(tactic| (first | refine w_cell _ _ (by omega) _ _ (fun _ => ?_) | fail))
local macro_rules | `(tactic| walk_at "call") => `(tactic| (first | refine at_go (by omega) (by omega) ?_ | refine at_goN (by omega) (by omega) ?_ | refine atPr (by omega) (by omega) ?_ | refine atPrN (by omega) (by omega) ?_ | fail))
local macro_rules | `(tactic| walk_at "call") => `(tactic| (first | refine alls_go ?_ | fail))
local macro_rules | `(tactic| walk_at "call") => `(tactic| (first | refine eqD_go (pl_prs _) (pl_prs _) ?_ | fail))
local macro_rules | `(tactic| walk_at "call") => `(tactic| (first | refine at_go (by omega) (by omega) ?_ | refine at_goN (by omega) (by omega) ?_ | refine atPr (by omega) (by omega) ?_ | refine atPrN (by omega) (by omega) ?_ | refine atRg (by omega) (by omega) ?_ | refine atRgN (by omega) (by omega) ?_ | fail))
local macro_rules | `(tactic| walk_at "call") => `(tactic| (first | refine intsF_go ?_ | fail))
local macro_rules | `(tactic| walk_at "call") => `(tactic| (first | refine atPc (by omega) (by omega) ?_ | refine atRs (by omega) (by omega) ?_ | fail))
local macro_rules | `(tactic| walk_at "call") => `(tactic| (first | refine atLv (by omega) (by omega) ?_ | refine atLvN (by omega) (by omega) ?_ | fail))
local macro_rules | `(tactic| walk_at "call") => `(tactic| (first | refine atE (by omega) (by omega) ?_ | refine atEN (by omega) (by omega) ?_ | fail))
local macro_rules | `(tactic| walk_at "call") => `(tactic| (first | refine atRo (by omega) (by omega) ?_ | fail))
/-! ### writing into a store -/
structure StG (n : Nat) (mv : Int) (buf : List En) (rs : List (Option Rn)) : Prop where
  sb : Srt buf
  run : ∀ k, k < rs.length → ∀ r, roA rs k = some r → RnG r
  tot : buf.length + tot rs ≤ n
  lr : rs.length ≤ n
  mv : 0 ≤ mv ∧ mv ≤ 2000 * (n : Int)
/-- what a flush does -/
inductive Fsh (mv : Int) (buf : List En) (rs : List (Option Rn)) (mv' : Int) (rs' : List (Option Rn)) : Prop where
  | mk (L : Nat) (F : List En) (m : Int) (x : Option Rn) (f : Fl rs buf L F m) (hl : L ≤ rs.length) (hn : L < rs.length → roA rs L = none) (hf : Fil (kept rs L F) x) (e1 : mv' = mv + m) (e2 : rs' = flR rs L x)
/-- what a write does -/
inductive Wr (cap : Int) (x : En) (mv : Int) (buf : List En) (rs : List (Option Rn)) (mv' : Int) (buf' : List En) (rs' : List (Option Rn)) : Prop where
  | keep (B : List En) (g : Mg [x] buf B) (c : (B.length : Int) < cap) (e1 : buf' = B) (e2 : rs' = rs) (e3 : mv' = mv)
  | flush (B : List En) (g : Mg [x] buf B) (c : cap ≤ (B.length : Int)) (f : Fsh mv B rs mv' rs') (e1 : buf' = [])
theorem tot_flR {rs : List (Option Rn)} {L : Nat} (h : L ≤ rs.length) (hn : L < rs.length → roA rs L = none) (x : Option Rn) : tot (flR rs L x) + tot (rs.take L) = szR x + tot rs := by
  have e1 : tot (flR rs L x) = szR x + tot (rs.drop (L + 1)) := by
    unfold flR tot
    rw [List.map_append, List.sum_append, List.map_replicate, List.map_cons, List.sum_cons]
    simp [szR]
  have e2 : tot rs = tot (rs.take L) + tot (rs.drop L) := by
    unfold tot
    rw [← List.sum_append, ← List.map_append, List.take_append_drop]
  have e3 : tot (rs.drop L) = tot (rs.drop (L + 1)) := by
    by_cases c : L < rs.length
    · unfold tot
      rw [List.drop_eq_getElem_cons c, roA_g c, hn c]
      simp [szR]
    · rw [List.drop_eq_nil_of_le (by omega), List.drop_eq_nil_of_le (by omega)]
  omega
theorem flR_at {rs : List (Option Rn)} {L k : Nat} {x : Option Rn} {r : Rn} (h : roA (flR rs L x) k = some r) : x = some r ∨ (k < rs.length ∧ roA rs k = some r) := by
  unfold roA flR at h
  rw [List.getD_eq_getElem?_getD, List.getElem?_append] at h
  split at h
  · rw [List.getElem?_replicate] at h
    split at h <;> cases h
  · rename_i c
    rw [List.length_replicate] at h c
    by_cases d : k = L
    · subst d
      rw [Nat.sub_self] at h
      exact .inl h
    · have e : k - L = (k - L - 1) + 1 := by omega
      rw [e, List.getElem?_cons_succ, List.getElem?_drop, show L + 1 + (k - L - 1) = k by omega] at h
      refine .inr ⟨Classical.not_not.mp fun z => ?_, ?_⟩
      · rw [List.getElem?_eq_none (by omega)] at h
        cases h
      · unfold roA
        rw [List.getD_eq_getElem?_getD]
        exact h
theorem Fil.sz {E : List En} {x : Option Rn} (h : Fil E x) : szR x = E.length := by
  rcases h with ⟨rfl, rfl⟩ | ⟨Ls, rfl, _⟩
  · rfl
  · rfl
theorem Fsh.good {n : Nat} {mv mv' : Int} {buf : List En} {rs rs' : List (Option Rn)} (h : StG n mv buf rs) (hn : n < 2000) (w : Fsh mv buf rs mv' rs') : StG (n + 1) mv' [] rs' := by
  obtain ⟨L, F, m, x, f, hl, hno, hf, rfl, rfl⟩ := w
  have t := tot_flR hl hno x
  have s := hf.sz
  have k := kept_le rs L F
  have fl := f.len
  have fm := f.mv
  have tt := tot_take rs L
  have ht := h.tot
  have hm := h.mv
  have hlr := h.lr
  refine ⟨Srt.nil, fun k hk r hr => ?_, ?_, ?_, ?_⟩
  · rcases flR_at hr with e | ⟨a, b⟩
    · rcases hf with ⟨_, e2⟩ | ⟨Ls, e2, g⟩
      · rw [e2] at e; cases e
      · rw [e2] at e; cases e; exact g
    · exact h.run k a r b
  · show 0 + tot (flR rs L x) ≤ n + 1
    omega
  · rw [flR_len]
    omega
  · omega
theorem StG.more {n : Nat} {mv : Int} {buf : List En} {rs : List (Option Rn)} (h : StG n mv buf rs) {B : List En} (sB : Srt B) (lB : B.length ≤ buf.length + 1) : StG (n + 1) mv B rs :=
  ⟨sB, h.run, by have := h.tot; omega, by have := h.lr; omega, by have := h.mv; omega⟩
theorem Wr.good {n : Nat} {cap mv mv' : Int} {x : En} {buf buf' : List En} {rs rs' : List (Option Rn)} (h : StG n mv buf rs) (hn : n < 1800) (w : Wr cap x mv buf rs mv' buf' rs') : StG (n + 1) mv' buf' rs' := by
  cases w with
  | keep B g c e1 e2 e3 =>
    subst e1 e2 e3
    exact h.more g.srt (by have := g.len; rw [List.length_singleton] at this; omega)
  | flush B g c f e1 =>
    subst e1
    have lB : B.length ≤ buf.length + 1 := by have := g.len; rw [List.length_singleton] at this; omega
    obtain ⟨L, F, m, x, f, hl, hno, hf, rfl, rfl⟩ := f
    have t := tot_flR hl hno x
    have s := hf.sz
    have k := kept_le rs L F
    have fl := f.len
    have fm := f.mv
    have tt := tot_take rs L
    have ht := h.tot
    have hm := h.mv
    have hlr := h.lr
    refine ⟨Srt.nil, fun k hk r hr => ?_, ?_, ?_, ?_⟩
    · rcases flR_at hr with e | ⟨a, b⟩
      · rcases hf with ⟨_, e2⟩ | ⟨Ls, e2, g⟩
        · rw [e2] at e; cases e
        · rw [e2] at e; cases e; exact g
      · exact h.run k a r b
    · show 0 + tot (flR rs L x) ≤ n + 1
      omega
    · rw [flR_len]
      omega
    · omega
theorem w_write {n : Nat} {mv ed cap er : Int} {buf : List En} {rs : List (Option Rn)} (h : StG n mv buf rs) (hn : n < 1800) (x : En) (hx : -(2 ^ 59) < x.1 ∧ x.1 < 2 ^ 59) (e0 : 0 ≤ er) (e1 : er < 2 ^ 59) (Q : OV → Env → Prop) (E : Int → Prop)
    (k : ∀ mv' buf' rs', Wr cap x mv buf rs mv' buf' rs' → ∀ s1, Q (.fro .non) [.rf (StO mv' (ed + 1) cap er buf' rs'), s1]) :
    F_Store_write [.rf (StO mv ed cap er buf rs), .ow (.fro (eM x))] Q E := by
  refine F_Store_write.mk ?_
  have ht := h.tot
  have hlr := h.lr
  have hm := h.mv
  walk_at "go"
  refine w_merged (v := [x]) (Srt.one hx) h.sb (by simp) (by omega) _ _ fun B g en => ?_
  have lB := g.len
  rw [List.length_singleton] at lB
  have lBm : (B.map eM).length = B.length := by simp
  walk_at "go"
  refine if_go ?_
  walk_at "go"
  refine mdec (fun c => ?_) fun c => ?_
  · walk_at "go"
    refine w_flush g.srt h.run (by omega) (by omega) (by omega) e0 e1 _ _ fun L F m y hf hl hno hfil s1 s2 s3 s4 s5 => ?_
    walk_at "go"
    exact k _ _ _ (.flush B g (by omega) ⟨L, F, m, y, hf, hl, hno, hfil, rfl, rfl⟩ rfl) _
  · walk_at "go"
    exact k _ _ _ (.keep B g (by omega) rfl rfl rfl) _
theorem w_put {n : Nat} {mv ed cap er : Int} {buf : List En} {rs : List (Option Rn)} (h : StG n mv buf rs) (hn : n < 1800) (y : Int) (z : Option Int) (hx : -(2 ^ 59) < y ∧ y < 2 ^ 59) (e0 : 0 ≤ er) (e1 : er < 2 ^ 59) (Q : OV → Env → Prop) (E : Int → Prop)
    (k : ∀ mv' buf' rs', Wr cap (y, z) mv buf rs mv' buf' rs' → ∀ s1 s2, Q (.fro .non) [.rf (StO mv' (ed + 1) cap er buf' rs'), s1, s2]) :
    F_Store_put [.rf (StO mv ed cap er buf rs), .ow (.fro (.int y)), .ow (.fro (vM z))] Q E := by
  refine F_Store_put.mk ?_
  walk_at "go"
  refine w_write h hn (y, z) hx e0 e1 _ _ fun mv' buf' rs' w s1 => ?_
  walk_at "go"
  exact k _ _ _ w _ _
theorem w_remove {n : Nat} {mv ed cap er : Int} {buf : List En} {rs : List (Option Rn)} (h : StG n mv buf rs) (hn : n < 1800) (y : Int) (hx : -(2 ^ 59) < y ∧ y < 2 ^ 59) (e0 : 0 ≤ er) (e1 : er < 2 ^ 59) (Q : OV → Env → Prop) (E : Int → Prop)
    (k : ∀ mv' buf' rs', Wr cap (y, none) mv buf rs mv' buf' rs' → ∀ s1, Q (.fro .non) [.rf (StO mv' (ed + 1) cap er buf' rs'), s1]) :
    F_Store_remove [.rf (StO mv ed cap er buf rs), .ow (.fro (.int y))] Q E := by
  refine F_Store_remove.mk ?_
  walk_at "go"
  refine w_write h hn (y, none) hx e0 e1 _ _ fun mv' buf' rs' w s1 => ?_
  walk_at "go"
  exact k _ _ _ w _
theorem w_edit {n : Nat} {mv ed cap er : Int} {buf : List En} {rs : List (Option Rn)} (h : StG n mv buf rs) (hn : n < 1800) (x : En) (hx : -(2 ^ 59) < x.1 ∧ x.1 < 2 ^ 59) (e0 : 0 ≤ er) (e1 : er < 2 ^ 59) (Q : OV → Env → Prop) (E : Int → Prop)
    (k : ∀ mv' buf' rs', Wr cap x mv buf rs mv' buf' rs' → ∀ s1, Q (.fro .non) [.rf (StO mv' (ed + 1) cap er buf' rs'), s1]) :
    F_law_edit [.rf (StO mv ed cap er buf rs), .ow (.fro (eM x))] Q E := by
  refine F_law_edit.mk ?_
  walk_at "go"
  obtain ⟨y, z⟩ := x
  cases z with
  | none =>
    walk_at "go"
    refine w_remove h hn y hx e0 e1 _ _ fun mv' buf' rs' w s1 => ?_
    walk_at "go"
    exact k _ _ _ w _
  | some z =>
    walk_at "go"
    refine w_put h hn y (some z) hx e0 e1 _ _ fun mv' buf' rs' w s1 s2 => ?_
    walk_at "go"
    exact k _ _ _ w _

end C
namespace C
open PySem PySem.Spec PyProof.Rows L2
local macro_rules | `(tactic| walk_at "ev") => `(tactic| (conv => whnf))
local macro_rules | `(tactic| walk_at "side") => `(tactic| (first | assumption | exact trivial | exact line1000 rfl | (show (0 : Int) < _; first | omega | decide) | exact rfl | exact smallof (by omega) (by omega) | exact ⟨smallof (by omega) (by omega), smallof (by omega) (by omega)⟩ | exact Or.inl (by omega) | exact Or.inr (Or.inl (by omega)) | exact cdiv_of (by omega) (by omega) | omega | exact lt_line (by omega) | exact le_line (by omega) | exact ⟨by decide, by decide, by decide⟩ | decide | fail))
local macro_rules | `(tactic| walk_at "go") => `(tactic| ((repeat' ((conv => whnf); first | refine And.intro (by walk_at "side") ?_ | walk_at "call" | walk_at "test" | fail)); try (conv => whnf)))
local macro_rules | `(tactic| walk_at "call") => `(tactic| (first | refine setE_go (by assumption) ?_ | fail))
local macro_rules | `(tactic| walk_at "test") => `(tactic| (first | refine mdec_yes (by omega) ?_ | refine mdec_no (by omega) ?_ | refine mdec_no (fun h => h rfl) ?_ | refine mndec_yes (by omega) ?_ | refine mndec_no (by omega) ?_ | fail))
local macro_rules | `(tactic| walk_at "call") => `(tactic| (first | refine gl0 ?_ | refine gl1 ?_ | refine gl2 ?_ | refine gl3 ?_ | refine at_go (by omega) (by omega) ?_ | refine at_goN (by omega) (by omega) ?_ | fail))
local macro_rules | `(tactic| walk_at "call") => `(tactic| (first | refine ints_go ?_ | refine bools_go ?_ | fail))
local macro_rules | `(tactic| walk_at "call") => `(tactic| (first | refine eqD_go (pl_ints _) (pl_ints _) ?_ | fail))
local macro_rules | `(tactic| walk_at "call") => `(tactic| (first | refine w_cell _ _ (by omega) _ _ (fun _ => ?_) | fail))
local macro_rules | `(tactic| walk_at "call") => `(tactic| (first | refine w_cell _ _ (by omega) _ _ (fun _ => ?_) | fail))
local macro_rules | `(tactic| walk_at "call") => `(tactic| (first | refine at_go (by omega) (by omega) ?_ | refine at_goN (by omega) (by omega) ?_ | refine atPr (by omega) (by omega) ?_ | refine atPrN (by omega) (by omega) ?_ | fail))
local macro_rules | `(tactic| walk_at "call") => `(tactic| (first | refine alls_go ?_ | fail))
local macro_rules | `(tactic| walk_at "call") => `(tactic| (first | refine eqD_go (pl_prs _) (pl_prs _) ?_ | fail))
local macro_rules | `(tactic| walk_at "call") => `(tactic| (first | refine at_go (by omega) (by omega) ?_ | refine at_goN (by omega) (by omega) ?_ | refine atPr (by omega) (by omega) ?_ | refine atPrN (by omega) (by omega) ?_ | refine atRg (by omega) (by omega) ?_ | refine atRgN (by omega) (by omega) ?_ | fail))
local macro_rules | `(tactic| walk_at "call") => `(tactic| (first | refine intsF_go ?_ | fail))
local macro_rules | `(tactic| walk_at "call") => `(tactic| (first | refine atPc (by omega) (by omega) ?_ | refine atRs (by omega) (by omega) ?_ | fail))
local macro_rules | `(tactic| walk_at "call") => `(tactic| (first | refine atLv (by omega) (by omega) ?_ | refine atLvN (by omega) (by omega) ?_ | fail))
local macro_rules | `(tactic| walk_at "call") => `(tactic| (first | refine atE (by omega) (by omega) ?_ | refine atEN (by omega) (by omega) ?_ | fail))
local macro_rules | `(tactic| walk_at "call") => `(tactic| (first | refine atRo (by omega) (by omega) ?_ | fail))
/-! ### sizes of runs -/
def szI (x : Option Rn) : Int := szR x
structure StpN (ss : List Int) (n : Nat) : Prop where
  le : n ≤ ss.length
  nz : 0 < n → cell ss ((n - 1 : Nat) : Int) ≠ 0
  z : ∀ k : Nat, n ≤ k → k < ss.length → cell ss (k : Int) = 0
theorem StpN.uniq {ss : List Int} {n m : Nat} (h : StpN ss n) (k : StpN ss m) : n = m := by
  have key : ∀ {n m : Nat}, StpN ss n → StpN ss m → ¬ n < m := fun {n m} h k c => k.nz (by omega) (h.z (m - 1) (by omega) (by have := k.le; omega))
  have := key h k
  have := key k h
  omega
theorem takeI {v : List Int} {i : Nat} (h : i < v.length) : v.take (i + 1) = v.take i ++ [cell v (i : Int)] := by
  rw [List.take_succ, List.getElem?_eq_getElem h]
  unfold cell
  rw [Int.toNat_natCast, List.getD_eq_getElem?_getD, List.getElem?_eq_getElem h]; rfl
theorem w_run_sizes {mv ed cap er : Int} {buf : List En} {rs : List (Option Rn)} (lr : rs.length < 2500) (Q : OV → Env → Prop) (E : Int → Prop)
    (k : ∀ n, StpN (rs.map szI) n → ∀ en, Q (.lst (((rs.map szI).take n).map .int)) en) : F_Store_run_sizes [.bo (StO mv ed cap er buf rs)] Q E := by
  refine F_Store_run_sizes.mk ?_
  walk_at "go"
  refine lc_ty rO (fun x => .int (szI x)) _ (le_line (by omega)) (fun x hx Y q => ?_) ?_
  · cases x with
    | none =>
      walk_at "go"
      exact q
    | some r =>
      have lm : (r.1.map eM).length = r.1.length := by simp
      walk_at "go"
      rw [lm]
      exact q
  rw [show rs.map (fun x => MV.int (szI x)) = (rs.map szI).map .int by rw [List.map_map]; rfl]
  obtain ⟨ss, hss⟩ : ∃ ss, ss = rs.map szI := ⟨_, rfl⟩
  have ls : ss.length = rs.length := by rw [hss]; simp
  rw [← hss] at k ⊢
  clear hss
  walk_at "go"
  refine while_inv (fun M en => ∃ (n : Nat) (s2 : Slot), en = [.bo (StO mv ed cap er buf rs), .ow (.lst ((ss.take n).map .int)), s2] ∧ isRf s2 = false ∧ n ≤ ss.length ∧ (∀ k : Nat, n ≤ k → k < ss.length → cell ss (k : Int) = 0) ∧ M = n) ss.length ⟨ss.length, .un, by rw [List.take_length], rfl, Nat.le_refl _, fun k a b => by omega, rfl⟩ ?_
  rintro M en ⟨n, s2, rfl, q2, nl, hz, rfl⟩ N hN
  cases M with
  | zero =>
    walk_at "go"
    exact k 0 ⟨by omega, fun z => by omega, hz⟩ _
  | succ m =>
    have ltm : ((ss.take (m + 1)).map MV.int).length = m + 1 := by simp; omega
    have lt : (ss.take (m + 1)).length = m + 1 := by simp; omega
    have hte : ((ss.take (m + 1)).map MV.int).isEmpty = false := by
      cases h : (ss.take (m + 1)).map MV.int with
      | nil => rw [h] at ltm; simp at ltm
      | cons a b => rfl
    walk_at "go"
    rw [hte]
    walk_at "go"
    have ec : cell (ss.take (m + 1)) (-1 + ((ss.take (m + 1)).length : Int)) = cell ss (m : Int) := by
      rw [lt, show (-1 + ((m + 1 : Nat) : Int)) = ((m : Nat) : Int) by omega]
      unfold cell
      rw [Int.toNat_natCast, List.getD_eq_getElem?_getD, List.getD_eq_getElem?_getD, List.getElem?_take, if_pos (by omega)]
    rw [ec]
    refine mdec (fun c => ?_) fun c => ?_
    · rw [takeI (by omega), List.map_append]
      have g1 : ((ss.take m).map MV.int ++ [cell ss (m : Int)].map MV.int).getLast? = some (.int (cell ss (m : Int))) := by simp
      have g2 : ((ss.take m).map MV.int ++ [cell ss (m : Int)].map MV.int).dropLast = (ss.take m).map MV.int := by simp
      walk_at "go"
      rw [g1]
      walk_at "go"
      rw [g2]
      refine hN m _ (by omega) ⟨m, s2, rfl, q2, by omega, fun k a b => ?_, rfl⟩
      by_cases d : k = m
      · subst d; exact c
      · exact hz k (by omega) b
    · walk_at "go"
      exact k (m + 1) ⟨nl, fun _ => c, hz⟩ _

end C
namespace C
open PySem PySem.Spec PyProof.Rows L2
local macro_rules | `(tactic| walk_at "ev") => `(tactic| (conv => whnf))
local macro_rules | `(tactic| walk_at "side") => `(tactic| (first | assumption | exact trivial | exact line1000 rfl | (show (0 : Int) < _; first | omega | decide) | exact rfl | exact smallof (by omega) (by omega) | exact ⟨smallof (by omega) (by omega), smallof (by omega) (by omega)⟩ | exact Or.inl (by omega) | exact Or.inr (Or.inl (by omega)) | exact cdiv_of (by omega) (by omega) | omega | exact lt_line (by omega) | exact le_line (by omega) | exact ⟨by decide, by decide, by decide⟩ | decide | fail))
local macro_rules | `(tactic| walk_at "go") => `(tactic| ((repeat' ((conv => whnf); first | refine And.intro (by walk_at "side") ?_ | walk_at "call" | walk_at "test" | fail)); try (conv => whnf)))
local macro_rules | `(tactic| walk_at "call") => `(tactic| (first | refine setE_go (by assumption) ?_ | fail))
local macro_rules | `(tactic| walk_at "test") => `(tactic| (first | refine mdec_yes (by omega) ?_ | refine mdec_no (by omega) ?_ | refine mdec_no (fun h => h rfl) ?_ | refine mndec_yes (by omega) ?_ | refine mndec_no (by omega) ?_ | fail))
local macro_rules | `(tactic| walk_at "call") => `(tactic| (first | refine gl0 ?_ | refine gl1 ?_ | refine gl2 ?_ | refine gl3 ?_ | refine at_go (by omega) (by omega) ?_ | refine at_goN (by omega) (by omega) ?_ | fail))
local macro_rules | `(tactic| walk_at "call") => `(tactic| (first | refine ints_go ?_ | refine bools_go ?_ | fail))
local macro_rules | `(tactic| walk_at "call") => `(tactic| (first | refine eqD_go (pl_ints _) (pl_ints _) ?_ | fail))
local macro_rules | `(tactic| walk_at "call") => `(tactic| (first | refine w_cell _ _ (by omega) _ _ (fun _ => ?_) | fail))
local macro_rules | `(tactic| walk_at "call") => `(tactic| (first | refine w_cell _ _ (by omega) _ _ (fun _ => ?_) | fail))
local macro_rules | `(tactic| walk_at "call") => `(tactic| (first | refine at_go (by omega) (by omega) ?_ | refine at_goN (by omega) (by omega) ?_ | refine atPr (by omega) (by omega) ?_ | refine atPrN (by omega) (by omega) ?_ | fail))
local macro_rules | `(tactic| walk_at "call") => `(tactic| (first | refine alls_go ?_ | fail))
local macro_rules | `(tactic| walk_at "call") => `(tactic| (first | refine eqD_go (pl_prs _) (pl_prs _) ?_ | fail))
local macro_rules | `(tactic| walk_at "call") => `(tactic| (first | refine at_go (by omega) (by omega) ?_ | refine at_goN (by omega) (by omega) ?_ | refine atPr (by omega) (by omega) ?_ | refine atPrN (by omega) (by omega) ?_ | refine atRg (by omega) (by omega) ?_ | refine atRgN (by omega) (by omega) ?_ | fail))
local macro_rules | `(tactic| walk_at "call") => `(tactic| (first | refine intsF_go ?_ | fail))
local macro_rules | `(tactic| walk_at "call") => `(tactic| (first | refine atPc (by omega) (by omega) ?_ | refine atRs (by omega) (by omega) ?_ | fail))
local macro_rules | `(tactic| walk_at "call") => `(tactic| (first | refine atLv (by omega) (by omega) ?_ | refine atLvN (by omega) (by omega) ?_ | fail))
local macro_rules | `(tactic| walk_at "call") => `(tactic| (first | refine atE (by omega) (by omega) ?_ | refine atEN (by omega) (by omega) ?_ | fail))
local macro_rules | `(tactic| walk_at "call") => `(tactic| (first | refine atRo (by omega) (by omega) ?_ | fail))
/-! ### dicts of entries -/
def kvE (e : En) : Key × MV := (.inl e.1, vM e.2)
def ePut (D : List En) (x : En) : List En := if (D.any fun e => decide (e.1 = x.1)) = true then D.map (fun e => if e.1 = x.1 then x else e) else D ++ [x]
def eGet (D : List En) (k : Int) : Option (Option Int) := (D.find? fun e => decide (e.1 = k)).map (·.2)
def NK (D : List En) : Prop := (D.map Prod.fst).Nodup
theorem kvE_key (e : En) (k : Int) : ((kvE e).1 = Sum.inl k) ↔ e.1 = k := by
  unfold kvE
  exact ⟨fun h => Sum.inl.inj h, fun h => by rw [h]⟩
theorem kvE_dec (e : En) (k : Int) : decide ((kvE e).1 = (Sum.inl k : Key)) = decide (e.1 = k) := by
  by_cases h : e.1 = k
  · rw [decide_eq_true h, decide_eq_true ((kvE_key e k).mpr h)]
  · rw [decide_eq_false h, decide_eq_false fun z => h ((kvE_key e k).mp z)]
theorem dPut_e (D : List En) (x : En) : dPut (D.map kvE) (.inl x.1) (vM x.2) = (ePut D x).map kvE := by
  have e1 : ((D.map kvE).any fun kv => decide (kv.1 = (Sum.inl x.1 : Key))) = D.any fun e => decide (e.1 = x.1) := by
    rw [List.any_map]
    congr 1
    funext e
    exact kvE_dec e x.1
  unfold dPut ePut
  rw [e1]
  split
  · rw [List.map_map, List.map_map]
    refine List.map_congr_left fun e _ => ?_
    show (if (kvE e).1 = (Sum.inl x.1 : Key) then ((kvE e).1, vM x.2) else kvE e) = kvE (if e.1 = x.1 then x else e)
    by_cases h : e.1 = x.1
    · rw [if_pos h, if_pos ((kvE_key e x.1).mpr h)]
      show ((Sum.inl e.1 : Key), vM x.2) = (Sum.inl x.1, vM x.2)
      rw [h]
    · rw [if_neg h, if_neg fun z => h ((kvE_key e x.1).mp z)]
  · rw [List.map_append]; rfl
theorem dGet_e (D : List En) (k : Int) : dGet (D.map kvE) (.inl k) = (eGet D k).map vM := by
  unfold dGet eGet
  rw [List.find?_map]
  have : ((fun kv : Key × MV => decide (kv.1 = (Sum.inl k : Key))) ∘ kvE) = fun e : En => decide (e.1 = k) := by
    funext e
    exact kvE_dec e k
  rw [this]
  cases D.find? fun e => decide (e.1 = k) with
  | none => rfl
  | some e => rfl
theorem keys_e (D : List En) : (D.map kvE).map (fun kv => kMV kv.1) = (D.map Prod.fst).map .int := by
  rw [List.map_map, List.map_map]; rfl
theorem eGet_nil (k : Int) : eGet [] k = none := rfl
theorem eGet_cons (x : En) (D : List En) (k : Int) : eGet (x :: D) k = if x.1 = k then some x.2 else eGet D k := by
  unfold eGet
  rw [List.find?_cons]
  by_cases h : x.1 = k
  · rw [decide_eq_true h, if_pos h]; rfl
  · rw [decide_eq_false h, if_neg h]
theorem eGet_app (A B : List En) (k : Int) : eGet (A ++ B) k = (eGet A k).or (eGet B k) := by
  induction A with
  | nil => rw [List.nil_append, eGet_nil, Option.none_or]
  | cons x A ih =>
    rw [List.cons_append, eGet_cons, eGet_cons, ih]
    by_cases h : x.1 = k
    · rw [if_pos h, if_pos h, Option.some_or]
    · rw [if_neg h, if_neg h]
theorem eGet_none {D : List En} {k : Int} : eGet D k = none ↔ ∀ x ∈ D, x.1 ≠ k := by
  induction D with
  | nil => exact ⟨fun _ x h => (by cases h), fun _ => rfl⟩
  | cons y D ih =>
    rw [eGet_cons]
    by_cases h : y.1 = k
    · rw [if_pos h]
      exact ⟨fun z => (by cases z), fun z => absurd h (z y List.mem_cons_self)⟩
    · rw [if_neg h, ih]
      constructor
      · intro z x hx
        rcases List.mem_cons.mp hx with rfl | hx
        · exact h
        · exact z x hx
      · exact fun z x hx => z x (List.mem_cons_of_mem _ hx)
theorem eGet_in {D : List En} {k : Int} {v : Option Int} (h : eGet D k = some v) : (k, v) ∈ D := by
  induction D with
  | nil => cases h
  | cons y D ih =>
    rw [eGet_cons] at h
    by_cases e : y.1 = k
    · rw [if_pos e] at h
      have : y.2 = v := Option.some.inj h
      rw [← e, ← this]
      exact List.mem_cons_self
    · rw [if_neg e] at h
      exact List.mem_cons_of_mem _ (ih h)
theorem eGet_mem {D : List En} (n : NK D) {x : En} (h : x ∈ D) : eGet D x.1 = some x.2 := by
  induction D with
  | nil => cases h
  | cons y D ih =>
    unfold NK at n
    rw [List.map_cons, List.nodup_cons] at n
    rw [eGet_cons]
    rcases List.mem_cons.mp h with rfl | h
    · rw [if_pos rfl]
    · rw [if_neg fun e => n.1 (List.mem_map.mpr ⟨x, h, e.symm⟩)]
      exact ih n.2 h
theorem mem_get {D : List En} (n : NK D) {x : En} : x ∈ D ↔ eGet D x.1 = some x.2 := ⟨eGet_mem n, fun h => eGet_in h⟩
theorem Srt.nk {D : List En} (h : Srt D) : NK D := by
  unfold NK
  refine List.Pairwise.imp (R := fun a b => a < b) (fun {a b} h e => by rw [e] at h; exact absurd h (Int.lt_irrefl _)) ?_
  exact List.pairwise_map.mpr h.asc
theorem Srt.ext {a b : List En} (ha : Srt a) (hb : Srt b) (h : ∀ k, eGet a k = eGet b k) : a = b :=
  ha.eq hb fun y => by rw [mem_get ha.nk, mem_get hb.nk, h]
theorem any_key {D : List En} {k : Int} : (D.any fun e => decide (e.1 = k)) = (eGet D k).isSome := by
  cases h : eGet D k with
  | none =>
    rw [Option.isSome_none]
    refine Bool.eq_false_iff.mpr fun z => ?_
    obtain ⟨e, he, q⟩ := List.any_eq_true.mp z
    exact eGet_none.mp h e he (of_decide_eq_true q)
  | some v => exact List.any_eq_true.mpr ⟨_, eGet_in h, decide_eq_true rfl⟩
theorem eGet_put (D : List En) (x : En) (k : Int) : eGet (ePut D x) k = if x.1 = k then some x.2 else eGet D k := by
  unfold ePut
  rw [any_key]
  cases h : eGet D x.1 with
  | none =>
    rw [Option.isSome_none, if_neg (by simp), eGet_app, eGet_cons, eGet_nil]
    by_cases e : x.1 = k
    · rw [if_pos e, if_pos e, ← e, h, Option.none_or]
    · rw [if_neg e, if_neg e, Option.or_none]
  | some v =>
    rw [Option.isSome_some, if_pos rfl]
    have key : ∀ D : List En, eGet (D.map fun e => if e.1 = x.1 then x else e) k = if x.1 = k then (eGet D k).map (fun _ => x.2) else eGet D k := by
      intro D
      induction D with
      | nil => rw [List.map_nil, eGet_nil]; split <;> rfl
      | cons y D ih =>
        rw [List.map_cons, eGet_cons, eGet_cons, ih]
        by_cases c : y.1 = x.1
        · rw [if_pos c]
          by_cases d : x.1 = k
          · rw [if_pos d, if_pos d, if_pos (c.trans d)]; rfl
          · rw [if_neg d, if_neg d, if_neg d, if_neg fun z => d (c.symm.trans z)]
        · rw [if_neg c]
          by_cases d : x.1 = k
          · rw [if_pos d, if_neg fun z => c (z.trans d.symm), if_pos d]
            rw [if_neg fun z => c (z.trans d.symm)]
          · rw [if_neg d, if_neg d]
    rw [key]
    by_cases d : x.1 = k
    · rw [if_pos d, if_pos d, ← d, h]; rfl
    · rw [if_neg d, if_neg d]
theorem NK.put {D : List En} (n : NK D) (x : En) : NK (ePut D x) := by
  unfold ePut
  rw [any_key]
  cases h : eGet D x.1 with
  | none =>
    rw [Option.isSome_none, if_neg (by simp)]
    unfold NK at n ⊢
    rw [List.map_append]
    refine List.nodup_append.mpr ⟨n, by simp, fun a ha b hb e => ?_⟩
    obtain ⟨y, hy, rfl⟩ := List.mem_map.mp ha
    have : b = x.1 := by simpa using hb
    exact eGet_none.mp h y hy (e.trans this)
  | some v =>
    rw [Option.isSome_some, if_pos rfl]
    unfold NK at n ⊢
    rw [List.map_map]
    have : D.map (Prod.fst ∘ fun e : En => if e.1 = x.1 then x else e) = D.map Prod.fst := List.map_congr_left fun e _ => by
      show (if e.1 = x.1 then x else e).1 = e.1
      by_cases c : e.1 = x.1
      · rw [if_pos c, c]
      · rw [if_neg c]
    rw [this]
    exact n
theorem ePut_len (D : List En) (x : En) : (ePut D x).length ≤ D.length + 1 := by
  unfold ePut
  split
  · rw [List.length_map]; omega
  · rw [List.length_append]; exact Nat.le_refl _
/-- a dict after some entries were put -/
def puts (D : List En) (es : List En) : List En := es.foldl ePut D
theorem puts_app (D A : List En) (x : En) : puts D (A ++ [x]) = ePut (puts D A) x := by unfold puts; rw [List.foldl_append]; rfl
theorem eGet_puts (es : List En) : ∀ (D : List En) (k : Int), eGet (puts D es) k = (eGet es.reverse k).or (eGet D k) := by
  induction es with
  | nil => intro D k; rw [List.reverse_nil, eGet_nil, Option.none_or]; rfl
  | cons x es ih =>
    intro D k
    show eGet (puts (ePut D x) es) k = _
    rw [ih, List.reverse_cons, eGet_app, eGet_put, eGet_cons, eGet_nil, Option.or_assoc]
    congr 1
    by_cases c : x.1 = k
    · rw [if_pos c, if_pos c, Option.some_or]
    · rw [if_neg c, if_neg c, Option.none_or]
theorem NK.puts {D : List En} (n : NK D) (es : List En) : NK (puts D es) := by
  induction es generalizing D with
  | nil => exact n
  | cons x es ih => exact ih (n.put x)
theorem puts_len (es : List En) : ∀ D : List En, (puts D es).length ≤ D.length + es.length := by
  induction es with
  | nil => exact fun D => Nat.le_refl _
  | cons x es ih =>
    intro D
    have := ih (ePut D x)
    have := ePut_len D x
    show (C.puts (ePut D x) es).length ≤ _
    rw [List.length_cons]
    omega
theorem eGet_rev {es : List En} (n : NK es) (k : Int) : eGet es.reverse k = eGet es k := by
  have nr : NK es.reverse := by unfold NK; rw [List.map_reverse]; exact (List.reverse_perm _).nodup_iff.mpr n
  cases h : eGet es k with
  | none => exact eGet_none.mpr fun x hx => eGet_none.mp h x (List.mem_reverse.mp hx)
  | some v => exact eGet_mem nr (x := (k, v)) (List.mem_reverse.mpr (eGet_in h))
theorem NK.nil : NK [] := List.nodup_nil
/-- the entries of a dict by their keys -/
def byKeys (D : List En) (ns : List Int) : List En := ns.map fun k => (k, (eGet D k).getD none)
theorem byKeys_srt {D : List En} (n : NK D) {ns : List Int} (p : ns.Perm (D.map Prod.fst)) (q : ns.Pairwise (· ≤ ·)) (b : ∀ x ∈ D, -(2 ^ 59) < x.1 ∧ x.1 < 2 ^ 59) : Srt (byKeys D ns) := by
  have nd : ns.Nodup := p.nodup_iff.mpr n
  refine ⟨?_, fun x hx => ?_⟩
  · refine List.pairwise_map.mpr ?_
    have := q.and nd
    exact this.imp fun {a b} h => by have := h.1; have := h.2; show a < b; omega
  · obtain ⟨k, hk, rfl⟩ := List.mem_map.mp hx
    obtain ⟨y, hy, e⟩ := List.mem_map.mp (p.mem_iff.mp hk)
    have := b y hy
    rw [e] at this
    exact this
theorem byKeys_get {D : List En} (n : NK D) {ns : List Int} (p : ns.Perm (D.map Prod.fst)) (k : Int) : eGet (byKeys D ns) k = eGet D k := by
  have nk : NK (byKeys D ns) := by
    unfold NK byKeys
    rw [List.map_map]
    have : ns.map (Prod.fst ∘ fun k => (k, (eGet D k).getD none)) = ns := by
      have := List.map_id ns
      exact this
    rw [this]
    exact p.nodup_iff.mpr n
  cases h : eGet D k with
  | none =>
    refine eGet_none.mpr fun x hx e => ?_
    obtain ⟨j, hj, rfl⟩ := List.mem_map.mp hx
    obtain ⟨y, hy, e2⟩ := List.mem_map.mp (p.mem_iff.mp hj)
    exact eGet_none.mp h y hy (e2.trans e)
  | some v =>
    refine eGet_mem nk (x := (k, v)) (List.mem_map.mpr ⟨k, p.mem_iff.mpr (List.mem_map.mpr ⟨(k, v), eGet_in h, rfl⟩), ?_⟩)
    rw [h]; rfl
theorem Mg.get {v w f : List En} (h : Mg v w f) (sv : Srt v) (sw : Srt w) (k : Int) : eGet f k = (eGet v k).or (eGet w k) := by
  cases hv : eGet v k with
  | some a =>
    rw [Option.some_or]
    exact eGet_mem h.srt.nk (x := (k, a)) ((h.mem _).mpr (.inl (eGet_in hv)))
  | none =>
    rw [Option.none_or]
    cases hw : eGet w k with
    | some a => exact eGet_mem h.srt.nk (x := (k, a)) ((h.mem _).mpr (.inr ⟨eGet_in hw, eGet_none.mp hv⟩))
    | none =>
      refine eGet_none.mpr fun x hx e => ?_
      rcases (h.mem x).mp hx with z | z
      · exact eGet_none.mp hv x z e
      · exact eGet_none.mp hw x z.1 e
theorem Mg.of {v w f : List En} (sv : Srt v) (sw : Srt w) (sf : Srt f) (l : f.length ≤ v.length + w.length) (h : ∀ k, eGet f k = (eGet v k).or (eGet w k)) : Mg v w f := by
  refine ⟨sf, fun x => ?_, l⟩
  rw [mem_get sf.nk, mem_get sv.nk, mem_get sw.nk, h]
  cases hv : eGet v x.1 with
  | some a =>
    rw [Option.some_or]
    refine ⟨.inl, ?_⟩
    rintro (z | ⟨_, z⟩)
    · exact z
    · exact (z (x.1, a) (eGet_in hv) rfl).elim
  | none =>
    rw [Option.none_or]
    refine ⟨fun z => .inr ⟨z, fun y hy e => eGet_none.mp hv y hy e⟩, ?_⟩
    rintro (z | ⟨z, _⟩)
    · cases z
    · exact z
theorem dPut_next {D es : List En} {i : Nat} (h : i < es.length) : dPut ((puts D (es.take i)).map kvE) (.inl (eA es i).1) (vM (eA es i).2) = (puts D (es.take (i + 1))).map kvE := by rw [takeE h, puts_app, dPut_e]
theorem gDG_go {D : List En} {k : Int} {v : Option Int} {Q : MV → Prop} (h : eGet D k = some v) (q : Q (vM v)) : gDG (D.map kvE) (.inl k) Q := .mk _ (by rw [dGet_e, h]; rfl) q

end C
namespace C
open PySem PySem.Spec PyProof.Rows L2
local macro_rules | `(tactic| walk_at "ev") => `(tactic| (conv => whnf))
local macro_rules | `(tactic| walk_at "side") => `(tactic| (first | assumption | exact trivial | exact line1000 rfl | (show (0 : Int) < _; first | omega | decide) | exact rfl | exact smallof (by omega) (by omega) | exact ⟨smallof (by omega) (by omega), smallof (by omega) (by omega)⟩ | exact Or.inl (by omega) | exact Or.inr (Or.inl (by omega)) | exact cdiv_of (by omega) (by omega) | omega | exact lt_line (by omega) | exact le_line (by omega) | exact ⟨by decide, by decide, by decide⟩ | decide | fail))
local macro_rules | `(tactic| walk_at "go") => `(tactic| ((repeat' ((conv => whnf); first | refine And.intro (by walk_at "side") ?_ | walk_at "call" | walk_at "test" | fail)); try (conv => whnf)))
local macro_rules | `(tactic| walk_at "call") => `(tactic| (first | refine setE_go (by assumption) ?_ | fail))
local macro_rules | `(tactic| walk_at "test") => `(tactic| (first | refine mdec_yes (by omega) ?_ | refine mdec_no (by omega) ?_ | refine mdec_no (fun h => h rfl) ?_ | refine mndec_yes (by omega) ?_ | refine mndec_no (by omega) ?_ | fail))
local macro_rules | `(tactic| walk_at "call") => `(tactic| (first | refine gl0 ?_ | refine gl1 ?_ | refine gl2 ?_ | refine gl3 ?_ | refine at_go (by omega) (by omega) ?_ | refine at_goN (by omega) (by omega) ?_ | fail))
local macro_rules | `(tactic| walk_at "call") => `(tactic| (first | refine ints_go ?_ | refine bools_go ?_ | fail))
local macro_rules | `(tactic| walk_at "call") => `(tactic| (first | refine eqD_go (pl_ints _) (pl_ints _) ?_ | fail))
local macro_rules | `(tactic| walk_at "call") => `(tactic| (first | refine w_cell _ _ (by omega) _ _ (fun _ => ?_) | fail))
local macro_rules | `(tactic| walk_at "call") => `(tactic| (first | refine w_cell _ _ (by omega) _ _ (fun _ => ?_) | fail))
local macro_rules | `(tactic| walk_at "call") => `(tactic| (first | refine at_go (by omega) (by omega) ?_ | refine at_goN (by omega) (by omega) ?_ | refine atPr (by omega) (by omega) ?_ | refine atPrN (by omega) (by omega) ?_ | fail))
local macro_rules | `(tactic| walk_at "call") => `(tactic| (first | refine alls_go ?_ | fail))
local macro_rules | `(tactic| walk_at "call") => `(tactic| (first | refine eqD_go (pl_prs _) (pl_prs _) ?_ | fail))
local macro_rules | `(tactic| walk_at "call") => `(tactic| (first | refine at_go (by omega) (by omega) ?_ | refine at_goN (by omega) (by omega) ?_ | refine atPr (by omega) (by omega) ?_ | refine atPrN (by omega) (by omega) ?_ | refine atRg (by omega) (by omega) ?_ | refine atRgN (by omega) (by omega) ?_ | fail))
local macro_rules | `(tactic| walk_at "call") => `(tactic| (first | refine intsF_go ?_ | fail))
local macro_rules | `(tactic| walk_at "call") => `(tactic| (first | refine atPc (by omega) (by omega) ?_ | refine atRs (by omega) (by omega) ?_ | fail))
local macro_rules | `(tactic| walk_at "call") => `(tactic| (first | refine atLv (by omega) (by omega) ?_ | refine atLvN (by omega) (by omega) ?_ | fail))
local macro_rules | `(tactic| walk_at "call") => `(tactic| (first | refine atE (by omega) (by omega) ?_ | refine atEN (by omega) (by omega) ?_ | fail))
local macro_rules | `(tactic| walk_at "call") => `(tactic| (first | refine atRo (by omega) (by omega) ?_ | fail))
/-! ### the law's edits -/
def EdB (x : En) : Prop := -600000 < x.1 ∧ x.1 < 1000001
theorem w_edits (ns : List Int) (place most : Int) (hp : 0 ≤ place) (hm0 : 0 ≤ most) (hm1 : most < 100) (Q : OV → Env → Prop) (E : Int → Prop)
    (h : ∀ e (es : List En), es.length ≤ most.toNat → (∀ x ∈ es, EdB x) → Q (.lst (es.map eM)) e) : F_law_edits [.bo (.scr (scrOf ns)), .ow (.fro (.int place)), .ow (.fro (.int most))] Q E := by
  refine F_law_edits.mk ?_
  walk_at "go"
  have c0 := Int.emod_nonneg (cell ns place) (show most + 1 ≠ 0 by omega)
  have c1 := Int.emod_lt_of_pos (cell ns place) (show 0 < most + 1 by omega)
  have t0 := Int.emod_nonneg (cell ns place / (most + 1)) (show (4 : Int) ≠ 0 by decide)
  have t1 := Int.emod_lt_of_pos (cell ns place / (most + 1)) (show (0 : Int) < 4 by decide)
  refine at_lit [3, 8, 30, 1000000] t0 (by simpa using t1) fun many hmany => ?_
  have m0 : 0 < many ∧ many ≤ 1000000 := by
    simp only [List.mem_cons, List.not_mem_nil, or_false] at hmany
    omega
  clear hmany
  walk_at "go"
  refine w_digits _ _ _ (by omega) (by omega) (by omega) (by omega) _ _ fun _ ds dl dd => ?_
  have dd' : ∀ i : Int, 0 ≤ i → i < cell ns place % (most + 1) → 0 ≤ cell ds i ∧ cell ds i < 10000000 := fun i a b => dd _ (cell_mem a (by omega))
  walk_at "go"
  refine for_inv (fun i e => ∃ (es : List En) (s8 s9 s10 : Slot), e = [.bo (.scr (scrOf ns)), .ow (.fro (.int place)), .ow (.fro (.int most)), .ow (.fro (.int (cell ns place))), .ow (.fro (.int (cell ns place % (most + 1)))), .ow (.fro (.int many)), .ow (.fro (.lst (ds.map .int))), .ow (.lst (es.map eM)), s8, s9, s10] ∧ isRf s8 = false ∧ isRf s9 = false ∧ isRf s10 = false ∧ es.length = i ∧ ∀ x ∈ es, EdB x) ⟨[], .un, .un, .un, rfl, rfl, rfl, rfl, rfl, fun x hx => by cases hx⟩ ?_ ?_
  · rintro e ⟨es, s8, s9, s10, rfl, q8, q9, q10, le, he⟩
    rw [rgM_len] at le
    walk_at "go"
    exact h _ es (by omega) he
  · rintro i m e hi ⟨es, s8, s9, s10, rfl, q8, q9, q10, le, he⟩ N hN
    obtain ⟨hi, rfl⟩ := rgM_at0 hi
    have di := dd' (i : Int) (by omega) (by omega)
    have lem : (es.map eM).length = i := by simpa using le
    have v0 := Int.emod_nonneg (cell ds (i : Int)) (show many ≠ 0 by omega)
    have v1 := Int.emod_lt_of_pos (cell ds (i : Int)) (show 0 < many by omega)
    walk_at "go"
    refine at_lit [1, 3, 9, 500000] t0 (by simpa using t1) fun off hoff => ?_
    have o0 : 0 ≤ off ∧ off ≤ 500000 := by
      simp only [List.mem_cons, List.not_mem_nil, or_false] at hoff
      omega
    clear hoff
    walk_at "go"
    refine if_go ?_
    walk_at "go"
    refine mdec (fun c => ?_) fun c => ?_
    · walk_at "go"
      exact hN _ ⟨es ++ [(cell ds (i : Int) % many - off, none)], _, _, _, by rw [List.map_append]; rfl, rfl, rfl, rfl, by rw [List.length_append, le]; rfl, fun x hx => by
        rcases List.mem_append.mp hx with z | z
        · exact he x z
        · rw [List.mem_singleton.mp z]
          exact ⟨by show -600000 < cell ds (i : Int) % many - off; omega, by show cell ds (i : Int) % many - off < 1000001; omega⟩⟩
    · walk_at "go"
      exact hN _ ⟨es ++ [(cell ds (i : Int) % many - off, some (cell ds (i : Int) / 7 % 19 - 9))], _, _, _, by rw [List.map_append]; rfl, rfl, rfl, rfl, by rw [List.length_append, le]; rfl, fun x hx => by
        rcases List.mem_append.mp hx with z | z
        · exact he x z
        · rw [List.mem_singleton.mp z]
          exact ⟨by show -600000 < cell ds (i : Int) % many - off; omega, by show cell ds (i : Int) % many - off < 1000001; omega⟩⟩

end C
namespace C
open PySem PySem.Spec PyProof.Rows L2
local macro_rules | `(tactic| walk_at "ev") => `(tactic| (conv => whnf))
local macro_rules | `(tactic| walk_at "side") => `(tactic| (first | assumption | exact trivial | exact line1000 rfl | (show (0 : Int) < _; first | omega | decide) | exact rfl | exact smallof (by omega) (by omega) | exact ⟨smallof (by omega) (by omega), smallof (by omega) (by omega)⟩ | exact Or.inl (by omega) | exact Or.inr (Or.inl (by omega)) | exact cdiv_of (by omega) (by omega) | omega | exact lt_line (by omega) | exact le_line (by omega) | exact ⟨by decide, by decide, by decide⟩ | decide | fail))
local macro_rules | `(tactic| walk_at "go") => `(tactic| ((repeat' ((conv => whnf); first | refine And.intro (by walk_at "side") ?_ | walk_at "call" | walk_at "test" | fail)); try (conv => whnf)))
local macro_rules | `(tactic| walk_at "call") => `(tactic| (first | refine setE_go (by assumption) ?_ | fail))
local macro_rules | `(tactic| walk_at "test") => `(tactic| (first | refine mdec_yes (by omega) ?_ | refine mdec_no (by omega) ?_ | refine mdec_no (fun h => h rfl) ?_ | refine mndec_yes (by omega) ?_ | refine mndec_no (by omega) ?_ | fail))
local macro_rules | `(tactic| walk_at "call") => `(tactic| (first | refine gl0 ?_ | refine gl1 ?_ | refine gl2 ?_ | refine gl3 ?_ | refine at_go (by omega) (by omega) ?_ | refine at_goN (by omega) (by omega) ?_ | fail))
local macro_rules | `(tactic| walk_at "call") => `(tactic| (first | refine ints_go ?_ | refine bools_go ?_ | fail))
local macro_rules | `(tactic| walk_at "call") => `(tactic| (first | refine eqD_go (pl_ints _) (pl_ints _) ?_ | fail))
local macro_rules | `(tactic| walk_at "call") => `(tactic| (first | refine w_cell _ _ (by omega) _ _ (fun _ => ?_) | fail))
local macro_rules | `(tactic| walk_at "call") => `(tactic| (first | refine w_cell _ _ (by omega) _ _ (fun _ => ?_) | fail))
local macro_rules | `(tactic| walk_at "call") => `(tactic| (first | refine at_go (by omega) (by omega) ?_ | refine at_goN (by omega) (by omega) ?_ | refine atPr (by omega) (by omega) ?_ | refine atPrN (by omega) (by omega) ?_ | fail))
local macro_rules | `(tactic| walk_at "call") => `(tactic| (first | refine alls_go ?_ | fail))
local macro_rules | `(tactic| walk_at "call") => `(tactic| (first | refine eqD_go (pl_prs _) (pl_prs _) ?_ | fail))
local macro_rules | `(tactic| walk_at "call") => `(tactic| (first | refine at_go (by omega) (by omega) ?_ | refine at_goN (by omega) (by omega) ?_ | refine atPr (by omega) (by omega) ?_ | refine atPrN (by omega) (by omega) ?_ | refine atRg (by omega) (by omega) ?_ | refine atRgN (by omega) (by omega) ?_ | fail))
local macro_rules | `(tactic| walk_at "call") => `(tactic| (first | refine intsF_go ?_ | fail))
local macro_rules | `(tactic| walk_at "call") => `(tactic| (first | refine atPc (by omega) (by omega) ?_ | refine atRs (by omega) (by omega) ?_ | fail))
local macro_rules | `(tactic| walk_at "call") => `(tactic| (first | refine atLv (by omega) (by omega) ?_ | refine atLvN (by omega) (by omega) ?_ | fail))
local macro_rules | `(tactic| walk_at "call") => `(tactic| (first | refine atE (by omega) (by omega) ?_ | refine atEN (by omega) (by omega) ?_ | fail))
local macro_rules | `(tactic| walk_at "call") => `(tactic| (first | refine atRo (by omega) (by omega) ?_ | fail))
/-! ### the entries at a level -/
def esR : Option Rn → List En
  | none => []
  | some r => r.1
theorem esR_len (x : Option Rn) : (esR x).length = szR x := by cases x <;> rfl
theorem Fil.es {E : List En} {x : Option Rn} (h : Fil E x) : esR x = E := by
  rcases h with ⟨rfl, rfl⟩ | ⟨Ls, rfl, _⟩
  · rfl
  · rfl

/-! ### what a store has -/
def lookR : List (Option Rn) → Int → Option (Option Int)
  | [], _ => none
  | x :: rs, k => (eGet (esR x) k).or (lookR rs k)
theorem lookR_app (a b : List (Option Rn)) (k : Int) : lookR (a ++ b) k = (lookR a k).or (lookR b k) := by
  induction a with
  | nil => rw [List.nil_append]; show _ = Option.or none _; rw [Option.none_or]
  | cons x a ih =>
    show (eGet (esR x) k).or (lookR (a ++ b) k) = ((eGet (esR x) k).or (lookR a k)).or (lookR b k)
    rw [ih, Option.or_assoc]
theorem lookR_none {rs : List (Option Rn)} (h : ∀ x ∈ rs, x = none) (k : Int) : lookR rs k = none := by
  induction rs with
  | nil => rfl
  | cons x rs ih =>
    show (eGet (esR x) k).or (lookR rs k) = none
    rw [h x List.mem_cons_self, ih fun y hy => h y (List.mem_cons_of_mem _ hy)]
    rfl
def look (buf : List En) (rs : List (Option Rn)) (k : Int) : Option (Option Int) := (eGet buf k).or (lookR rs k)
theorem takeRo {rs : List (Option Rn)} {i : Nat} (h : i < rs.length) : rs.take (i + 1) = rs.take i ++ [roA rs i] := by
  rw [List.take_succ, List.getElem?_eq_getElem h, roA_g h]; rfl
theorem lookR_one (x : Option Rn) (k : Int) : lookR [x] k = eGet (esR x) k := by
  show (eGet (esR x) k).or none = _
  rw [Option.or_none]
theorem Fl.get {rs : List (Option Rn)} {buf : List En} (hb : Srt buf) (hr : ∀ k, k < rs.length → ∀ r, roA rs k = Option.some r → RnG r) : ∀ {i : Nat} {E : List En} {m : Int}, Fl rs buf i E m → ∀ k, eGet E k = (eGet buf k).or (lookR (rs.take i) k)
  | 0, _, _, .z, k => by rw [List.take_zero]; show _ = (eGet buf k).or none; rw [Option.or_none]
  | i + 1, _, _, .s (r := r) a hi h1 g, k => by
    rw [g.get (a.srt hb) (hr i hi r h1).srt, Fl.get hb hr a, takeRo hi, lookR_app, lookR_one, h1, Option.or_assoc]
    rfl
theorem filter_get {F : List En} (n : NK F) (k : Int) : eGet (F.filter fun x => x.2.isSome) k = (eGet F k).join.map some := by
  have nf : NK (F.filter fun x => x.2.isSome) := List.Pairwise.sublist (List.Sublist.map _ List.filter_sublist) n
  have key : ∀ v, eGet (F.filter fun x => x.2.isSome) k = some v → v.isSome = true ∧ eGet F k = some v := fun v hv => by
    have := List.mem_filter.mp (eGet_in hv)
    exact ⟨this.2, eGet_mem n this.1⟩
  cases h : eGet F k with
  | none =>
    show _ = none
    cases h2 : eGet (F.filter fun x => x.2.isSome) k with
    | none => rfl
    | some v => have := (key v h2).2; rw [h] at this; cases this
  | some u =>
    cases u with
    | none =>
      show _ = none
      cases h2 : eGet (F.filter fun x => x.2.isSome) k with
      | none => rfl
      | some v =>
        have q := key v h2
        rw [h] at q
        have := Option.some.inj q.2
        rw [← this] at q
        cases q.1
    | some v =>
      show _ = some (some v)
      exact eGet_mem nf (x := (k, some v)) (List.mem_filter.mpr ⟨eGet_in h, rfl⟩)
/-- a sorted list is the contents of a function -/
structure Cts (c : Int → Option Int) (g : List En) : Prop where
  srt : Srt g
  get : ∀ k, eGet g k = (c k).map some
theorem Cts.uniq {c : Int → Option Int} {g h : List En} (a : Cts c g) (b : Cts c h) : g = h := a.srt.ext b.srt fun k => by rw [a.get, b.get]
theorem Cts.of {F : List En} (h : Srt F) {c : Int → Option Int} (e : ∀ k, (eGet F k).join = c k) : Cts c (F.filter fun x => x.2.isSome) := ⟨h.filter _, fun k => by rw [filter_get h.nk, e]⟩
theorem Wr.look {n : Nat} {cap mv mv' : Int} {x : En} {buf buf' : List En} {rs rs' : List (Option Rn)} (h : StG n mv buf rs) (hx : -(2 ^ 59) < x.1 ∧ x.1 < 2 ^ 59) (w : Wr cap x mv buf rs mv' buf' rs') (k : Int) : (look buf' rs' k).join = if x.1 = k then x.2 else (look buf rs k).join := by
  have hB : ∀ B, Mg [x] buf B → eGet B k = if x.1 = k then some x.2 else eGet buf k := fun B g => by
    rw [g.get (Srt.one hx) h.sb, eGet_cons, eGet_nil]
    split
    · rw [Option.some_or]
    · rw [Option.none_or]
  cases w with
  | keep B g c e1 e2 e3 =>
    subst e1 e2 e3
    unfold C.look
    rw [hB _ g]
    split
    · rw [Option.some_or]; rfl
    · rfl
  | flush B g c f e1 =>
    subst e1
    obtain ⟨L, F, m, y, f, hl, hno, hf, rfl, rfl⟩ := f
    have gF := f.get g.srt h.run k
    have e1 : lookR (flR rs L y) k = (eGet (kept rs L F) k).or (lookR (rs.drop (L + 1)) k) := by
      unfold flR
      rw [lookR_app, lookR_none (fun x hx => List.eq_of_mem_replicate hx), Option.none_or]
      show (eGet (esR y) k).or _ = _
      rw [hf.es]
    have e2 : lookR rs k = (lookR (rs.take L) k).or (lookR (rs.drop (L + 1)) k) := by
      have e3 : lookR (rs.drop L) k = lookR (rs.drop (L + 1)) k := by
        by_cases q : L < rs.length
        · rw [List.drop_eq_getElem_cons q, roA_g q, hno q]
          show Option.or none _ = _
          rw [Option.none_or]
        · rw [List.drop_eq_nil_of_le (by omega), List.drop_eq_nil_of_le (by omega)]
      rw [← e3, ← lookR_app, List.take_append_drop]
    have e4 : (eGet B k).or (lookR rs k) = (eGet F k).or (lookR (rs.drop (L + 1)) k) := by rw [gF, e2, Option.or_assoc]
    have e5 : ((eGet (kept rs L F) k).or (lookR (rs.drop (L + 1)) k)).join = ((eGet F k).or (lookR (rs.drop (L + 1)) k)).join := by
      by_cases q : noneLeft rs L
      · rw [kept_yes F q, filter_get (f.srt g.srt).nk]
        have e6 : lookR (rs.drop (L + 1)) k = none := lookR_none (fun x hx => q x (by
          have : rs.drop (L + 1) = (rs.drop L).drop 1 := by rw [List.drop_drop]
          rw [this] at hx
          exact List.mem_of_mem_drop hx)) k
        rw [e6, Option.or_none, Option.or_none]
        cases eGet F k with
        | none => rfl
        | some u => cases u <;> rfl
      · rw [kept_no F q]
    show (Option.or (eGet [] k) (lookR (flR rs L y) k)).join = _
    rw [eGet_nil, Option.none_or, e1, e5, ← e4, hB B g]
    unfold C.look
    split
    · rw [Option.some_or]; rfl
    · rfl
/-- the last entries of edits -/
def las (es : List En) (k : Int) : Option Int := (eGet es.reverse k).join
theorem las_app (es : List En) (x : En) (k : Int) : las (es ++ [x]) k = if x.1 = k then x.2 else las es k := by
  unfold las
  rw [List.reverse_append]
  show (eGet (x :: es.reverse) k).join = _
  rw [eGet_cons]
  split
  · rfl
  · rfl
/-- a store after edits -/
structure StE (es : List En) (mv : Int) (buf : List En) (rs : List (Option Rn)) : Prop where
  g : StG es.length mv buf rs
  lk : ∀ k, (look buf rs k).join = las es k
theorem StE.new : StE [] 0 [] [] := ⟨⟨Srt.nil, fun k hk => by (have : k < 0 := hk); omega, Nat.le_refl 0, Nat.le_refl 0, by decide⟩, fun k => rfl⟩
theorem StE.more {es : List En} {cap mv mv' : Int} {x : En} {buf buf' : List En} {rs rs' : List (Option Rn)} (h : StE es mv buf rs) (hn : es.length < 1800) (hx : -(2 ^ 59) < x.1 ∧ x.1 < 2 ^ 59) (w : Wr cap x mv buf rs mv' buf' rs') : StE (es ++ [x]) mv' buf' rs' := by
  refine ⟨?_, fun k => ?_⟩
  · rw [List.length_append, List.length_singleton]
    exact w.good h.g hn
  · rw [w.look h.g hx, las_app, h.lk]
theorem w_contents {n : Nat} {mv ed cap er : Int} {buf : List En} {rs : List (Option Rn)} (h : StG n mv buf rs) (hn : n < 1800) (Q : OV → Env → Prop) (E : Int → Prop)
    (k : ∀ f, Cts (fun k => (look buf rs k).join) f → f.length ≤ n → ∀ en, Q (.lst (f.map eM)) en) : F_Store_contents [.bo (StO mv ed cap er buf rs)] Q E := by
  refine F_Store_contents.mk ?_
  have ht := h.tot
  walk_at "go"
  refine for_inv (fun i en => ∃ (F : List En) (s2 : Slot), en = [.bo (StO mv ed cap er buf rs), .ow (.fro (.lst (F.map eM))), s2, .un] ∧ isRf s2 = false ∧ Srt F ∧ F.length ≤ buf.length + tot (rs.take i) ∧ ∀ k, eGet F k = (eGet buf k).or (lookR (rs.take i) k)) ⟨buf, .un, rfl, rfl, h.sb, by omega, fun k => by rw [List.take_zero]; show _ = (eGet buf k).or none; rw [Option.or_none]⟩ ?_ ?_
  · rintro en ⟨F, s2, rfl, q2, sF, lF, gF⟩
    rw [List.length_map, List.take_length] at lF gF
    walk_at "go"
    refine lc_tyF eM eM (fun x => x.2.isSome) _ _ (le_line (by simp; omega)) (fun x hx Y N y1 n1 => ?_) ?_
    · walk_at "go"
      rw [vM_is]
      cases hv : x.2.isSome with
      | false => exact n1 hv
      | true =>
        walk_at "go"
        exact y1 hv
    rw [List.nil_append]
    walk_at "go"
    refine k _ (Cts.of sF fun k => by rw [gF]; rfl) ?_ _
    have := List.length_filter_le (fun x : En => x.2.isSome) F
    omega
  · rintro i m en hi ⟨F, s2, rfl, q2, sF, lF, gF⟩ N hN
    obtain ⟨hi1, rfl⟩ := getT none hi
    clear hi
    have tt := tot_take rs i
    have et : tot (rs.take (i + 1)) = tot (rs.take i) + szR (roA rs i) := by
      unfold tot
      rw [takeRo hi1, List.map_append, List.sum_append]
      simp
    rw [show rs.getD i none = roA rs i from rfl]
    walk_at "go"
    refine if_go ?_
    walk_at "go"
    cases hx : roA rs i with
    | none =>
      walk_at "go"
      refine hN _ ⟨F, _, rfl, rfl, sF, by omega, fun k => ?_⟩
      rw [gF, takeRo hi1, lookR_app, lookR_one, hx]
      show _ = (eGet buf k).or ((lookR (rs.take i) k).or none)
      rw [Option.or_none]
    | some r =>
      have g := h.run i hi1 r hx
      have rl := tot_at hi1 hx
      have et2 : tot (rs.take (i + 1)) = tot (rs.take i) + r.1.length := by rw [et, hx]; rfl
      walk_at "go"
      refine w_merged sF g.srt (by omega) (by omega) _ _ fun F2 g2 en => ?_
      have l2 := g2.len
      walk_at "go"
      refine hN _ ⟨F2, _, rfl, rfl, g2.srt, by omega, fun k => ?_⟩
      rw [g2.get sF g.srt, gF, takeRo hi1, lookR_app, lookR_one, hx, Option.or_assoc]
      rfl
theorem w_done {es : List En} (le : es.length < 2500) (hb : ∀ x ∈ es, -(2 ^ 59) < x.1 ∧ x.1 < 2 ^ 59) (Q : OV → Env → Prop) (E : Int → Prop)
    (k : ∀ f, Cts (las es) f → ∀ en, Q (.lst (f.map eM)) en) : F_law_done [.ow (.fro (.lst (es.map eM)))] Q E := by
  refine F_law_done.mk ?_
  walk_at "go"
  refine for_inv (fun i en => ∃ (s2 s3 : Slot), en = [.ow (.fro (.lst (es.map eM))), .ow (.dct ((puts [] (es.take i)).map kvE)), s2, s3] ∧ isRf s2 = false ∧ isRf s3 = false) ⟨.un, .un, rfl, rfl, rfl⟩ ?_ ?_
  rotate_left
  · rintro i m en hi ⟨s2, s3, rfl, q2, q3⟩ N hN
    obtain ⟨hi1, rfl⟩ := getE hi
    have lp := puts_len (es.take i) []
    rw [List.length_nil, List.length_take] at lp
    walk_at "go"
    refine ⟨lt_line (by rw [List.length_map]; omega), ?_⟩
    refine hN _ ⟨.ow (.fro (.int (eA es i).1)), .ow (.fro (vM (eA es i).2)), ?_, rfl, rfl⟩
    rw [← dPut_next hi1]
    rfl
  · rintro en ⟨s2, s3, rfl, q2, q3⟩
    rw [List.length_map, List.take_length]
    obtain ⟨D, hD⟩ : ∃ D, D = puts [] es := ⟨_, rfl⟩
    have nk : NK D := by rw [hD]; exact NK.nil.puts es
    have get : ∀ k, eGet D k = eGet es.reverse k := fun k => by rw [hD, eGet_puts, eGet_nil, Option.or_none]
    have lD : D.length ≤ es.length := by
      have lp := puts_len es []
      rw [List.length_nil] at lp
      rw [hD]; omega
    have bD : ∀ x ∈ D, -(2 ^ 59) < x.1 ∧ x.1 < 2 ^ 59 := fun x hx => by
      have := eGet_mem nk hx
      rw [get] at this
      exact hb _ (List.mem_reverse.mp (eGet_in this))
    rw [← hD]
    clear hD
    walk_at "go"
    rw [keys_e]
    walk_at "go"
    intro ns hp0 hs
    have hp : ns.Perm (D.map Prod.fst) := by rwa [List.map_id'] at hp0
    clear hp0
    have ln : ns.length = D.length := by rw [hp.length_eq, List.length_map]
    have gx : ∀ j ∈ ns, ∃ v, eGet D j = some v := fun j hj => by
      obtain ⟨x, hx, rfl⟩ := List.mem_map.mp (hp.mem_iff.mp hj)
      exact ⟨_, eGet_mem nk hx⟩
    walk_at "go"
    refine lc_tyF MV.int (fun j => eM (j, (eGet D j).getD none)) (fun j => ((eGet D j).getD none).isSome) ns [] (le_line (by simp; omega)) (fun j hj Y N y1 n1 => ?_) ?_
    · obtain ⟨v, hv⟩ := gx j hj
      rw [hv] at y1 n1
      walk_at "go"
      refine gDG_go hv ?_
      walk_at "go"
      rw [vM_is]
      cases hs : v.isSome with
      | false => exact n1 hs
      | true =>
        walk_at "go"
        refine gDG_go hv ?_
        walk_at "go"
        exact y1 hs
    · walk_at "go"
      have sb := byKeys_srt nk hp hs bD
      have gb := byKeys_get nk hp
      have e : (ns.filter fun j => ((eGet D j).getD none).isSome).map (fun j => eM (j, (eGet D j).getD none)) = ((byKeys D ns).filter fun x => x.2.isSome).map eM := by
        unfold byKeys
        rw [List.filter_map, List.map_map]
        rfl
      rw [e]
      exact k _ (Cts.of sb fun k => by rw [gb, get]; rfl) _
theorem pl_eM {k : Nat} (x : En) : Pl (k + 1) (eM x) := by
  unfold eM Pl
  intro m hm
  simp only [List.mem_cons, List.not_mem_nil, or_false] at hm
  rcases hm with rfl | rfl
  · unfold Pl; trivial
  · cases x.2 <;> (unfold vM Pl; trivial)
theorem pl_es {k : Nat} (es : List En) : Pl (k + 2) (.lst (es.map eM)) := by
  unfold Pl
  intro m hm
  obtain ⟨x, _, rfl⟩ := List.mem_map.mp hm
  exact pl_eM x

end C
namespace C
open PySem PySem.Spec PyProof.Rows L2
local macro_rules | `(tactic| walk_at "ev") => `(tactic| (conv => whnf))
local macro_rules | `(tactic| walk_at "side") => `(tactic| (first | assumption | exact trivial | exact line1000 rfl | (show (0 : Int) < _; first | omega | decide) | exact rfl | exact smallof (by omega) (by omega) | exact ⟨smallof (by omega) (by omega), smallof (by omega) (by omega)⟩ | exact Or.inl (by omega) | exact Or.inr (Or.inl (by omega)) | exact cdiv_of (by omega) (by omega) | omega | exact lt_line (by omega) | exact le_line (by omega) | exact ⟨by decide, by decide, by decide⟩ | decide | fail))
local macro_rules | `(tactic| walk_at "go") => `(tactic| ((repeat' ((conv => whnf); first | refine And.intro (by walk_at "side") ?_ | walk_at "call" | walk_at "test" | fail)); try (conv => whnf)))
local macro_rules | `(tactic| walk_at "call") => `(tactic| (first | refine setE_go (by assumption) ?_ | fail))
local macro_rules | `(tactic| walk_at "test") => `(tactic| (first | refine mdec_yes (by omega) ?_ | refine mdec_no (by omega) ?_ | refine mdec_no (fun h => h rfl) ?_ | refine mndec_yes (by omega) ?_ | refine mndec_no (by omega) ?_ | fail))
local macro_rules | `(tactic| walk_at "call") => `(tactic| (first | refine gl0 ?_ | refine gl1 ?_ | refine gl2 ?_ | refine gl3 ?_ | refine at_go (by omega) (by omega) ?_ | refine at_goN (by omega) (by omega) ?_ | fail))
local macro_rules | `(tactic| walk_at "call") => `(tactic| (first | refine ints_go ?_ | refine bools_go ?_ | fail))
local macro_rules | `(tactic| walk_at "call") => `(tactic| (first | refine eqD_go (pl_ints _) (pl_ints _) ?_ | fail))
local macro_rules | `(tactic| walk_at "call") => `(tactic| (first | refine w_cell _ _ (by omega) _ _ (fun _ => ?_) | fail))
local macro_rules | `(tactic| walk_at "call") => `(tactic| (first | refine w_cell _ _ (by omega) _ _ (fun _ => ?_) | fail))
local macro_rules | `(tactic| walk_at "call") => `(tactic| (first | refine at_go (by omega) (by omega) ?_ | refine at_goN (by omega) (by omega) ?_ | refine atPr (by omega) (by omega) ?_ | refine atPrN (by omega) (by omega) ?_ | fail))
local macro_rules | `(tactic| walk_at "call") => `(tactic| (first | refine alls_go ?_ | fail))
local macro_rules | `(tactic| walk_at "call") => `(tactic| (first | refine eqD_go (pl_prs _) (pl_prs _) ?_ | fail))
local macro_rules | `(tactic| walk_at "call") => `(tactic| (first | refine at_go (by omega) (by omega) ?_ | refine at_goN (by omega) (by omega) ?_ | refine atPr (by omega) (by omega) ?_ | refine atPrN (by omega) (by omega) ?_ | refine atRg (by omega) (by omega) ?_ | refine atRgN (by omega) (by omega) ?_ | fail))
local macro_rules | `(tactic| walk_at "call") => `(tactic| (first | refine intsF_go ?_ | fail))
local macro_rules | `(tactic| walk_at "call") => `(tactic| (first | refine atPc (by omega) (by omega) ?_ | refine atRs (by omega) (by omega) ?_ | fail))
local macro_rules | `(tactic| walk_at "call") => `(tactic| (first | refine atLv (by omega) (by omega) ?_ | refine atLvN (by omega) (by omega) ?_ | fail))
local macro_rules | `(tactic| walk_at "call") => `(tactic| (first | refine atE (by omega) (by omega) ?_ | refine atEN (by omega) (by omega) ?_ | fail))
local macro_rules | `(tactic| walk_at "call") => `(tactic| (first | refine atRo (by omega) (by omega) ?_ | fail))
/-! ### weights of levels: how often entries are moved -/
def pS : Nat → List Nat → Nat
  | _, [] => 0
  | i, w :: ws => w * (i + 1) + pS (i + 1) ws
theorem sum_zeros : ∀ n : Nat, (List.replicate n 0).sum = 0
  | 0 => rfl
  | n + 1 => by rw [List.replicate_succ, List.sum_cons, sum_zeros n]
theorem le_sum {x : Nat} : ∀ {ws : List Nat}, x ∈ ws → x ≤ ws.sum
  | [], h => by cases h
  | w :: ws, h => by
    rw [List.sum_cons]
    rcases List.mem_cons.mp h with rfl | h
    · omega
    · have := le_sum h
      omega
theorem pS_app (a b : List Nat) (i : Nat) : pS i (a ++ b) = pS i a + pS (i + a.length) b := by
  induction a generalizing i with
  | nil => show pS i b = 0 + pS (i + 0) b; rw [Nat.add_zero]; omega
  | cons w a ih =>
    show w * (i + 1) + pS (i + 1) (a ++ b) = w * (i + 1) + pS (i + 1) a + pS (i + (a.length + 1)) b
    rw [ih, show i + 1 + a.length = i + (a.length + 1) by omega]
    omega
theorem pS_zero (n i : Nat) : pS i (List.replicate n 0) = 0 := by
  induction n generalizing i with
  | zero => rfl
  | succ n ih =>
    rw [List.replicate_succ]
    show 0 * (i + 1) + pS (i + 1) (List.replicate n 0) = 0
    rw [ih]
    omega
theorem pS_room (ws : List Nat) : ∀ (i L : Nat), i + ws.length ≤ L → pS i ws + ws.sum ≤ ws.sum * (L + 1) := by
  induction ws with
  | nil => exact fun i L _ => Nat.zero_le _
  | cons w ws ih =>
    intro i L h
    rw [List.length_cons] at h
    have := ih (i + 1) L (by omega)
    rw [List.sum_cons]
    show w * (i + 1) + pS (i + 1) ws + (w + ws.sum) ≤ (w + ws.sum) * (L + 1)
    have e1 : w * (i + 2) ≤ w * (L + 1) := Nat.mul_le_mul_left _ (by omega)
    rw [Nat.add_mul]
    rw [show i + 2 = (i + 1) + 1 by omega, Nat.mul_add w (i + 1) 1] at e1
    omega
theorem pS_le (ws : List Nat) (D : Nat) : ∀ (i : Nat), (∀ j, j < ws.length → ws.getD j 0 ≠ 0 → i + j + 1 ≤ D) → pS i ws ≤ ws.sum * D := by
  induction ws with
  | nil => exact fun i _ => Nat.zero_le _
  | cons w ws ih =>
    intro i h
    have := ih (i + 1) fun j hj hz => by
      have := h (j + 1) (by rw [List.length_cons]; omega) (by rw [List.getD_cons_succ]; exact hz)
      omega
    rw [List.sum_cons, Nat.add_mul]
    show w * (i + 1) + pS (i + 1) ws ≤ _
    have e1 : w * (i + 1) ≤ w * D := by
      by_cases z : w = 0
      · subst z; omega
      · exact Nat.mul_le_mul_left _ (by have := h 0 (by rw [List.length_cons]; omega) (by rw [List.getD_cons_zero]; exact z); omega)
    omega
theorem getD_take_last {ws : List Nat} {i : Nat} (h : i < ws.length) : ws.take (i + 1) = ws.take i ++ [ws.getD i 0] := by
  rw [List.take_succ, List.getElem?_eq_getElem h, List.getD_eq_getElem?_getD, List.getElem?_eq_getElem h]; rfl
theorem pow_sum (ws : List Nat) : ∀ L, L ≤ ws.length → (∀ i, i < L → 2 ^ i ≤ ws.getD i 0) → 2 ^ L ≤ (ws.take L).sum + 1
  | 0, _, _ => by simp
  | L + 1, h, k => by
    have ih := pow_sum ws L (by omega) fun i hi => k i (by omega)
    have := k L (by omega)
    rw [getD_take_last (by omega), List.sum_append, Nat.pow_succ]
    simp only [List.sum_cons, List.sum_nil]
    omega
theorem tot_ws {rs : List (Option Rn)} {ws : List Nat} (hl : ws.length = rs.length) : ∀ L, L ≤ rs.length → (∀ i, i < L → szR (roA rs i) ≤ ws.getD i 0) → tot (rs.take L) ≤ (ws.take L).sum
  | 0, _, _ => by simp [tot]
  | L + 1, h, k => by
    have ih := tot_ws hl L (by omega) fun i hi => k i (by omega)
    have := k L (by omega)
    rw [getD_take_last (by omega), takeRo (by omega), List.sum_append]
    unfold tot at ih ⊢
    rw [List.map_append, List.sum_append]
    simp only [List.sum_cons, List.sum_nil, List.map_cons, List.map_nil]
    omega
theorem tot_cap {rs : List (Option Rn)} (cap : Nat) : ∀ L, L ≤ rs.length → (∀ i, i < L → szR (roA rs i) ≤ cap * 2 ^ i) → tot (rs.take L) + cap ≤ cap * 2 ^ L
  | 0, _, _ => by simp [tot]
  | L + 1, h, k => by
    have ih := tot_cap cap L (by omega) fun i hi => k i (by omega)
    have := k L (by omega)
    have e : cap * 2 ^ (L + 1) = cap * 2 ^ L + cap * 2 ^ L := by rw [Nat.pow_succ, ← Nat.mul_assoc]; omega
    rw [takeRo (by omega)]
    unfold tot at ih ⊢
    rw [List.map_append, List.sum_append]
    simp only [List.sum_cons, List.sum_nil, List.map_cons, List.map_nil]
    omega
structure Wt (m cap : Nat) (mv : Int) (buf : List En) (rs : List (Option Rn)) (ws : List Nat) (b g : Nat) : Prop where
  len : ws.length = rs.length
  yes : ∀ i r, i < rs.length → roA rs i = some r → 2 ^ i ≤ ws.getD i 0 ∧ r.1.length ≤ ws.getD i 0 ∧ r.1.length ≤ cap * 2 ^ i
  no : ∀ i, i < rs.length → roA rs i = none → ws.getD i 0 = 0
  buf : buf.length ≤ b ∧ buf.length < cap
  sum : ws.sum + b + g = m
  mv : ∀ D : Nat, (∀ i, 2 ^ i ≤ m → i + 1 ≤ D) → mv ≤ ((pS 0 ws + g * D : Nat) : Int)
theorem Wt.new {cap : Nat} (h : 0 < cap) : Wt 0 cap 0 [] [] [] 0 0 := ⟨rfl, fun i r hi => absurd hi (Nat.not_lt_zero _), fun i hi => absurd hi (Nat.not_lt_zero _), ⟨Nat.le_refl 0, h⟩, rfl, fun D _ => by show (0 : Int) ≤ ((0 + 0 * D : Nat) : Int); omega⟩
def wsF (ws : List Nat) (L w : Nat) : List Nat := List.replicate L 0 ++ w :: ws.drop (L + 1)
theorem wsF_len (ws : List Nat) (L w : Nat) : (wsF ws L w).length = L + 1 + (ws.length - (L + 1)) := by unfold wsF; simp; omega
theorem wsF_at {ws : List Nat} {L w i : Nat} : (wsF ws L w).getD i 0 = if i < L then 0 else if i = L then w else ws.getD i 0 := by
  unfold wsF
  rw [List.getD_eq_getElem?_getD, List.getElem?_append]
  rw [List.length_replicate]
  by_cases c : i < L
  · rw [if_pos c, if_pos c, List.getElem?_replicate, if_pos c]; rfl
  · rw [if_neg c, if_neg c]
    by_cases d : i = L
    · subst d
      rw [if_pos rfl, Nat.sub_self]; rfl
    · rw [if_neg d, show i - L = (i - L - 1) + 1 by omega, List.getElem?_cons_succ, List.getElem?_drop, show L + 1 + (i - L - 1) = i by omega, List.getD_eq_getElem?_getD]
theorem flR_roA {rs : List (Option Rn)} {L i : Nat} {x : Option Rn} : roA (flR rs L x) i = if i < L then none else if i = L then x else roA rs i := by
  unfold flR roA
  rw [List.getD_eq_getElem?_getD, List.getElem?_append]
  rw [List.length_replicate]
  by_cases c : i < L
  · rw [if_pos c, if_pos c, List.getElem?_replicate, if_pos c]; rfl
  · rw [if_neg c, if_neg c]
    by_cases d : i = L
    · subst d
      rw [if_pos rfl, Nat.sub_self]; rfl
    · rw [if_neg d, show i - L = (i - L - 1) + 1 by omega, List.getElem?_cons_succ, List.getElem?_drop, show L + 1 + (i - L - 1) = i by omega, List.getD_eq_getElem?_getD]
theorem Wt.more {n m cap : Nat} {mv mv' : Int} {x : En} {buf buf' : List En} {rs rs' : List (Option Rn)} {ws : List Nat} {b g : Nat} (hg : StG n mv buf rs) (h : Wt m cap mv buf rs ws b g) (w : Wr cap x mv buf rs mv' buf' rs') (hc : 0 < cap) :
    ∃ ws' b' g', Wt (m + 1) cap mv' buf' rs' ws' b' g' := by
  have hm := h.sum
  have hb := h.buf
  cases w with
  | keep B gg c e1 e2 e3 =>
    subst e1 e2 e3
    have lB := gg.len
    rw [List.length_singleton] at lB
    exact ⟨ws, b + 1, g, h.len, h.yes, h.no, ⟨by omega, by omega⟩, by omega, fun D hD => h.mv D fun i hi => hD i (by omega)⟩
  | flush B gg c f e1 =>
    subst e1
    have lB := gg.len
    rw [List.length_singleton] at lB
    obtain ⟨L, F, m2, y, f, hl, hno, hf, rfl, rfl⟩ := f
    have fm := f.mv
    have fl := f.len
    have fs := f.some
    have hlen := h.len
    have y1 : ∀ i, i < L → 2 ^ i ≤ ws.getD i 0 ∧ szR (roA rs i) ≤ ws.getD i 0 ∧ szR (roA rs i) ≤ cap * 2 ^ i := fun i hi => by
      obtain ⟨q, r, e⟩ := fs i hi
      have := h.yes i r q e
      rw [e]
      exact this
    have p1 := pow_sum ws L (by omega) fun i hi => (y1 i hi).1
    have t1 := tot_ws hlen L hl fun i hi => (y1 i hi).2.1
    have t2 := tot_cap cap L hl fun i hi => (y1 i hi).2.2
    have r1 := pS_room (ws.take L) 0 L (by rw [List.length_take]; omega)
    obtain ⟨e, he⟩ : ∃ e, e = b + 1 + (ws.take L).sum := ⟨_, rfl⟩
    have d0 : (ws.drop L).sum = (ws.drop (L + 1)).sum ∧ pS L (ws.drop L) = pS (L + 1) (ws.drop (L + 1)) := by
      by_cases q : L < ws.length
      · have z := h.no L (by omega) (hno (by omega))
        rw [List.getD_eq_getElem?_getD, List.getElem?_eq_getElem q] at z
        have z : ws[L] = 0 := z
        rw [List.drop_eq_getElem_cons q, z]
        exact ⟨by rw [List.sum_cons]; omega, by show 0 * (L + 1) + _ = _; omega⟩
      · rw [List.drop_eq_nil_of_le (by omega), List.drop_eq_nil_of_le (by omega)]
        exact ⟨rfl, rfl⟩
    have s1 : ws.sum = (ws.take L).sum + (ws.drop (L + 1)).sum := by
      rw [← d0.1, ← List.sum_append, List.take_append_drop]
    have s2 : pS 0 ws = pS 0 (ws.take L) + pS (L + 1) (ws.drop (L + 1)) := by
      have := pS_app (ws.take L) (ws.drop L) 0
      rw [List.take_append_drop, List.length_take, Nat.min_eq_left (by omega), Nat.zero_add, d0.2] at this
      exact this
    have sw : ∀ w, (wsF ws L w).sum = w + (ws.drop (L + 1)).sum := fun w => by
      unfold wsF
      rw [List.sum_append, List.sum_cons, sum_zeros, Nat.zero_add]
    have sp : ∀ w, pS 0 (wsF ws L w) = w * (L + 1) + pS (L + 1) (ws.drop (L + 1)) := fun w => by
      unfold wsF
      rw [pS_app, pS_zero, List.length_replicate, Nat.zero_add, Nat.zero_add]
      rfl
    have kl := kept_le rs L F
    have hsz := hf.sz
    have eL : e * (L + 1) = (b + 1) * (L + 1) + (ws.take L).sum * (L + 1) := by rw [he, Nat.add_mul]
    have bL : b + 1 ≤ (b + 1) * (L + 1) := Nat.le_mul_of_pos_right _ (by omega)
    have mvB : ∀ D : Nat, (∀ i, 2 ^ i ≤ m + 1 → i + 1 ≤ D) → mv + m2 ≤ ((e * (L + 1) + pS (L + 1) (ws.drop (L + 1)) + g * D : Nat) : Int) := fun D hD => by
      have := h.mv D fun i hi => hD i (by omega)
      omega
    have part : ∀ w, (∀ r, y = some r → w = e) → (y = none → w = 0) → (wsF ws L w).length = (flR rs L y).length ∧ (∀ i r, i < (flR rs L y).length → roA (flR rs L y) i = some r → 2 ^ i ≤ (wsF ws L w).getD i 0 ∧ r.1.length ≤ (wsF ws L w).getD i 0 ∧ r.1.length ≤ cap * 2 ^ i) ∧
        ∀ i, i < (flR rs L y).length → roA (flR rs L y) i = none → (wsF ws L w).getD i 0 = 0 := fun w w1 w2 => by
      refine ⟨by rw [wsF_len, flR_len, hlen], fun i r hi hr => ?_, fun i hi hr => ?_⟩
      · rw [flR_len] at hi
        rw [wsF_at]
        rw [flR_roA] at hr
        by_cases c1 : i < L
        · rw [if_pos c1] at hr; cases hr
        · rw [if_neg c1] at hr ⊢
          by_cases c2 : i = L
          · subst c2
            rw [if_pos rfl] at hr ⊢
            have q : r.1.length = (kept rs i F).length := by rw [← hsz, hr]; rfl
            rw [w1 r hr]
            refine ⟨by omega, by omega, by omega⟩
          · rw [if_neg c2] at hr ⊢
            exact h.yes i r (by omega) hr
      · rw [flR_len] at hi
        rw [wsF_at]
        rw [flR_roA] at hr
        by_cases c1 : i < L
        · rw [if_pos c1]
        · rw [if_neg c1] at hr ⊢
          by_cases c2 : i = L
          · subst c2
            rw [if_pos rfl] at hr ⊢
            exact w2 hr
          · rw [if_neg c2] at hr ⊢
            exact h.no i (by omega) hr
    cases hy : y with
    | some r =>
      obtain ⟨a1, a2, a3⟩ := part e (fun _ _ => rfl) (fun z => by rw [hy] at z; cases z)
      rw [hy] at a1 a2 a3
      refine ⟨wsF ws L e, 0, g, a1, a2, a3, ⟨Nat.le_refl 0, hc⟩, by rw [sw]; omega, fun D hD => ?_⟩
      rw [sp]
      exact mvB D hD
    | none =>
      obtain ⟨a1, a2, a3⟩ := part 0 (fun r z => by rw [hy] at z; cases z) (fun _ => rfl)
      rw [hy] at a1 a2 a3
      refine ⟨wsF ws L 0, 0, g + e, a1, a2, a3, ⟨Nat.le_refl 0, hc⟩, by rw [sw]; omega, fun D hD => ?_⟩
      rw [sp]
      have := mvB D hD
      have q : L + 1 ≤ D := hD L (by omega)
      have : e * (L + 1) ≤ e * D := Nat.mul_le_mul_left _ q
      rw [Nat.add_mul]
      omega
theorem Wt.last {m cap : Nat} {mv : Int} {buf : List En} {rs : List (Option Rn)} {ws : List Nat} {b g D : Nat} (h : Wt m cap mv buf rs ws b g) (hD : ∀ i, 2 ^ i ≤ m → i + 1 ≤ D) :
    mv ≤ ((m * D : Nat) : Int) ∧ (∀ i, i < rs.length → roA rs i ≠ none → 2 ^ i ≤ m ∧ i + 1 ≤ D) ∧ ∀ i, i < rs.length → szR (roA rs i) ≤ cap * 2 ^ i := by
  have hs := h.sum
  have key : ∀ i, i < rs.length → roA rs i ≠ none → 2 ^ i ≤ m ∧ i + 1 ≤ D := fun i hi hn => by
    cases hx : roA rs i with
    | none => exact absurd hx hn
    | some r =>
      have q := (h.yes i r hi hx).1
      have : ws.getD i 0 ≤ ws.sum := by
        have hl := h.len
        rw [List.getD_eq_getElem?_getD, List.getElem?_eq_getElem (by omega)]
        exact le_sum (List.getElem_mem _)
      exact ⟨by omega, hD i (by omega)⟩
  refine ⟨?_, key, fun i hi => ?_⟩
  · have h1 := h.mv D hD
    have h2 := pS_le ws D 0 fun j hj hz => by
      rw [Nat.zero_add]
      refine (key j (by rw [← h.len]; exact hj) fun z => hz (h.no j (by rw [← h.len]; exact hj) z)).2
    have : m * D = ws.sum * D + b * D + g * D := by rw [← hs, Nat.add_mul, Nat.add_mul]
    omega
  · cases hx : roA rs i with
    | none => exact Nat.zero_le _
    | some r => exact (h.yes i r hi hx).2.2
theorem w_digits_of {m : Nat} (hm : m < 2 ^ 59) (Q : OV → Env → Prop) (E : Int → Prop)
    (k : ∀ D : Nat, D ≤ 60 → (∀ i, 2 ^ i ≤ m → i + 1 ≤ D) → ∀ en, Q (.fro (.int D)) en) : F_law_digits_of [.ow (.fro (.int m))] Q E := by
  refine F_law_digits_of.mk ?_
  walk_at "go"
  refine for_inv (fun i en => ∃ (c r : Nat) (s3 : Slot), en = [.ow (.fro (.int m)), .ow (.fro (.int c)), .ow (.fro (.int r)), s3] ∧ isRf s3 = false ∧ c ≤ i ∧ r ≤ m ∧ (0 < r → c = i ∧ r = m / 2 ^ i) ∧ (r = 0 → ∀ j, 2 ^ j ≤ m → j + 1 ≤ c)) ⟨0, m, .un, rfl, rfl, by omega, by omega, fun _ => ⟨rfl, by simp⟩, fun z j hj => by have := Nat.one_le_two_pow (n := j); omega⟩ ?_ ?_
  · rintro en ⟨c, r, s3, rfl, q3, h1, hr, h2, h3⟩
    rw [rgM_len] at *
    have r0 : r = 0 := Classical.not_not.mp fun z => by
      obtain ⟨_, e⟩ := h2 (by omega)
      have : m / 2 ^ (60 : Nat) = 0 := Nat.div_eq_of_lt (by omega)
      rw [show Int.toNat 60 = 60 from rfl] at e
      omega
    have h1 : c ≤ 60 := h1
    walk_at "go"
    exact k c h1 (h3 r0) _
  · rintro i m' en hi ⟨c, r, s3, rfl, q3, h1, hr, h2, h3⟩ N hN
    obtain ⟨hi1, rfl⟩ := rgM_at0 hi
    clear hi
    walk_at "go"
    refine if_go ?_
    walk_at "go"
    refine mdec (fun d => ?_) fun d => ?_
    · obtain ⟨e1, e2⟩ := h2 (by omega)
      have e3 : r / 2 = m / 2 ^ (i + 1) := by rw [e2, Nat.div_div_eq_div_mul, Nat.pow_succ]
      walk_at "go"
      refine hN _ ⟨c + 1, r / 2, _, rfl, rfl, by omega, by omega, fun _ => ⟨by omega, e3⟩, fun z j hj => ?_⟩
      rw [e3] at z
      have : m < 2 ^ (i + 1) := by
        have := Nat.div_eq_zero_iff.mp z
        rcases this with a | a
        · have := Nat.one_le_two_pow (n := i + 1); omega
        · exact a
      have : j < i + 1 := Classical.not_not.mp fun q => by
        have := Nat.pow_le_pow_right (show 0 < 2 by decide) (show i + 1 ≤ j by omega)
        omega
      omega
    · walk_at "go"
      exact hN _ ⟨c, r, _, rfl, rfl, by omega, hr, fun z => by omega, h3⟩

end C
namespace C
open PySem PySem.Spec PyProof.Rows L2
local macro_rules | `(tactic| walk_at "ev") => `(tactic| (conv => whnf))
local macro_rules | `(tactic| walk_at "side") => `(tactic| (first | assumption | exact trivial | exact line1000 rfl | (show (0 : Int) < _; first | omega | decide) | exact rfl | exact smallof (by omega) (by omega) | exact ⟨smallof (by omega) (by omega), smallof (by omega) (by omega)⟩ | exact Or.inl (by omega) | exact Or.inr (Or.inl (by omega)) | exact cdiv_of (by omega) (by omega) | omega | exact lt_line (by omega) | exact le_line (by omega) | exact ⟨by decide, by decide, by decide⟩ | decide | fail))
local macro_rules | `(tactic| walk_at "go") => `(tactic| ((repeat' ((conv => whnf); first | refine And.intro (by walk_at "side") ?_ | walk_at "call" | walk_at "test" | fail)); try (conv => whnf)))
local macro_rules | `(tactic| walk_at "call") => `(tactic| (first | refine setE_go (by assumption) ?_ | fail))
local macro_rules | `(tactic| walk_at "test") => `(tactic| (first | refine mdec_yes (by omega) ?_ | refine mdec_no (by omega) ?_ | refine mdec_no (fun h => h rfl) ?_ | refine mndec_yes (by omega) ?_ | refine mndec_no (by omega) ?_ | fail))
local macro_rules | `(tactic| walk_at "call") => `(tactic| (first | refine gl0 ?_ | refine gl1 ?_ | refine gl2 ?_ | refine gl3 ?_ | refine at_go (by omega) (by omega) ?_ | refine at_goN (by omega) (by omega) ?_ | fail))
local macro_rules | `(tactic| walk_at "call") => `(tactic| (first | refine ints_go ?_ | refine bools_go ?_ | fail))
local macro_rules | `(tactic| walk_at "call") => `(tactic| (first | refine eqD_go (pl_ints _) (pl_ints _) ?_ | fail))
local macro_rules | `(tactic| walk_at "call") => `(tactic| (first | refine w_cell _ _ (by omega) _ _ (fun _ => ?_) | fail))
local macro_rules | `(tactic| walk_at "call") => `(tactic| (first | refine w_cell _ _ (by omega) _ _ (fun _ => ?_) | fail))
local macro_rules | `(tactic| walk_at "call") => `(tactic| (first | refine at_go (by omega) (by omega) ?_ | refine at_goN (by omega) (by omega) ?_ | refine atPr (by omega) (by omega) ?_ | refine atPrN (by omega) (by omega) ?_ | fail))
local macro_rules | `(tactic| walk_at "call") => `(tactic| (first | refine alls_go ?_ | fail))
local macro_rules | `(tactic| walk_at "call") => `(tactic| (first | refine eqD_go (pl_prs _) (pl_prs _) ?_ | fail))
local macro_rules | `(tactic| walk_at "call") => `(tactic| (first | refine at_go (by omega) (by omega) ?_ | refine at_goN (by omega) (by omega) ?_ | refine atPr (by omega) (by omega) ?_ | refine atPrN (by omega) (by omega) ?_ | refine atRg (by omega) (by omega) ?_ | refine atRgN (by omega) (by omega) ?_ | fail))
local macro_rules | `(tactic| walk_at "call") => `(tactic| (first | refine intsF_go ?_ | fail))
local macro_rules | `(tactic| walk_at "call") => `(tactic| (first | refine atPc (by omega) (by omega) ?_ | refine atRs (by omega) (by omega) ?_ | fail))
local macro_rules | `(tactic| walk_at "call") => `(tactic| (first | refine atLv (by omega) (by omega) ?_ | refine atLvN (by omega) (by omega) ?_ | fail))
local macro_rules | `(tactic| walk_at "call") => `(tactic| (first | refine atE (by omega) (by omega) ?_ | refine atEN (by omega) (by omega) ?_ | fail))
local macro_rules | `(tactic| walk_at "call") => `(tactic| (first | refine atRo (by omega) (by omega) ?_ | fail))
theorem filter_few (p : Int → Bool) (l : List Int) (D : Nat) (h : ∀ i : Nat, D ≤ i → i < l.length → p (cell l (i : Int)) = false) : (l.filter p).length ≤ D := by
  rw [← List.take_append_drop D l, List.filter_append, List.length_append]
  have e1 : ((l.drop D).filter p) = [] := by
    refine List.filter_eq_nil_iff.mpr fun x hx => ?_
    obtain ⟨i, hi, rfl⟩ := List.getElem_of_mem hx
    rw [List.length_drop] at hi
    have := h (D + i) (by omega) (by omega)
    unfold cell at this
    rw [Int.toNat_natCast, List.getD_eq_getElem?_getD, List.getElem?_eq_getElem (by omega)] at this
    rw [List.getElem_drop]
    have this : p l[D + i] = false := this
    rw [this]
    exact Bool.false_ne_true
  have := List.length_filter_le p (l.take D)
  rw [e1, List.length_take] at *
  simp
  omega
theorem sz_cell {rs : List (Option Rn)} {i : Nat} (h : i < rs.length) : cell (rs.map szI) (i : Int) = szR (roA rs i) := by
  unfold cell roA
  rw [Int.toNat_natCast, List.getD_eq_getElem?_getD, List.getD_eq_getElem?_getD, List.getElem?_map, List.getElem?_eq_getElem h]; rfl
theorem take_cell {ss : List Int} {n i : Nat} (h : i < n) : cell (ss.take n) (i : Int) = cell ss (i : Int) := by
  unfold cell
  rw [Int.toNat_natCast, List.getD_eq_getElem?_getD, List.getD_eq_getElem?_getD, List.getElem?_take, if_pos h]
theorem plain_law (ns : List Int) (hn : ns.length ≤ 63) : F_law [.bo (.scr (scrOf ns))] (fun o _ => o = .fro (.bl true)) (fun _ => False) := by
  refine F_law.mk ?_
  walk_at "go"
  have a0 := Int.emod_nonneg (cell ns 0) (show (5 : Int) ≠ 0 by decide)
  have a1 := Int.emod_lt_of_pos (cell ns 0) (show (0 : Int) < 5 by decide)
  have b0 := Int.emod_nonneg (cell ns 0 / 5) (show (4 : Int) ≠ 0 by decide)
  have b1 := Int.emod_lt_of_pos (cell ns 0 / 5) (show (0 : Int) < 4 by decide)
  obtain ⟨cap, hcap⟩ : ∃ cap : Nat, (cap : Int) = 1 + cell ns 0 % 5 := ⟨(1 + cell ns 0 % 5).toNat, by omega⟩
  rw [← hcap]
  refine w_store_init cap (cell ns 0 / 5 % 4) _ _ fun s1 s2 => ?_
  obtain ⟨er, her⟩ : ∃ er, er = cell ns 0 / 5 % 4 := ⟨_, rfl⟩
  rw [← her] at b0 b1 ⊢
  walk_at "go"
  refine w_edits ns 1 63 (by omega) (by omega) (by omega) _ _ fun _ es0 hl0 he0 => ?_
  have hl0 : es0.length ≤ 63 := by simpa using hl0
  walk_at "go"
  refine if_join (fun en => ∃ (es : List En) (s4 : Slot), en = [.bo (.scr (scrOf ns)), .ow (.fro (.int cap)), .ow (StO 0 0 cap er [] []), .ow (.fro (.lst (es.map eM))), s4, .un, .un, .un, .un, .un, .un] ∧ isRf s4 = false ∧ es.length ≤ 400 ∧ ∀ x ∈ es, -(2 ^ 59) < x.1 ∧ x.1 < 2 ^ 59) (fun N2 hN2 => ?_) ?_
  · have he1 : ∀ x ∈ es0, -(2 ^ 59) < x.1 ∧ x.1 < 2 ^ 59 := fun x hx => by
      have := (he0 x hx).1
      have := (he0 x hx).2
      omega
    walk_at "go"
    refine mdec (fun c => ?_) fun c => ?_
    · have c0 := Int.emod_nonneg (cell ns 3 / 2) (show (237 : Int) ≠ 0 by decide)
      have c1 := Int.emod_lt_of_pos (cell ns 3 / 2) (show (0 : Int) < 237 by decide)
      obtain ⟨mr, hmr⟩ : ∃ mr : Nat, (mr : Int) = 64 + cell ns 3 / 2 % 237 := ⟨(64 + cell ns 3 / 2 % 237).toNat, by omega⟩
      have lem : (es0.map eM).length = es0.length := by simp
      walk_at "go"
      rw [← hmr, Int.toNat_natCast, show rgM 0 mr = (List.range mr).map fun (k : Nat) => MV.int (k : Int) by unfold rgM; simp]
      refine lc_ty (fun i : Nat => MV.int i) (fun i : Nat => eM (10000000 + i, some ((i : Int) % 3))) (List.range mr) (le_line (by rw [List.length_range]; omega)) (fun i hi Y y => ?_) ?_
      · have := List.mem_range.mp hi
        walk_at "go"
        exact y
      · walk_at "go"
        refine ⟨le_line (by rw [List.length_map, List.length_map, List.length_range]; omega), ?_⟩
        refine hN2 _ ⟨es0 ++ (List.range mr).map fun i : Nat => ((10000000 + (i : Int), some ((i : Int) % 3)) : En), _, by rw [List.map_append, List.map_map]; rfl, rfl, by simp; omega, fun x hx => ?_⟩
        rcases List.mem_append.mp hx with z | z
        · exact he1 x z
        · obtain ⟨i, hi, rfl⟩ := List.mem_map.mp z
          have := List.mem_range.mp hi
          exact ⟨by show -(2 ^ 59) < 10000000 + (i : Int); omega, by show 10000000 + (i : Int) < 2 ^ 59; omega⟩
    · walk_at "go"
      exact hN2 _ ⟨es0, _, rfl, rfl, by omega, he1⟩
  rintro en ⟨es, s4, rfl, q4, le, he⟩
  clear he0 hl0
  have lem : (es.map eM).length = es.length := by simp
  walk_at "go"
  rw [lem]
  refine for_inv (fun i en => ∃ (mv : Int) (buf : List En) (rs : List (Option Rn)) (ws : List Nat) (b g : Nat) (s4 s5 s6 s7 s8 s9 : Slot), en = [.bo (.scr (scrOf ns)), .ow (.fro (.int cap)), .ow (StO mv i cap er buf rs), .ow (.fro (.lst (es.map eM))), s4, s5, s6, s7, s8, s9, .un] ∧ (isRf s4 = false ∧ isRf s5 = false ∧ isRf s6 = false ∧ isRf s7 = false ∧ isRf s8 = false ∧ isRf s9 = false) ∧ StE (es.take i) mv buf rs ∧ Wt i cap mv buf rs ws b g) ⟨0, [], [], [], 0, 0, s4, .un, .un, .un, .un, .un, rfl, ⟨q4, rfl, rfl, rfl, rfl, rfl⟩, StE.new, Wt.new (by omega)⟩ ?_ ?_
  · rintro en ⟨mv, buf, rs, ws, b, g, s4, s5, s6, s7, s8, s9, rfl, ⟨q4, q5, q6, q7, q8, q9⟩, hE, hW⟩
    rw [rgM_len] at hE
    have ec : (1 + (es.length : Int) - 1).toNat = es.length := by omega
    clear hW
    have lE : (es.take (1 + (es.length : Int) + 1 - 1 - 1).toNat).length ≤ es.length := by rw [List.length_take]; omega
    walk_at "go"
    refine w_contents hE.g (by rw [List.length_take]; omega) _ _ fun f hf lf en => ?_
    walk_at "go"
    refine w_done (by omega) he _ _ fun f2 hf2 en => ?_
    have ef : f = f2 := by
      refine hf.uniq ⟨hf2.srt, fun k => ?_⟩
      have e1 := hE.lk k
      rw [show (es.take ((es.length : Int) + 1 - 1).toNat) = es by rw [List.take_of_length_le (by omega)]] at e1
      rw [hf2.get, ← e1]
    subst ef
    walk_at "go"
    refine eqD_go (pl_es _) (pl_es _) ?_
    walk_at "go"
    rw [dB_yes rfl]
  · rintro i m en hi ⟨mv, buf, rs, ws, b, g, s4, s5, s6, s7, s8, s9, rfl, ⟨q4, q5, q6, q7, q8, q9⟩, hE, hW⟩ N hN
    obtain ⟨hi1, rfl⟩ := rgM_at hi
    clear hi
    have hi : i < es.length := by omega
    have hx := he _ (eA_mem hi)
    have ei : (1 + (i : Int) - 1).toNat = i := by omega
    have lt : (es.take i).length = i := by rw [List.length_take]; omega
    walk_at "go"
    rw [ei]
    refine w_edit hE.g (by omega) (eA es i) hx b0 (by omega) _ _ fun mv' buf' rs' w s1 => ?_
    have hE' := hE.more (by omega) hx w
    rw [← takeE hi] at hE'
    obtain ⟨ws', b', g', hW'⟩ := hW.more hE.g w (by omega)
    have lr := hE'.g.lr
    have lt' : (es.take (i + 1)).length = i + 1 := by rw [List.length_take]; omega
    rw [lt'] at lr
    walk_at "go"
    refine w_run_sizes (rs := rs') (by omega) _ _ fun n hs en => ?_
    walk_at "go"
    have em : (1 + (i : Int)) = ((i + 1 : Nat) : Int) := by omega
    rw [em]
    refine w_digits_of (m := i + 1) (by omega) _ _ fun D hD6 hD en => ?_
    obtain ⟨l1, l2, l3⟩ := hW'.last hD
    have mo : MulOk ((i + 1 : Nat) : Int) (D : Int) := mulok (by omega) (by omega)
    walk_at "go"
    obtain ⟨ss, hss⟩ : ∃ ss, ss = rs'.map szI := ⟨_, rfl⟩
    have lss : ss.length = rs'.length := by rw [hss, List.length_map]
    have cs : ∀ j : Nat, j < rs'.length → cell ss (j : Int) = szR (roA rs' j) := fun j hj => by rw [hss]; exact sz_cell hj
    rw [← hss] at hs ⊢
    have hn' := hs.le
    have lf := filter_few (fun x => decide (0 < x)) (ss.take n) D fun j h1 h2 => by
      rw [List.length_take] at h2
      rw [take_cell (by omega), cs j (by omega)]
      cases hx : roA rs' j with
      | none => exact decide_eq_false (by show ¬ (0 : Int) < ((0 : Nat) : Int); omega)
      | some r => have := (l2 j (by omega) (by rw [hx]; exact fun z => by cases z)).2; omega
    refine lc_tyF MV.int MV.int (fun x => decide (0 < x)) _ [] (le_line (by rw [List.length_take]; simp; omega)) (fun x hx Y N y1 n1 => ?_) ?_
    · walk_at "go"
      exact mdec (fun c => y1 (decide_eq_true c)) fun c => n1 (decide_eq_false c)
    rw [List.nil_append]
    have lf2 : (((ss.take n).filter fun x => decide (0 < x)).map MV.int).length ≤ D := by rw [List.length_map]; exact lf
    walk_at "go"
    refine for_inv (fun j en => ∃ (s9 : Slot), en = [.bo (.scr (scrOf ns)), .ow (.fro (.int cap)), .ow (StO mv' (i + 1) cap er buf' rs'), .ow (.fro (.lst (es.map eM))), s4, .ow (.fro (.int (i + 1 : Nat))), .ow (.fro (.lst ((ss.take n).map .int))), .ow (.fro (.int D)), .ow (.fro (.int (cap * 2 ^ j : Nat))), s9, .un] ∧ isRf s9 = false) ⟨s9, by rw [Nat.pow_zero, Nat.mul_one]; rfl, q9⟩ ?_ ?_
    · rintro en ⟨s9, rfl, q9⟩
      walk_at "go"
      exact hN _ ⟨mv', buf', rs', ws', b', g', s4, _, _, _, _, s9, rfl, ⟨q4, rfl, rfl, rfl, rfl, q9⟩, hE', hW'⟩
    · rintro j m en hj ⟨s9, rfl, q9⟩ N2 hN2
      obtain ⟨hj1, rfl⟩ := getT 0 hj
      clear hj
      have hj2 : j < n := by rw [List.length_take] at hj1; omega
      have e1 : (ss.take n).getD j 0 = (szR (roA rs' j) : Int) := by
        have := take_cell (ss := ss) hj2
        rw [cs j (by omega)] at this
        rw [← this]
        unfold cell
        rw [Int.toNat_natCast]
      have l4 := l3 j (by omega)
      rw [e1]
      walk_at "go"
      refine hN2 _ ⟨.ow (.fro (.int (szR (roA rs' j) : Nat))), ?_, rfl⟩
      rw [Nat.pow_succ, ← Nat.mul_assoc]
      rfl
end C
namespace C
open PySem PySem.Spec PyProof.Rows L2
def top (i : Nat) : Stmt := PySem.Challenge.pw_fewestlines_k42_whole_moves_stay_few.main.body.getD i (.Pass ⟨0, 0, 0, 0⟩)
abbrev s_wall : Stmt := (top 0)
abbrev s_common_divisor : Stmt := (top 2)
abbrev s_floor_at : Stmt := (top 3)
abbrev s_ceiling_at : Stmt := (top 4)
abbrev s_fraction : Stmt := (top 6)
abbrev s_slope_between : Stmt := (top 7)
abbrev s_line_with_slope : Stmt := (top 8)
abbrev s_turn : Stmt := (top 10)
abbrev s_rise_over : Stmt := (top 11)
abbrev s_is_below : Stmt := (top 12)
abbrev s_Fitter_init__ : Stmt := (inClass (top 13) 0)
abbrev s_Fitter_conflict : Stmt := (inClass (top 13) 1)
abbrev s_Fitter_add_corners : Stmt := (inClass (top 13) 3)
abbrev s_Fitter_lower_steep : Stmt := (inClass (top 13) 4)
abbrev s_Fitter_raise_flat : Stmt := (inClass (top 13) 5)
abbrev s_Fitter_add : Stmt := (inClass (top 13) 2)
abbrev s_Fitter_span_at : Stmt := (inClass (top 13) 6)
abbrev s_Fitter_line : Stmt := (inClass (top 13) 7)
abbrev s_Cutting_init__ : Stmt := (inClass (top 15) 0)
abbrev s_cut : Stmt := (top 16)
abbrev s_Level_init__ : Stmt := (inClass (top 18) 0)
abbrev s_Level_end_of : Stmt := (inClass (top 18) 1)
abbrev s_Level_find : Stmt := (inClass (top 18) 2)
abbrev s_Index_init__ : Stmt := (inClass (top 19) 0)
abbrev s_Index_level_keys : Stmt := (inClass (top 19) 1)
abbrev s_Index_pieces : Stmt := (inClass (top 19) 2)
abbrev s_Index_look_up : Stmt := (inClass (top 19) 3)
abbrev s_Index_rank : Stmt := (inClass (top 19) 4)
abbrev s_Index_has : Stmt := (inClass (top 19) 5)
abbrev s_Index_count : Stmt := (inClass (top 19) 6)
abbrev s_Index_at_most : Stmt := (inClass (top 19) 7)
abbrev s_Index_at_least : Stmt := (inClass (top 19) 8)
abbrev s_Index_key_at : Stmt := (inClass (top 19) 9)
abbrev s_Run_init__ : Stmt := (inClass (top 22) 0)
abbrev s_Run_entry : Stmt := (inClass (top 22) 1)
abbrev s_merged : Stmt := (top 23)
abbrev s_Store_init__ : Stmt := (inClass (top 24) 0)
abbrev s_Store_flush : Stmt := (inClass (top 24) 4)
abbrev s_Store_write : Stmt := (inClass (top 24) 3)
abbrev s_Store_put : Stmt := (inClass (top 24) 1)
abbrev s_Store_remove : Stmt := (inClass (top 24) 2)
abbrev s_Store_get : Stmt := (inClass (top 24) 5)
abbrev s_Store_contents : Stmt := (inClass (top 24) 6)
abbrev s_Store_between : Stmt := (inClass (top 24) 7)
abbrev s_Store_run_sizes : Stmt := (inClass (top 24) 8)
abbrev s_Store_buffered : Stmt := (inClass (top 24) 9)
abbrev s_Store_buffer_entries : Stmt := (inClass (top 24) 10)
abbrev s_Store_run_entries : Stmt := (inClass (top 24) 11)
abbrev s_Store_runs : Stmt := (inClass (top 24) 12)
abbrev s_Store_levels : Stmt := (inClass (top 24) 13)
abbrev s_Store_take_buffer : Stmt := (inClass (top 24) 14)
abbrev s_Store_take_run : Stmt := (inClass (top 24) 15)
abbrev s_law_cell : Stmt := (top 26)
abbrev s_law_digits : Stmt := (top 27)
abbrev s_law_edits : Stmt := (top 28)
abbrev s_law_done : Stmt := (top 29)
abbrev s_law_edit : Stmt := (top 30)
abbrev s_law_digits_of : Stmt := (top 31)
abbrev s_law : Stmt := (top 32)
structure Txt (K : PySem.W.Frag) (mg : Str → Option Value) (cl : Nat → Addr) (fa : Nat → Addr) (fd : Nat → FuncData) : Prop where
  g_wall : mg "_wall" = some (.ref (fa 0))
  k_wall : PySem.W.keepIn K (.ref (fa 0)) = true
  F_wall : Fun K "_wall" "_wall" s_wall (fa 0) (fd 0)
  g_common_divisor : mg "common_divisor" = some (.ref (fa 1))
  k_common_divisor : PySem.W.keepIn K (.ref (fa 1)) = true
  F_common_divisor : Fun K "common_divisor" "common_divisor" s_common_divisor (fa 1) (fd 1)
  g_floor_at : mg "floor_at" = some (.ref (fa 2))
  k_floor_at : PySem.W.keepIn K (.ref (fa 2)) = true
  F_floor_at : Fun K "floor_at" "floor_at" s_floor_at (fa 2) (fd 2)
  g_ceiling_at : mg "ceiling_at" = some (.ref (fa 3))
  k_ceiling_at : PySem.W.keepIn K (.ref (fa 3)) = true
  F_ceiling_at : Fun K "ceiling_at" "ceiling_at" s_ceiling_at (fa 3) (fd 3)
  g_fraction : mg "fraction" = some (.ref (fa 4))
  k_fraction : PySem.W.keepIn K (.ref (fa 4)) = true
  F_fraction : Fun K "fraction" "fraction" s_fraction (fa 4) (fd 4)
  g_slope_between : mg "slope_between" = some (.ref (fa 5))
  k_slope_between : PySem.W.keepIn K (.ref (fa 5)) = true
  F_slope_between : Fun K "slope_between" "slope_between" s_slope_between (fa 5) (fd 5)
  g_line_with_slope : mg "line_with_slope" = some (.ref (fa 6))
  k_line_with_slope : PySem.W.keepIn K (.ref (fa 6)) = true
  F_line_with_slope : Fun K "line_with_slope" "line_with_slope" s_line_with_slope (fa 6) (fd 6)
  g_turn : mg "turn" = some (.ref (fa 7))
  k_turn : PySem.W.keepIn K (.ref (fa 7)) = true
  F_turn : Fun K "turn" "turn" s_turn (fa 7) (fd 7)
  g_rise_over : mg "rise_over" = some (.ref (fa 8))
  k_rise_over : PySem.W.keepIn K (.ref (fa 8)) = true
  F_rise_over : Fun K "rise_over" "rise_over" s_rise_over (fa 8) (fd 8)
  g_is_below : mg "is_below" = some (.ref (fa 9))
  k_is_below : PySem.W.keepIn K (.ref (fa 9)) = true
  F_is_below : Fun K "is_below" "is_below" s_is_below (fa 9) (fd 9)
  k_Fitter_init__ : PySem.W.keepIn K (.ref (fa 10)) = true
  F_Fitter_init__ : Fun K "__init__" "Fitter.__init__" s_Fitter_init__ (fa 10) (fd 10)
  k_Fitter_conflict : PySem.W.keepIn K (.ref (fa 11)) = true
  F_Fitter_conflict : Fun K "conflict" "Fitter.conflict" s_Fitter_conflict (fa 11) (fd 11)
  k_Fitter_add_corners : PySem.W.keepIn K (.ref (fa 12)) = true
  F_Fitter_add_corners : Fun K "add_corners" "Fitter.add_corners" s_Fitter_add_corners (fa 12) (fd 12)
  k_Fitter_lower_steep : PySem.W.keepIn K (.ref (fa 13)) = true
  F_Fitter_lower_steep : Fun K "lower_steep" "Fitter.lower_steep" s_Fitter_lower_steep (fa 13) (fd 13)
  k_Fitter_raise_flat : PySem.W.keepIn K (.ref (fa 14)) = true
  F_Fitter_raise_flat : Fun K "raise_flat" "Fitter.raise_flat" s_Fitter_raise_flat (fa 14) (fd 14)
  k_Fitter_add : PySem.W.keepIn K (.ref (fa 15)) = true
  F_Fitter_add : Fun K "add" "Fitter.add" s_Fitter_add (fa 15) (fd 15)
  k_Fitter_span_at : PySem.W.keepIn K (.ref (fa 16)) = true
  F_Fitter_span_at : Fun K "span_at" "Fitter.span_at" s_Fitter_span_at (fa 16) (fd 16)
  k_Fitter_line : PySem.W.keepIn K (.ref (fa 17)) = true
  F_Fitter_line : Fun K "line" "Fitter.line" s_Fitter_line (fa 17) (fd 17)
  k_Cutting_init__ : PySem.W.keepIn K (.ref (fa 18)) = true
  F_Cutting_init__ : Fun K "__init__" "Cutting.__init__" s_Cutting_init__ (fa 18) (fd 18)
  g_cut : mg "cut" = some (.ref (fa 19))
  k_cut : PySem.W.keepIn K (.ref (fa 19)) = true
  F_cut : Fun K "cut" "cut" s_cut (fa 19) (fd 19)
  k_Level_init__ : PySem.W.keepIn K (.ref (fa 20)) = true
  F_Level_init__ : Fun K "__init__" "Level.__init__" s_Level_init__ (fa 20) (fd 20)
  k_Level_end_of : PySem.W.keepIn K (.ref (fa 21)) = true
  F_Level_end_of : Fun K "end_of" "Level.end_of" s_Level_end_of (fa 21) (fd 21)
  k_Level_find : PySem.W.keepIn K (.ref (fa 22)) = true
  F_Level_find : Fun K "find" "Level.find" s_Level_find (fa 22) (fd 22)
  k_Index_init__ : PySem.W.keepIn K (.ref (fa 23)) = true
  F_Index_init__ : Fun K "__init__" "Index.__init__" s_Index_init__ (fa 23) (fd 23)
  k_Index_level_keys : PySem.W.keepIn K (.ref (fa 24)) = true
  F_Index_level_keys : Fun K "level_keys" "Index.level_keys" s_Index_level_keys (fa 24) (fd 24)
  k_Index_pieces : PySem.W.keepIn K (.ref (fa 25)) = true
  F_Index_pieces : Fun K "pieces" "Index.pieces" s_Index_pieces (fa 25) (fd 25)
  k_Index_look_up : PySem.W.keepIn K (.ref (fa 26)) = true
  F_Index_look_up : Fun K "look_up" "Index.look_up" s_Index_look_up (fa 26) (fd 26)
  k_Index_rank : PySem.W.keepIn K (.ref (fa 27)) = true
  F_Index_rank : Fun K "rank" "Index.rank" s_Index_rank (fa 27) (fd 27)
  k_Index_has : PySem.W.keepIn K (.ref (fa 28)) = true
  F_Index_has : Fun K "has" "Index.has" s_Index_has (fa 28) (fd 28)
  k_Index_count : PySem.W.keepIn K (.ref (fa 29)) = true
  F_Index_count : Fun K "count" "Index.count" s_Index_count (fa 29) (fd 29)
  k_Index_at_most : PySem.W.keepIn K (.ref (fa 30)) = true
  F_Index_at_most : Fun K "at_most" "Index.at_most" s_Index_at_most (fa 30) (fd 30)
  k_Index_at_least : PySem.W.keepIn K (.ref (fa 31)) = true
  F_Index_at_least : Fun K "at_least" "Index.at_least" s_Index_at_least (fa 31) (fd 31)
  k_Index_key_at : PySem.W.keepIn K (.ref (fa 32)) = true
  F_Index_key_at : Fun K "key_at" "Index.key_at" s_Index_key_at (fa 32) (fd 32)
  k_Run_init__ : PySem.W.keepIn K (.ref (fa 33)) = true
  F_Run_init__ : Fun K "__init__" "Run.__init__" s_Run_init__ (fa 33) (fd 33)
  k_Run_entry : PySem.W.keepIn K (.ref (fa 34)) = true
  F_Run_entry : Fun K "entry" "Run.entry" s_Run_entry (fa 34) (fd 34)
  g_merged : mg "merged" = some (.ref (fa 35))
  k_merged : PySem.W.keepIn K (.ref (fa 35)) = true
  F_merged : Fun K "merged" "merged" s_merged (fa 35) (fd 35)
  k_Store_init__ : PySem.W.keepIn K (.ref (fa 36)) = true
  F_Store_init__ : Fun K "__init__" "Store.__init__" s_Store_init__ (fa 36) (fd 36)
  k_Store_flush : PySem.W.keepIn K (.ref (fa 37)) = true
  F_Store_flush : Fun K "flush" "Store.flush" s_Store_flush (fa 37) (fd 37)
  k_Store_write : PySem.W.keepIn K (.ref (fa 38)) = true
  F_Store_write : Fun K "write" "Store.write" s_Store_write (fa 38) (fd 38)
  k_Store_put : PySem.W.keepIn K (.ref (fa 39)) = true
  F_Store_put : Fun K "put" "Store.put" s_Store_put (fa 39) (fd 39)
  k_Store_remove : PySem.W.keepIn K (.ref (fa 40)) = true
  F_Store_remove : Fun K "remove" "Store.remove" s_Store_remove (fa 40) (fd 40)
  k_Store_get : PySem.W.keepIn K (.ref (fa 41)) = true
  F_Store_get : Fun K "get" "Store.get" s_Store_get (fa 41) (fd 41)
  k_Store_contents : PySem.W.keepIn K (.ref (fa 42)) = true
  F_Store_contents : Fun K "contents" "Store.contents" s_Store_contents (fa 42) (fd 42)
  k_Store_between : PySem.W.keepIn K (.ref (fa 43)) = true
  F_Store_between : Fun K "between" "Store.between" s_Store_between (fa 43) (fd 43)
  k_Store_run_sizes : PySem.W.keepIn K (.ref (fa 44)) = true
  F_Store_run_sizes : Fun K "run_sizes" "Store.run_sizes" s_Store_run_sizes (fa 44) (fd 44)
  k_Store_buffered : PySem.W.keepIn K (.ref (fa 45)) = true
  F_Store_buffered : Fun K "buffered" "Store.buffered" s_Store_buffered (fa 45) (fd 45)
  k_Store_buffer_entries : PySem.W.keepIn K (.ref (fa 46)) = true
  F_Store_buffer_entries : Fun K "buffer_entries" "Store.buffer_entries" s_Store_buffer_entries (fa 46) (fd 46)
  k_Store_run_entries : PySem.W.keepIn K (.ref (fa 47)) = true
  F_Store_run_entries : Fun K "run_entries" "Store.run_entries" s_Store_run_entries (fa 47) (fd 47)
  k_Store_runs : PySem.W.keepIn K (.ref (fa 48)) = true
  F_Store_runs : Fun K "runs" "Store.runs" s_Store_runs (fa 48) (fd 48)
  k_Store_levels : PySem.W.keepIn K (.ref (fa 49)) = true
  F_Store_levels : Fun K "levels" "Store.levels" s_Store_levels (fa 49) (fd 49)
  k_Store_take_buffer : PySem.W.keepIn K (.ref (fa 50)) = true
  F_Store_take_buffer : Fun K "take_buffer" "Store.take_buffer" s_Store_take_buffer (fa 50) (fd 50)
  k_Store_take_run : PySem.W.keepIn K (.ref (fa 51)) = true
  F_Store_take_run : Fun K "take_run" "Store.take_run" s_Store_take_run (fa 51) (fd 51)
  g_law_cell : mg "_law_cell" = some (.ref (fa 52))
  k_law_cell : PySem.W.keepIn K (.ref (fa 52)) = true
  F_law_cell : Fun K "_law_cell" "_law_cell" s_law_cell (fa 52) (fd 52)
  g_law_digits : mg "_law_digits" = some (.ref (fa 53))
  k_law_digits : PySem.W.keepIn K (.ref (fa 53)) = true
  F_law_digits : Fun K "_law_digits" "_law_digits" s_law_digits (fa 53) (fd 53)
  g_law_edits : mg "_law_edits" = some (.ref (fa 54))
  k_law_edits : PySem.W.keepIn K (.ref (fa 54)) = true
  F_law_edits : Fun K "_law_edits" "_law_edits" s_law_edits (fa 54) (fd 54)
  g_law_done : mg "_law_done" = some (.ref (fa 55))
  k_law_done : PySem.W.keepIn K (.ref (fa 55)) = true
  F_law_done : Fun K "_law_done" "_law_done" s_law_done (fa 55) (fd 55)
  g_law_edit : mg "_law_edit" = some (.ref (fa 56))
  k_law_edit : PySem.W.keepIn K (.ref (fa 56)) = true
  F_law_edit : Fun K "_law_edit" "_law_edit" s_law_edit (fa 56) (fd 56)
  g_law_digits_of : mg "_law_digits_of" = some (.ref (fa 57))
  k_law_digits_of : PySem.W.keepIn K (.ref (fa 57)) = true
  F_law_digits_of : Fun K "_law_digits_of" "_law_digits_of" s_law_digits_of (fa 57) (fd 57)
  g_law : mg "law" = some (.ref (fa 58))
  k_law : PySem.W.keepIn K (.ref (fa 58)) = true
  F_law : Fun K "law" "law" s_law (fa 58) (fd 58)
  z_abs : mg "abs" = none
  z_any : mg "any" = none
  z_enumerate : mg "enumerate" = none
  z_int : mg "int" = none
  z_len : mg "len" = none
  z_list : mg "list" = none
  z_max : mg "max" = none
  z_min : mg "min" = none
  z_range : mg "range" = none
  z_sorted : mg "sorted" = none
  q_UPPER : ∃ t, mg "UPPER" = some (.int 1 t)
  g_Fitter : mg "Fitter" = some (.ref (cl 0))
  c_Fitter : COk K cl 0 0
  m_Fitter : Mk K (cl 0) (fa 10)
  me_Fitter_conflict : Meth K (cl 0) "conflict" (fa 11)
  me_Fitter_add_corners : Meth K (cl 0) "add_corners" (fa 12)
  me_Fitter_lower_steep : Meth K (cl 0) "lower_steep" (fa 13)
  me_Fitter_raise_flat : Meth K (cl 0) "raise_flat" (fa 14)
  me_Fitter_add : Meth K (cl 0) "add" (fa 15)
  me_Fitter_span_at : Meth K (cl 0) "span_at" (fa 16)
  me_Fitter_line : Meth K (cl 0) "line" (fa 17)
  g_Cutting : mg "Cutting" = some (.ref (cl 1))
  c_Cutting : COk K cl 1 0
  m_Cutting : Mk K (cl 1) (fa 18)
  g_Level : mg "Level" = some (.ref (cl 4))
  c_Level : COk K cl 4 0
  m_Level : Mk K (cl 4) (fa 20)
  me_Level_end_of : Meth K (cl 4) "end_of" (fa 21)
  me_Level_find : Meth K (cl 4) "find" (fa 22)
  g_Index : mg "Index" = some (.ref (cl 5))
  c_Index : COk K cl 5 0
  m_Index : Mk K (cl 5) (fa 23)
  me_Index_level_keys : Meth K (cl 5) "level_keys" (fa 24)
  me_Index_pieces : Meth K (cl 5) "pieces" (fa 25)
  me_Index_look_up : Meth K (cl 5) "look_up" (fa 26)
  me_Index_rank : Meth K (cl 5) "rank" (fa 27)
  me_Index_has : Meth K (cl 5) "has" (fa 28)
  me_Index_count : Meth K (cl 5) "count" (fa 29)
  me_Index_at_most : Meth K (cl 5) "at_most" (fa 30)
  me_Index_at_least : Meth K (cl 5) "at_least" (fa 31)
  me_Index_key_at : Meth K (cl 5) "key_at" (fa 32)
  g_Run : mg "Run" = some (.ref (cl 6))
  c_Run : COk K cl 6 0
  m_Run : Mk K (cl 6) (fa 33)
  me_Run_entry : Meth K (cl 6) "entry" (fa 34)
  g_Store : mg "Store" = some (.ref (cl 7))
  c_Store : COk K cl 7 0
  m_Store : Mk K (cl 7) (fa 36)
  me_Store_flush : Meth K (cl 7) "flush" (fa 37)
  me_Store_write : Meth K (cl 7) "write" (fa 38)
  me_Store_put : Meth K (cl 7) "put" (fa 39)
  me_Store_remove : Meth K (cl 7) "remove" (fa 40)
  me_Store_get : Meth K (cl 7) "get" (fa 41)
  me_Store_contents : Meth K (cl 7) "contents" (fa 42)
  me_Store_between : Meth K (cl 7) "between" (fa 43)
  me_Store_run_sizes : Meth K (cl 7) "run_sizes" (fa 44)
  me_Store_buffered : Meth K (cl 7) "buffered" (fa 45)
  me_Store_buffer_entries : Meth K (cl 7) "buffer_entries" (fa 46)
  me_Store_run_entries : Meth K (cl 7) "run_entries" (fa 47)
  me_Store_runs : Meth K (cl 7) "runs" (fa 48)
  me_Store_levels : Meth K (cl 7) "levels" (fa 49)
  me_Store_take_buffer : Meth K (cl 7) "take_buffer" (fa 50)
  me_Store_take_run : Meth K (cl 7) "take_run" (fa 51)
section
variable {P : Program} {w : World} {K : PySem.W.Frag} {mg : Str → Option Value} {base : Heap} {cl fa : Nat → Addr} {fd : Nat → FuncData}
theorem sc_wall : FnScope (["k"] : List Str) (["k"] : List Str) (defScope s_wall) := ⟨rfl, rfl, rfl, by decide +kernel, rfl, by decide +kernel, by decide +kernel⟩
theorem b_wall (T : Txt K mg cl fa fd) : Binds K (fd 0) (["k"] : List Str) [] := T.F_wall.binds fun _ _ _ _ _ _ us hl => match us, hl with | [_], _ => rfl
theorem ok_wall (T : Txt K mg cl fa fd) : FB P w K mg base cl 1 1 (fa 0) F_wall := by
  have sc := sc_wall
  have body : ∀ (cdv : Value) (A : Around) (outer : List PySem.Env) (sh : Shared) (H : Hp) (E : XK), Room 0 (A.deeper (envOfC "_wall" (defScope s_wall) sh.heap.objs.size (fa 0) cdv)) → MSs (cxOf CX0 P w K mg base (["k"] : List Str) "_wall" (defScope s_wall) (fa 0) cdv A outer sh H E).nox cl (fun _ _ => False) (defBody s_wall) S_wall := fun cdv A outer sh H E hr =>
  (mss_one (ms_while (t_tru (mq_e m_bl))
  (mss_one ms_pass) PassesOwn.never))
  rw [e_wall]
  exact fb_mk T.F_wall sc (b_wall T) body
theorem sc_common_divisor : FnScope (["one", "other", "first", "second"] : List Str) (["one", "other"] : List Str) (defScope s_common_divisor) := ⟨rfl, rfl, rfl, by decide +kernel, rfl, by decide +kernel, by decide +kernel⟩
theorem b_common_divisor (T : Txt K mg cl fa fd) : Binds K (fd 1) (["one", "other"] : List Str) [] := T.F_common_divisor.binds fun _ _ _ _ _ _ us hl => match us, hl with | [_, _], _ => rfl
theorem ok_common_divisor (T : Txt K mg cl fa fd) : FB P w K mg base cl 1 2 (fa 1) F_common_divisor := by
  have sc := sc_common_divisor
  have body : ∀ (cdv : Value) (A : Around) (outer : List PySem.Env) (sh : Shared) (H : Hp) (E : XK), Room 0 (A.deeper (envOfC "common_divisor" (defScope s_common_divisor) sh.heap.objs.size (fa 1) cdv)) → MSs (cxOf CX0 P w K mg base (["one", "other", "first", "second"] : List Str) "common_divisor" (defScope s_common_divisor) (fa 1) cdv A outer sh H E).nox cl (fun _ _ => False) (defBody s_common_divisor) S_common_divisor := fun cdv A outer sh H E hr =>
  (mss_consF (ms_set 2 sc.nd (mx_e (m_callB gb_abs rfl T.z_abs (by decide +kernel) (mq_pl (mp_var 0)))))
  (mss_consF (ms_set 3 sc.nd (mx_e (m_callB gb_abs rfl T.z_abs (by decide +kernel) (mq_pl (mp_var 1)))))
  (mss_consF (ms_while (t_tru (mq_pl (mp_var 3)))
  (mss_one (ms_par 2 3 rfl sc.nd (ma_v (me_q (mq_pl (mp_var 3))) (ma_v (m_modI (mq_pl (mp_var 2)) (mq_pl (mp_var 3))) ma_nil)) (by rfl))) PassesOwn.never)
  (mss_one (ms_ret (mx_e (me_q (mq_pl (mp_var 2)))))))))
  rw [e_common_divisor]
  exact fb_mk T.F_common_divisor sc (b_common_divisor T) body
theorem sc_floor_at : FnScope (["line", "place", "p", "q", "d"] : List Str) (["line", "place"] : List Str) (defScope s_floor_at) := ⟨rfl, rfl, rfl, by decide +kernel, rfl, by decide +kernel, by decide +kernel⟩
theorem b_floor_at (T : Txt K mg cl fa fd) : Binds K (fd 2) (["line", "place"] : List Str) [] := T.F_floor_at.binds fun _ _ _ _ _ _ us hl => match us, hl with | [_, _], _ => rfl
theorem ok_floor_at (T : Txt K mg cl fa fd) : FB P w K mg base cl 1 2 (fa 2) F_floor_at := by
  have sc := sc_floor_at
  have body : ∀ (cdv : Value) (A : Around) (outer : List PySem.Env) (sh : Shared) (H : Hp) (E : XK), Room 0 (A.deeper (envOfC "floor_at" (defScope s_floor_at) sh.heap.objs.size (fa 2) cdv)) → MSs (cxOf CX0 P w K mg base (["line", "place", "p", "q", "d"] : List Str) "floor_at" (defScope s_floor_at) (fa 2) cdv A outer sh H E).nox cl (fun _ _ => False) (defBody s_floor_at) S_floor_at := fun cdv A outer sh H E hr =>
  (mss_consF (ms_asg (mx_e (me_q (mq_pl (mp_var 0)))) (mg_tup rfl (mgs_cons (mg_name 2 sc.nd) (mgs_cons (mg_name 3 sc.nd) (mgs_cons (mg_name 4 sc.nd) mgs_nil)))))
  (mss_one (ms_ret (mx_e (m_divI (mq_e (m_add (mq_e (m_mulI (mq_pl (mp_var 2)) (mq_pl (mp_var 1)))) (mq_pl (mp_var 3)))) (mq_pl (mp_var 4)))))))
  rw [e_floor_at]
  exact fb_mk T.F_floor_at sc (b_floor_at T) body
theorem sc_ceiling_at : FnScope (["line", "place", "p", "q", "d"] : List Str) (["line", "place"] : List Str) (defScope s_ceiling_at) := ⟨rfl, rfl, rfl, by decide +kernel, rfl, by decide +kernel, by decide +kernel⟩
theorem b_ceiling_at (T : Txt K mg cl fa fd) : Binds K (fd 3) (["line", "place"] : List Str) [] := T.F_ceiling_at.binds fun _ _ _ _ _ _ us hl => match us, hl with | [_, _], _ => rfl
theorem ok_ceiling_at (T : Txt K mg cl fa fd) : FB P w K mg base cl 1 2 (fa 3) F_ceiling_at := by
  have sc := sc_ceiling_at
  have body : ∀ (cdv : Value) (A : Around) (outer : List PySem.Env) (sh : Shared) (H : Hp) (E : XK), Room 0 (A.deeper (envOfC "ceiling_at" (defScope s_ceiling_at) sh.heap.objs.size (fa 3) cdv)) → MSs (cxOf CX0 P w K mg base (["line", "place", "p", "q", "d"] : List Str) "ceiling_at" (defScope s_ceiling_at) (fa 3) cdv A outer sh H E).nox cl (fun _ _ => False) (defBody s_ceiling_at) S_ceiling_at := fun cdv A outer sh H E hr =>
  (mss_consF (ms_asg (mx_e (me_q (mq_pl (mp_var 0)))) (mg_tup rfl (mgs_cons (mg_name 2 sc.nd) (mgs_cons (mg_name 3 sc.nd) (mgs_cons (mg_name 4 sc.nd) mgs_nil)))))
  (mss_one (ms_ret (mx_e (m_neg (mq_e (m_divI (mq_e (m_neg (mq_e (m_add (mq_e (m_mulI (mq_pl (mp_var 2)) (mq_pl (mp_var 1)))) (mq_pl (mp_var 3)))))) (mq_pl (mp_var 4)))))))))
  rw [e_ceiling_at]
  exact fb_mk T.F_ceiling_at sc (b_ceiling_at T) body
theorem sc_fraction : FnScope (["numerator", "denominator", "divisor"] : List Str) (["numerator", "denominator"] : List Str) (defScope s_fraction) := ⟨rfl, rfl, rfl, by decide +kernel, rfl, by decide +kernel, by decide +kernel⟩
theorem b_fraction (T : Txt K mg cl fa fd) : Binds K (fd 4) (["numerator", "denominator"] : List Str) [] := T.F_fraction.binds fun _ _ _ _ _ _ us hl => match us, hl with | [_, _], _ => rfl
theorem ok_fraction (T : Txt K mg cl fa fd) (h_common_divisor : FB P w K mg base cl 1 2 (fa 1) F_common_divisor) : FB P w K mg base cl 2 2 (fa 4) F_fraction := by
  have sc := sc_fraction
  have body : ∀ (cdv : Value) (A : Around) (outer : List PySem.Env) (sh : Shared) (H : Hp) (E : XK), Room 1 (A.deeper (envOfC "fraction" (defScope s_fraction) sh.heap.objs.size (fa 4) cdv)) → MSs (cxOf CX0 P w K mg base (["numerator", "denominator", "divisor"] : List Str) "fraction" (defScope s_fraction) (fa 4) cdv A outer sh H E).nox cl (fun _ _ => False) (defBody s_fraction) S_fraction := fun cdv A outer sh H E hr =>
  (mss_consF (ms_set 2 sc.nd (mx_e (me_n (mn_call h_common_divisor (hr.mono (by decide)) rfl T.g_common_divisor T.k_common_divisor (ma_v (me_q (mq_pl (mp_var 0))) (ma_v (me_q (mq_pl (mp_var 1))) ma_nil))))))
  (mss_one (ms_ret (mx_e (m_tup (ma_v (m_divI (mq_pl (mp_var 0)) (mq_pl (mp_var 2))) (ma_v (m_divI (mq_pl (mp_var 1)) (mq_pl (mp_var 2))) ma_nil)))))))
  rw [e_fraction]
  exact fb_mk T.F_fraction sc (b_fraction T) body
theorem sc_slope_between : FnScope (["lower", "upper"] : List Str) (["lower", "upper"] : List Str) (defScope s_slope_between) := ⟨rfl, rfl, rfl, by decide +kernel, rfl, by decide +kernel, by decide +kernel⟩
theorem b_slope_between (T : Txt K mg cl fa fd) : Binds K (fd 5) (["lower", "upper"] : List Str) [] := T.F_slope_between.binds fun _ _ _ _ _ _ us hl => match us, hl with | [_, _], _ => rfl
theorem ok_slope_between (T : Txt K mg cl fa fd) : FB P w K mg base cl 1 2 (fa 5) F_slope_between := by
  have sc := sc_slope_between
  have body : ∀ (cdv : Value) (A : Around) (outer : List PySem.Env) (sh : Shared) (H : Hp) (E : XK), Room 0 (A.deeper (envOfC "slope_between" (defScope s_slope_between) sh.heap.objs.size (fa 5) cdv)) → MSs (cxOf CX0 P w K mg base (["lower", "upper"] : List Str) "slope_between" (defScope s_slope_between) (fa 5) cdv A outer sh H E).nox cl (fun _ _ => False) (defBody s_slope_between) S_slope_between := fun cdv A outer sh H E hr =>
  (mss_consF (ms_if (mu_t (t_cmp gc_gt (mq_e (m_ix (mq_pl (mp_var 0)) (mq_e m_int))) (mq_e m_int)))
  (mss_one (ms_ret (mx_e (me_q (mq_pl (mp_var 0))))))
  mss_nil)
  (mss_consF (ms_if (mu_t (t_cmp gc_lt (mq_e (m_ix (mq_pl (mp_var 1)) (mq_e m_int))) (mq_e m_int)))
  (mss_one (ms_ret (mx_e (me_q (mq_pl (mp_var 1))))))
  mss_nil)
  (mss_one (ms_ret (mx_e (m_tup (ma_v m_int (ma_v m_int ma_nil))))))))
  rw [e_slope_between]
  exact fb_mk T.F_slope_between sc (b_slope_between T) body
theorem sc_line_with_slope : FnScope (["points", "error", "slope", "p", "d", "place", "height"] : List Str) (["points", "error", "slope"] : List Str) (defScope s_line_with_slope) := ⟨rfl, rfl, rfl, by decide +kernel, rfl, by decide +kernel, by decide +kernel⟩
theorem b_line_with_slope (T : Txt K mg cl fa fd) : Binds K (fd 6) (["points", "error", "slope"] : List Str) [] := T.F_line_with_slope.binds fun _ _ _ _ _ _ us hl => match us, hl with | [_, _, _], _ => rfl
theorem ok_line_with_slope (T : Txt K mg cl fa fd) : FB P w K mg base cl 1 3 (fa 6) F_line_with_slope := by
  have sc := sc_line_with_slope
  have body : ∀ (cdv : Value) (A : Around) (outer : List PySem.Env) (sh : Shared) (H : Hp) (E : XK), Room 0 (A.deeper (envOfC "line_with_slope" (defScope s_line_with_slope) sh.heap.objs.size (fa 6) cdv)) → MSs (cxOf CX0 P w K mg base (["points", "error", "slope", "p", "d", "place", "height"] : List Str) "line_with_slope" (defScope s_line_with_slope) (fa 6) cdv A outer sh H E).nox cl (fun _ _ => False) (defBody s_line_with_slope) S_line_with_slope := fun cdv A outer sh H E hr =>
  (mss_consF (ms_asg (mx_e (me_q (mq_pl (mp_var 2)))) (mg_tup rfl (mgs_cons (mg_name 3 sc.nd) (mgs_cons (mg_name 4 sc.nd) mgs_nil))))
  (mss_one (ms_ret (mx_e (m_tup (ma_v (me_q (mq_pl (mp_var 3))) (ma_v (m_callB (gb_max rfl) rfl T.z_max (by decide +kernel) (mq_e (me_n (mn_lc (own := ([("place", 5), ("height", 6)] : List (Str × Nat))) rfl sc.nd ⟨(mj_any (mq_pl (mp_var 0))), blkOk_by (N := ["points", "error", "slope", "p", "d", "place", "height"]) (sc := defScope s_line_with_slope) (by first | decide +kernel | rfl), ⟨[5, 6], by decide, fun _ _ _ _ _ => (mg_tup rfl (mgs_cons (mg_name 5 sc.nd) (mgs_cons (mg_name 6 sc.nd) mgs_nil)))⟩, fun _ _ _ _ _ => mts_nil, fun _ _ _ _ _ => (m_subI (mq_e (m_subI (mq_e (m_mulI (mq_pl (mp_var 6)) (mq_pl (mp_var 4)))) (mq_e (m_mulI (mq_pl (mp_var 1)) (mq_pl (mp_var 4)))))) (mq_e (m_mulI (mq_pl (mp_var 3)) (mq_pl (mp_var 5))))), ⟨sh, H⟩⟩)))) (ma_v (me_q (mq_pl (mp_var 4))) ma_nil))))))))
  rw [e_line_with_slope]
  exact fb_mk T.F_line_with_slope sc (b_line_with_slope T) body
theorem sc_turn : FnScope (["one", "two", "three"] : List Str) (["one", "two", "three"] : List Str) (defScope s_turn) := ⟨rfl, rfl, rfl, by decide +kernel, rfl, by decide +kernel, by decide +kernel⟩
theorem b_turn (T : Txt K mg cl fa fd) : Binds K (fd 7) (["one", "two", "three"] : List Str) [] := T.F_turn.binds fun _ _ _ _ _ _ us hl => match us, hl with | [_, _, _], _ => rfl
theorem ok_turn (T : Txt K mg cl fa fd) : FB P w K mg base cl 1 3 (fa 7) F_turn := by
  have sc := sc_turn
  have body : ∀ (cdv : Value) (A : Around) (outer : List PySem.Env) (sh : Shared) (H : Hp) (E : XK), Room 0 (A.deeper (envOfC "turn" (defScope s_turn) sh.heap.objs.size (fa 7) cdv)) → MSs (cxOf CX0 P w K mg base (["one", "two", "three"] : List Str) "turn" (defScope s_turn) (fa 7) cdv A outer sh H E).nox cl (fun _ _ => False) (defBody s_turn) S_turn := fun cdv A outer sh H E hr =>
  (mss_one (ms_ret (mx_e (m_subI (mq_e (m_mulI (mq_e (m_subI (mq_e (m_ix (mq_pl (mp_var 1)) (mq_e m_int))) (mq_e (m_ix (mq_pl (mp_var 0)) (mq_e m_int))))) (mq_e (m_subI (mq_e (m_ix (mq_pl (mp_var 2)) (mq_e m_int))) (mq_e (m_ix (mq_pl (mp_var 0)) (mq_e m_int))))))) (mq_e (m_mulI (mq_e (m_subI (mq_e (m_ix (mq_pl (mp_var 1)) (mq_e m_int))) (mq_e (m_ix (mq_pl (mp_var 0)) (mq_e m_int))))) (mq_e (m_subI (mq_e (m_ix (mq_pl (mp_var 2)) (mq_e m_int))) (mq_e (m_ix (mq_pl (mp_var 0)) (mq_e m_int)))))))))))
  rw [e_turn]
  exact fb_mk T.F_turn sc (b_turn T) body
theorem sc_rise_over : FnScope (["one", "other"] : List Str) (["one", "other"] : List Str) (defScope s_rise_over) := ⟨rfl, rfl, rfl, by decide +kernel, rfl, by decide +kernel, by decide +kernel⟩
theorem b_rise_over (T : Txt K mg cl fa fd) : Binds K (fd 8) (["one", "other"] : List Str) [] := T.F_rise_over.binds fun _ _ _ _ _ _ us hl => match us, hl with | [_, _], _ => rfl
theorem ok_rise_over (T : Txt K mg cl fa fd) : FB P w K mg base cl 1 2 (fa 8) F_rise_over := by
  have sc := sc_rise_over
  have body : ∀ (cdv : Value) (A : Around) (outer : List PySem.Env) (sh : Shared) (H : Hp) (E : XK), Room 0 (A.deeper (envOfC "rise_over" (defScope s_rise_over) sh.heap.objs.size (fa 8) cdv)) → MSs (cxOf CX0 P w K mg base (["one", "other"] : List Str) "rise_over" (defScope s_rise_over) (fa 8) cdv A outer sh H E).nox cl (fun _ _ => False) (defBody s_rise_over) S_rise_over := fun cdv A outer sh H E hr =>
  (mss_one (ms_ret (mx_e (m_tup (ma_v (m_subI (mq_e (m_ix (mq_pl (mp_var 1)) (mq_e m_int))) (mq_e (m_ix (mq_pl (mp_var 0)) (mq_e m_int)))) (ma_v (m_subI (mq_e (m_ix (mq_pl (mp_var 1)) (mq_e m_int))) (mq_e (m_ix (mq_pl (mp_var 0)) (mq_e m_int)))) ma_nil))))))
  rw [e_rise_over]
  exact fb_mk T.F_rise_over sc (b_rise_over T) body
theorem sc_is_below : FnScope (["one", "other"] : List Str) (["one", "other"] : List Str) (defScope s_is_below) := ⟨rfl, rfl, rfl, by decide +kernel, rfl, by decide +kernel, by decide +kernel⟩
theorem b_is_below (T : Txt K mg cl fa fd) : Binds K (fd 9) (["one", "other"] : List Str) [] := T.F_is_below.binds fun _ _ _ _ _ _ us hl => match us, hl with | [_, _], _ => rfl
theorem ok_is_below (T : Txt K mg cl fa fd) : FB P w K mg base cl 1 2 (fa 9) F_is_below := by
  have sc := sc_is_below
  have body : ∀ (cdv : Value) (A : Around) (outer : List PySem.Env) (sh : Shared) (H : Hp) (E : XK), Room 0 (A.deeper (envOfC "is_below" (defScope s_is_below) sh.heap.objs.size (fa 9) cdv)) → MSs (cxOf CX0 P w K mg base (["one", "other"] : List Str) "is_below" (defScope s_is_below) (fa 9) cdv A outer sh H E).nox cl (fun _ _ => False) (defBody s_is_below) S_is_below := fun cdv A outer sh H E hr =>
  (mss_one (ms_ret (mx_e (m_cmp gc_lt (mq_e (m_mulI (mq_e (m_ix (mq_pl (mp_var 0)) (mq_e m_int))) (mq_e (m_ix (mq_pl (mp_var 1)) (mq_e m_int))))) (mq_e (m_mulI (mq_e (m_ix (mq_pl (mp_var 1)) (mq_e m_int))) (mq_e (m_ix (mq_pl (mp_var 0)) (mq_e m_int)))))))))
  rw [e_is_below]
  exact fb_mk T.F_is_below sc (b_is_below T) body
theorem sc_Fitter_init__ : FnScope (["self", "error"] : List Str) (["self", "error"] : List Str) (defScope s_Fitter_init__) := ⟨rfl, rfl, rfl, by decide +kernel, rfl, by decide +kernel, by decide +kernel⟩
theorem b_Fitter_init__ (T : Txt K mg cl fa fd) : Binds K (fd 10) (["self", "error"] : List Str) [] := T.F_Fitter_init__.binds fun _ _ _ _ _ _ us hl => match us, hl with | [_, _], _ => rfl
theorem ok_Fitter_init__ (T : Txt K mg cl fa fd) : FB P w K mg base cl 1 2 (fa 10) F_Fitter_init__ := by
  have sc := sc_Fitter_init__
  have body : ∀ (cdv : Value) (A : Around) (outer : List PySem.Env) (sh : Shared) (H : Hp) (E : XK), Room 0 (A.deeper (envOfC "Fitter.__init__" (defScope s_Fitter_init__) sh.heap.objs.size (fa 10) cdv)) → MSs (cxOf CX0 P w K mg base (["self", "error"] : List Str) "Fitter.__init__" (defScope s_Fitter_init__) (fa 10) cdv A outer sh H E).nox cl (fun _ _ => False) (defBody s_Fitter_init__) S_Fitter_init__ := fun cdv A outer sh H E hr =>
  (mss_consF (ms_setF 0 (mp_var 0) (mx_e (me_q (mq_pl (mp_var 1)))))
  (mss_consF (ms_setF 1 (mp_var 0) (mx_e m_int))
  (mss_consF (ms_setF 2 (mp_var 0) (mx_n (mn_lst ma_nil)))
  (mss_consF (ms_setF 3 (mp_var 0) (mx_n (mn_lst ma_nil)))
  (mss_consF (ms_setF 4 (mp_var 0) (mx_n (mn_lst ma_nil)))
  (mss_consF (ms_setF 5 (mp_var 0) (mx_e (m_tup ma_nil)))
  (mss_one (ms_setF 6 (mp_var 0) (mx_e (m_tup ma_nil))))))))))
  rw [e_Fitter_init__]
  exact fb_mk T.F_Fitter_init__ sc (b_Fitter_init__ T) body
theorem sc_Fitter_conflict : FnScope (["self", "point", "place", "height"] : List Str) (["self", "point"] : List Str) (defScope s_Fitter_conflict) := ⟨rfl, rfl, rfl, by decide +kernel, rfl, by decide +kernel, by decide +kernel⟩
theorem b_Fitter_conflict (T : Txt K mg cl fa fd) : Binds K (fd 11) (["self", "point"] : List Str) [] := T.F_Fitter_conflict.binds fun _ _ _ _ _ _ us hl => match us, hl with | [_, _], _ => rfl
theorem ok_Fitter_conflict (T : Txt K mg cl fa fd) (h_is_below : FB P w K mg base cl 1 2 (fa 9) F_is_below) (h_rise_over : FB P w K mg base cl 1 2 (fa 8) F_rise_over) : FB P w K mg base cl 2 2 (fa 11) F_Fitter_conflict := by
  have sc := sc_Fitter_conflict
  have body : ∀ (cdv : Value) (A : Around) (outer : List PySem.Env) (sh : Shared) (H : Hp) (E : XK), Room 1 (A.deeper (envOfC "Fitter.conflict" (defScope s_Fitter_conflict) sh.heap.objs.size (fa 11) cdv)) → MSs (cxOf CX0 P w K mg base (["self", "point", "place", "height"] : List Str) "Fitter.conflict" (defScope s_Fitter_conflict) (fa 11) cdv A outer sh H E).nox cl (fun _ _ => False) (defBody s_Fitter_conflict) S_Fitter_conflict := fun cdv A outer sh H E hr =>
  (mss_consF (ms_if (mu_t (t_cmp gc_lt (mq_pl (mp_fld 1 (mp_var 0))) (mq_e m_int)))
  (mss_one (ms_ret (mx_e m_non)))
  mss_nil)
  (mss_consF (ms_asg (mx_e (me_q (mq_pl (mp_var 1)))) (mg_tup rfl (mgs_cons (mg_name 2 sc.nd) (mgs_cons (mg_name 3 sc.nd) mgs_nil))))
  (mss_consF (ms_if (mu_t (t_tru (mq_e (me_n (mn_call h_is_below (hr.mono (by decide)) rfl T.g_is_below T.k_is_below (ma_v (me_n (mn_call h_rise_over (hr.mono (by decide)) rfl T.g_rise_over T.k_rise_over (ma_v (m_ix (mq_pl (mp_fld 5 (mp_var 0))) (mq_e m_int)) (ma_v (m_tup (ma_v (me_q (mq_pl (mp_var 2))) (ma_v (m_add (mq_pl (mp_var 3)) (mq_pl (mp_fld 0 (mp_var 0)))) ma_nil))) ma_nil)))) (ma_v (me_n (mn_call h_rise_over (hr.mono (by decide)) rfl T.g_rise_over T.k_rise_over (ma_v (m_ix (mq_pl (mp_fld 5 (mp_var 0))) (mq_e m_int)) (ma_v (m_ix (mq_pl (mp_fld 5 (mp_var 0))) (mq_e m_int)) ma_nil)))) ma_nil)))))))
  (mss_one (ms_ret (mx_e (m_tup (ma_v (m_ix (mq_e (m_ix (mq_pl (mp_fld 5 (mp_var 0))) (mq_e m_int))) (mq_e m_int)) (ma_v (m_ix (mq_e (m_ix (mq_pl (mp_fld 5 (mp_var 0))) (mq_e m_int))) (mq_e m_int)) ma_nil))))))
  mss_nil)
  (mss_consF (ms_if (mu_t (t_tru (mq_e (me_n (mn_call h_is_below (hr.mono (by decide)) rfl T.g_is_below T.k_is_below (ma_v (me_n (mn_call h_rise_over (hr.mono (by decide)) rfl T.g_rise_over T.k_rise_over (ma_v (m_ix (mq_pl (mp_fld 6 (mp_var 0))) (mq_e m_int)) (ma_v (m_ix (mq_pl (mp_fld 6 (mp_var 0))) (mq_e m_int)) ma_nil)))) (ma_v (me_n (mn_call h_rise_over (hr.mono (by decide)) rfl T.g_rise_over T.k_rise_over (ma_v (m_ix (mq_pl (mp_fld 6 (mp_var 0))) (mq_e m_int)) (ma_v (m_tup (ma_v (me_q (mq_pl (mp_var 2))) (ma_v (m_subI (mq_pl (mp_var 3)) (mq_pl (mp_fld 0 (mp_var 0)))) ma_nil))) ma_nil)))) ma_nil)))))))
  (mss_one (ms_ret (mx_e (m_tup (ma_v (m_ix (mq_e (m_ix (mq_pl (mp_fld 6 (mp_var 0))) (mq_e m_int))) (mq_e m_int)) (ma_v (m_ix (mq_e (m_ix (mq_pl (mp_fld 6 (mp_var 0))) (mq_e m_int))) (mq_e m_int)) ma_nil))))))
  mss_nil)
  (mss_one (ms_ret (mx_e m_non)))))))
  rw [e_Fitter_conflict]
  exact fb_mk T.F_Fitter_conflict sc (b_Fitter_conflict T) body
theorem sc_Fitter_add_corners : FnScope (["self", "top", "bottom"] : List Str) (["self", "top", "bottom"] : List Str) (defScope s_Fitter_add_corners) := ⟨rfl, rfl, rfl, by decide +kernel, rfl, by decide +kernel, by decide +kernel⟩
theorem b_Fitter_add_corners (T : Txt K mg cl fa fd) : Binds K (fd 12) (["self", "top", "bottom"] : List Str) [] := T.F_Fitter_add_corners.binds fun _ _ _ _ _ _ us hl => match us, hl with | [_, _, _], _ => rfl
theorem ok_Fitter_add_corners (T : Txt K mg cl fa fd) (h_turn : FB P w K mg base cl 1 3 (fa 7) F_turn) : FB P w K mg base cl 2 3 (fa 12) F_Fitter_add_corners := by
  have sc := sc_Fitter_add_corners
  have body : ∀ (cdv : Value) (A : Around) (outer : List PySem.Env) (sh : Shared) (H : Hp) (E : XK), Room 1 (A.deeper (envOfC "Fitter.add_corners" (defScope s_Fitter_add_corners) sh.heap.objs.size (fa 12) cdv)) → MSs (cxOf CX0 P w K mg base (["self", "top", "bottom"] : List Str) "Fitter.add_corners" (defScope s_Fitter_add_corners) (fa 12) cdv A outer sh H E).nox cl (fun _ _ => False) (defBody s_Fitter_add_corners) S_Fitter_add_corners := fun cdv A outer sh H E hr =>
  (mss_consF (ms_while (t_w (w_and (t_cmp gc_gt (mq_e (m_callB gb_len rfl T.z_len (by decide +kernel) (mq_pl (mp_fld 3 (mp_var 0))))) (mq_e m_int)) (w_and1 (t_cmp gc_le (mq_e (me_n (mn_call h_turn (hr.mono (by decide)) rfl T.g_turn T.k_turn (ma_v (m_ix (mq_pl (mp_fld 3 (mp_var 0))) (mq_e (m_neg (mq_e m_int)))) (ma_v (m_ix (mq_pl (mp_fld 3 (mp_var 0))) (mq_e (m_neg (mq_e m_int)))) (ma_v (me_q (mq_pl (mp_var 1))) ma_nil)))))) (mq_e m_int)))))
  (mss_one (ms_expr (mx_pop (mp_fld 3 (mp_var 0))))) PassesOwn.never)
  (mss_consF (ms_expr (mx_app (mp_fld 3 (mp_var 0)) (me_q (mq_pl (mp_var 1)))))
  (mss_consF (ms_while (t_w (w_and (t_cmp gc_gt (mq_e (m_callB gb_len rfl T.z_len (by decide +kernel) (mq_pl (mp_fld 4 (mp_var 0))))) (mq_e m_int)) (w_and1 (t_cmp gc_ge (mq_e (me_n (mn_call h_turn (hr.mono (by decide)) rfl T.g_turn T.k_turn (ma_v (m_ix (mq_pl (mp_fld 4 (mp_var 0))) (mq_e (m_neg (mq_e m_int)))) (ma_v (m_ix (mq_pl (mp_fld 4 (mp_var 0))) (mq_e (m_neg (mq_e m_int)))) (ma_v (me_q (mq_pl (mp_var 2))) ma_nil)))))) (mq_e m_int)))))
  (mss_one (ms_expr (mx_pop (mp_fld 4 (mp_var 0))))) PassesOwn.never)
  (mss_one (ms_expr (mx_app (mp_fld 4 (mp_var 0)) (me_q (mq_pl (mp_var 2)))))))))
  rw [e_Fitter_add_corners]
  exact fb_mk T.F_Fitter_add_corners sc (b_Fitter_add_corners T) body
theorem sc_Fitter_lower_steep : FnScope (["self", "top", "best", "corner"] : List Str) (["self", "top"] : List Str) (defScope s_Fitter_lower_steep) := ⟨rfl, rfl, rfl, by decide +kernel, rfl, by decide +kernel, by decide +kernel⟩
theorem b_Fitter_lower_steep (T : Txt K mg cl fa fd) : Binds K (fd 13) (["self", "top"] : List Str) [] := T.F_Fitter_lower_steep.binds fun _ _ _ _ _ _ us hl => match us, hl with | [_, _], _ => rfl
theorem ok_Fitter_lower_steep (T : Txt K mg cl fa fd) (h_is_below : FB P w K mg base cl 1 2 (fa 9) F_is_below) (h_rise_over : FB P w K mg base cl 1 2 (fa 8) F_rise_over) : FB P w K mg base cl 2 2 (fa 13) F_Fitter_lower_steep := by
  have sc := sc_Fitter_lower_steep
  have body : ∀ (cdv : Value) (A : Around) (outer : List PySem.Env) (sh : Shared) (H : Hp) (E : XK), Room 1 (A.deeper (envOfC "Fitter.lower_steep" (defScope s_Fitter_lower_steep) sh.heap.objs.size (fa 13) cdv)) → MSs (cxOf CX0 P w K mg base (["self", "top", "best", "corner"] : List Str) "Fitter.lower_steep" (defScope s_Fitter_lower_steep) (fa 13) cdv A outer sh H E).nox cl (fun _ _ => False) (defBody s_Fitter_lower_steep) S_Fitter_lower_steep := fun cdv A outer sh H E hr =>
  (mss_consF (ms_if (mu_t (t_not (t_tru (mq_e (me_n (mn_call h_is_below (hr.mono (by decide)) rfl T.g_is_below T.k_is_below (ma_v (me_n (mn_call h_rise_over (hr.mono (by decide)) rfl T.g_rise_over T.k_rise_over (ma_v (m_ix (mq_pl (mp_fld 6 (mp_var 0))) (mq_e m_int)) (ma_v (me_q (mq_pl (mp_var 1))) ma_nil)))) (ma_v (me_n (mn_call h_rise_over (hr.mono (by decide)) rfl T.g_rise_over T.k_rise_over (ma_v (m_ix (mq_pl (mp_fld 6 (mp_var 0))) (mq_e m_int)) (ma_v (m_ix (mq_pl (mp_fld 6 (mp_var 0))) (mq_e m_int)) ma_nil)))) ma_nil))))))))
  (mss_one ms_retN)
  mss_nil)
  (mss_consF (ms_set 2 sc.nd (mx_e (m_ix (mq_pl (mp_fld 4 (mp_var 0))) (mq_e m_int))))
  (mss_consF (ms_forB PassesOwn.never rfl (mp_fld 4 (mp_var 0)) (mg_name 3 sc.nd)
  (mss_one (ms_ifJ (mu_t (t_tru (mq_e (me_n (mn_call h_is_below (hr.mono (by decide)) rfl T.g_is_below T.k_is_below (ma_v (me_n (mn_call h_rise_over (hr.mono (by decide)) rfl T.g_rise_over T.k_rise_over (ma_v (me_q (mq_pl (mp_var 3))) (ma_v (me_q (mq_pl (mp_var 1))) ma_nil)))) (ma_v (me_n (mn_call h_rise_over (hr.mono (by decide)) rfl T.g_rise_over T.k_rise_over (ma_v (me_q (mq_pl (mp_var 2))) (ma_v (me_q (mq_pl (mp_var 1))) ma_nil)))) ma_nil)))))))
  (mss_one (ms_set 2 sc.nd (mx_e (me_q (mq_pl (mp_var 3))))))
  mss_nil)))
  (mss_one (ms_setF 6 (mp_var 0) (mx_e (m_tup (ma_v (me_q (mq_pl (mp_var 2))) (ma_v (me_q (mq_pl (mp_var 1))) ma_nil)))))))))
  rw [e_Fitter_lower_steep]
  exact fb_mk T.F_Fitter_lower_steep sc (b_Fitter_lower_steep T) body
theorem sc_Fitter_raise_flat : FnScope (["self", "bottom", "best", "corner"] : List Str) (["self", "bottom"] : List Str) (defScope s_Fitter_raise_flat) := ⟨rfl, rfl, rfl, by decide +kernel, rfl, by decide +kernel, by decide +kernel⟩
theorem b_Fitter_raise_flat (T : Txt K mg cl fa fd) : Binds K (fd 14) (["self", "bottom"] : List Str) [] := T.F_Fitter_raise_flat.binds fun _ _ _ _ _ _ us hl => match us, hl with | [_, _], _ => rfl
theorem ok_Fitter_raise_flat (T : Txt K mg cl fa fd) (h_is_below : FB P w K mg base cl 1 2 (fa 9) F_is_below) (h_rise_over : FB P w K mg base cl 1 2 (fa 8) F_rise_over) : FB P w K mg base cl 2 2 (fa 14) F_Fitter_raise_flat := by
  have sc := sc_Fitter_raise_flat
  have body : ∀ (cdv : Value) (A : Around) (outer : List PySem.Env) (sh : Shared) (H : Hp) (E : XK), Room 1 (A.deeper (envOfC "Fitter.raise_flat" (defScope s_Fitter_raise_flat) sh.heap.objs.size (fa 14) cdv)) → MSs (cxOf CX0 P w K mg base (["self", "bottom", "best", "corner"] : List Str) "Fitter.raise_flat" (defScope s_Fitter_raise_flat) (fa 14) cdv A outer sh H E).nox cl (fun _ _ => False) (defBody s_Fitter_raise_flat) S_Fitter_raise_flat := fun cdv A outer sh H E hr =>
  (mss_consF (ms_if (mu_t (t_not (t_tru (mq_e (me_n (mn_call h_is_below (hr.mono (by decide)) rfl T.g_is_below T.k_is_below (ma_v (me_n (mn_call h_rise_over (hr.mono (by decide)) rfl T.g_rise_over T.k_rise_over (ma_v (m_ix (mq_pl (mp_fld 5 (mp_var 0))) (mq_e m_int)) (ma_v (m_ix (mq_pl (mp_fld 5 (mp_var 0))) (mq_e m_int)) ma_nil)))) (ma_v (me_n (mn_call h_rise_over (hr.mono (by decide)) rfl T.g_rise_over T.k_rise_over (ma_v (m_ix (mq_pl (mp_fld 5 (mp_var 0))) (mq_e m_int)) (ma_v (me_q (mq_pl (mp_var 1))) ma_nil)))) ma_nil))))))))
  (mss_one ms_retN)
  mss_nil)
  (mss_consF (ms_set 2 sc.nd (mx_e (m_ix (mq_pl (mp_fld 3 (mp_var 0))) (mq_e m_int))))
  (mss_consF (ms_forB PassesOwn.never rfl (mp_fld 3 (mp_var 0)) (mg_name 3 sc.nd)
  (mss_one (ms_ifJ (mu_t (t_tru (mq_e (me_n (mn_call h_is_below (hr.mono (by decide)) rfl T.g_is_below T.k_is_below (ma_v (me_n (mn_call h_rise_over (hr.mono (by decide)) rfl T.g_rise_over T.k_rise_over (ma_v (me_q (mq_pl (mp_var 2))) (ma_v (me_q (mq_pl (mp_var 1))) ma_nil)))) (ma_v (me_n (mn_call h_rise_over (hr.mono (by decide)) rfl T.g_rise_over T.k_rise_over (ma_v (me_q (mq_pl (mp_var 3))) (ma_v (me_q (mq_pl (mp_var 1))) ma_nil)))) ma_nil)))))))
  (mss_one (ms_set 2 sc.nd (mx_e (me_q (mq_pl (mp_var 3))))))
  mss_nil)))
  (mss_one (ms_setF 5 (mp_var 0) (mx_e (m_tup (ma_v (me_q (mq_pl (mp_var 2))) (ma_v (me_q (mq_pl (mp_var 1))) ma_nil)))))))))
  rw [e_Fitter_raise_flat]
  exact fb_mk T.F_Fitter_raise_flat sc (b_Fitter_raise_flat T) body
theorem sc_Fitter_add : FnScope (["self", "point", "top", "bottom"] : List Str) (["self", "point"] : List Str) (defScope s_Fitter_add) := ⟨rfl, rfl, rfl, by decide +kernel, rfl, by decide +kernel, by decide +kernel⟩
theorem b_Fitter_add (T : Txt K mg cl fa fd) : Binds K (fd 15) (["self", "point"] : List Str) [] := T.F_Fitter_add.binds fun _ _ _ _ _ _ us hl => match us, hl with | [_, _], _ => rfl
theorem ok_Fitter_add (T : Txt K mg cl fa fd) (h_Fitter_add_corners : FB P w K mg base cl 2 3 (fa 12) F_Fitter_add_corners) (h_Fitter_conflict : FB P w K mg base cl 2 2 (fa 11) F_Fitter_conflict) (h_Fitter_lower_steep : FB P w K mg base cl 2 2 (fa 13) F_Fitter_lower_steep) (h_Fitter_raise_flat : FB P w K mg base cl 2 2 (fa 14) F_Fitter_raise_flat) : FB P w K mg base cl 3 2 (fa 15) F_Fitter_add := by
  have sc := sc_Fitter_add
  have body : ∀ (cdv : Value) (A : Around) (outer : List PySem.Env) (sh : Shared) (H : Hp) (E : XK), Room 2 (A.deeper (envOfC "Fitter.add" (defScope s_Fitter_add) sh.heap.objs.size (fa 15) cdv)) → MSs (cxOf CX0 P w K mg base (["self", "point", "top", "bottom"] : List Str) "Fitter.add" (defScope s_Fitter_add) (fa 15) cdv A outer sh H E).nox cl (fun _ _ => False) (defBody s_Fitter_add) S_Fitter_add := fun cdv A outer sh H E hr =>
  (mss_consF (ms_if (mu_t (t_cmp gc_isnot (mq_e (me_n (mn_meth 0 h_Fitter_conflict (hr.mono (by decide)) (mr_br (mp_var 0)) T.c_Fitter.2.1 T.me_Fitter_conflict (by decide +kernel) (ma_v (me_q (mq_pl (mp_var 1))) ma_nil)))) (mq_e m_non)))
  (mss_one (ms_ret (mx_e m_bl)))
  mss_nil)
  (mss_consF (ms_set 2 sc.nd (mx_e (m_tup (ma_v (m_ix (mq_pl (mp_var 1)) (mq_e m_int)) (ma_v (m_add (mq_e (m_ix (mq_pl (mp_var 1)) (mq_e m_int))) (mq_pl (mp_fld 0 (mp_var 0)))) (ma_v (me_q (mq_pl (mp_fld 1 (mp_var 0)))) ma_nil))))))
  (mss_consF (ms_set 3 sc.nd (mx_e (m_tup (ma_v (m_ix (mq_pl (mp_var 1)) (mq_e m_int)) (ma_v (m_subI (mq_e (m_ix (mq_pl (mp_var 1)) (mq_e m_int))) (mq_pl (mp_fld 0 (mp_var 0)))) (ma_v (me_q (mq_pl (mp_fld 1 (mp_var 0)))) ma_nil))))))
  (mss_consF (ms_ifJ (mu_t (t_cmp (gc_eq hr.units) (mq_pl (mp_fld 1 (mp_var 0))) (mq_e m_int)))
  (mss_consF (ms_setF 5 (mp_var 0) (mx_e (m_tup (ma_v (m_ix (mq_pl (mp_fld 3 (mp_var 0))) (mq_e m_int)) (ma_v (me_q (mq_pl (mp_var 3))) ma_nil)))))
  (mss_one (ms_setF 6 (mp_var 0) (mx_e (m_tup (ma_v (m_ix (mq_pl (mp_fld 4 (mp_var 0))) (mq_e m_int)) (ma_v (me_q (mq_pl (mp_var 2))) ma_nil)))))))
  (mss_one (ms_ifJ (mu_t (t_cmp gc_gt (mq_pl (mp_fld 1 (mp_var 0))) (mq_e m_int)))
  (mss_consF (ms_expr (mx_meth 0 h_Fitter_lower_steep (hr.mono (by decide)) (mr_mu (mp_var 0)) T.c_Fitter.2.1 T.me_Fitter_lower_steep (by decide +kernel) (ma_v (me_q (mq_pl (mp_var 2))) ma_nil)))
  (mss_one (ms_expr (mx_meth 0 h_Fitter_raise_flat (hr.mono (by decide)) (mr_mu (mp_var 0)) T.c_Fitter.2.1 T.me_Fitter_raise_flat (by decide +kernel) (ma_v (me_q (mq_pl (mp_var 3))) ma_nil)))))
  mss_nil)))
  (mss_consF (ms_expr (mx_meth 0 h_Fitter_add_corners (hr.mono (by decide)) (mr_mu (mp_var 0)) T.c_Fitter.2.1 T.me_Fitter_add_corners (by decide +kernel) (ma_v (me_q (mq_pl (mp_var 2))) (ma_v (me_q (mq_pl (mp_var 3))) ma_nil))))
  (mss_consF (ms_expr (mx_app (mp_fld 2 (mp_var 0)) (me_q (mq_pl (mp_var 1)))))
  (mss_consF (ms_augF 1 gi_iadd (mp_var 0) (mq_e m_int))
  (mss_one (ms_ret (mx_e m_bl))))))))))
  rw [e_Fitter_add]
  exact fb_mk T.F_Fitter_add sc (b_Fitter_add T) body
theorem sc_Fitter_span_at : FnScope (["self", "place"] : List Str) (["self", "place"] : List Str) (defScope s_Fitter_span_at) := ⟨rfl, rfl, rfl, by decide +kernel, rfl, by decide +kernel, by decide +kernel⟩
theorem b_Fitter_span_at (T : Txt K mg cl fa fd) : Binds K (fd 16) (["self", "place"] : List Str) [] := T.F_Fitter_span_at.binds fun _ _ _ _ _ _ us hl => match us, hl with | [_, _], _ => rfl
theorem ok_Fitter_span_at (T : Txt K mg cl fa fd) (h_wall : FB P w K mg base cl 1 1 (fa 0) F_wall) : FB P w K mg base cl 2 2 (fa 16) F_Fitter_span_at := by
  have sc := sc_Fitter_span_at
  have body : ∀ (cdv : Value) (A : Around) (outer : List PySem.Env) (sh : Shared) (H : Hp) (E : XK), Room 1 (A.deeper (envOfC "Fitter.span_at" (defScope s_Fitter_span_at) sh.heap.objs.size (fa 16) cdv)) → MSs (cxOf CX0 P w K mg base (["self", "place"] : List Str) "Fitter.span_at" (defScope s_Fitter_span_at) (fa 16) cdv A outer sh H E).nox cl (fun _ _ => False) (defBody s_Fitter_span_at) S_Fitter_span_at := fun cdv A outer sh H E hr =>
  (mss_one (ms_expr (mx_n (mn_call h_wall (hr.mono (by decide)) rfl T.g_wall T.k_wall (ma_v m_int ma_nil)))))
  rw [e_Fitter_span_at]
  exact fb_mk T.F_Fitter_span_at sc (b_Fitter_span_at T) body
theorem sc_Fitter_line : FnScope (["self", "lower", "upper", "slope"] : List Str) (["self"] : List Str) (defScope s_Fitter_line) := ⟨rfl, rfl, rfl, by decide +kernel, rfl, by decide +kernel, by decide +kernel⟩
theorem b_Fitter_line (T : Txt K mg cl fa fd) : Binds K (fd 17) (["self"] : List Str) [] := T.F_Fitter_line.binds fun _ _ _ _ _ _ us hl => match us, hl with | [_], _ => rfl
theorem ok_Fitter_line (T : Txt K mg cl fa fd) (h_fraction : FB P w K mg base cl 2 2 (fa 4) F_fraction) (h_line_with_slope : FB P w K mg base cl 1 3 (fa 6) F_line_with_slope) (h_rise_over : FB P w K mg base cl 1 2 (fa 8) F_rise_over) (h_slope_between : FB P w K mg base cl 1 2 (fa 5) F_slope_between) : FB P w K mg base cl 3 1 (fa 17) F_Fitter_line := by
  have sc := sc_Fitter_line
  have body : ∀ (cdv : Value) (A : Around) (outer : List PySem.Env) (sh : Shared) (H : Hp) (E : XK), Room 2 (A.deeper (envOfC "Fitter.line" (defScope s_Fitter_line) sh.heap.objs.size (fa 17) cdv)) → MSs (cxOf CX0 P w K mg base (["self", "lower", "upper", "slope"] : List Str) "Fitter.line" (defScope s_Fitter_line) (fa 17) cdv A outer sh H E).nox cl (fun _ _ => False) (defBody s_Fitter_line) S_Fitter_line := fun cdv A outer sh H E hr =>
  (mss_consF (ms_if (mu_t (t_cmp (gc_eq hr.units) (mq_pl (mp_fld 1 (mp_var 0))) (mq_e m_int)))
  (mss_one (ms_ret (mx_e (m_tup (ma_v m_int (ma_v m_int (ma_v m_int ma_nil)))))))
  mss_nil)
  (mss_consF (ms_if (mu_t (t_cmp (gc_eq hr.units) (mq_pl (mp_fld 1 (mp_var 0))) (mq_e m_int)))
  (mss_one (ms_ret (mx_e (m_tup (ma_v m_int (ma_v (m_ix (mq_e (m_ix (mq_pl (mp_fld 2 (mp_var 0))) (mq_e m_int))) (mq_e m_int)) (ma_v m_int ma_nil)))))))
  mss_nil)
  (mss_consF (ms_set 1 sc.nd (mx_e (me_n (mn_call h_rise_over (hr.mono (by decide)) rfl T.g_rise_over T.k_rise_over (ma_v (m_ix (mq_pl (mp_fld 5 (mp_var 0))) (mq_e m_int)) (ma_v (m_ix (mq_pl (mp_fld 5 (mp_var 0))) (mq_e m_int)) ma_nil))))))
  (mss_consF (ms_set 2 sc.nd (mx_e (me_n (mn_call h_rise_over (hr.mono (by decide)) rfl T.g_rise_over T.k_rise_over (ma_v (m_ix (mq_pl (mp_fld 6 (mp_var 0))) (mq_e m_int)) (ma_v (m_ix (mq_pl (mp_fld 6 (mp_var 0))) (mq_e m_int)) ma_nil))))))
  (mss_consF (ms_set 3 sc.nd (mx_e (me_n (mn_call h_slope_between (hr.mono (by decide)) rfl T.g_slope_between T.k_slope_between (ma_v (me_n (mn_call h_fraction (hr.mono (by decide)) rfl T.g_fraction T.k_fraction (ma_v (m_ix (mq_pl (mp_var 1)) (mq_e m_int)) (ma_v (m_ix (mq_pl (mp_var 1)) (mq_e m_int)) ma_nil)))) (ma_v (me_n (mn_call h_fraction (hr.mono (by decide)) rfl T.g_fraction T.k_fraction (ma_v (m_ix (mq_pl (mp_var 2)) (mq_e m_int)) (ma_v (m_ix (mq_pl (mp_var 2)) (mq_e m_int)) ma_nil)))) ma_nil))))))
  (mss_one (ms_ret (mx_n (mn_call h_line_with_slope (hr.mono (by decide)) rfl T.g_line_with_slope T.k_line_with_slope (ma_br (mp_fld 2 (mp_var 0)) (ma_v (me_q (mq_pl (mp_fld 0 (mp_var 0)))) (ma_v (me_q (mq_pl (mp_var 3))) ma_nil))))))))))))
  rw [e_Fitter_line]
  exact fb_mk T.F_Fitter_line sc (b_Fitter_line T) body
theorem sc_Cutting_init__ : FnScope (["self", "pieces", "reasons"] : List Str) (["self", "pieces", "reasons"] : List Str) (defScope s_Cutting_init__) := ⟨rfl, rfl, rfl, by decide +kernel, rfl, by decide +kernel, by decide +kernel⟩
theorem b_Cutting_init__ (T : Txt K mg cl fa fd) : Binds K (fd 18) (["self", "pieces", "reasons"] : List Str) [] := T.F_Cutting_init__.binds fun _ _ _ _ _ _ us hl => match us, hl with | [_, _, _], _ => rfl
theorem ok_Cutting_init__ (T : Txt K mg cl fa fd) : FB P w K mg base cl 1 3 (fa 18) F_Cutting_init__ := by
  have sc := sc_Cutting_init__
  have body : ∀ (cdv : Value) (A : Around) (outer : List PySem.Env) (sh : Shared) (H : Hp) (E : XK), Room 0 (A.deeper (envOfC "Cutting.__init__" (defScope s_Cutting_init__) sh.heap.objs.size (fa 18) cdv)) → MSs (cxOf CX0 P w K mg base (["self", "pieces", "reasons"] : List Str) "Cutting.__init__" (defScope s_Cutting_init__) (fa 18) cdv A outer sh H E).nox cl (fun _ _ => False) (defBody s_Cutting_init__) S_Cutting_init__ := fun cdv A outer sh H E hr =>
  (mss_consF (ms_setF 7 (mp_var 0) (mx_n (mn_list rfl T.z_list (by decide +kernel) (mq_pl (mp_var 1)))))
  (mss_one (ms_setF 8 (mp_var 0) (mx_n (mn_list rfl T.z_list (by decide +kernel) (mq_pl (mp_var 2)))))))
  rw [e_Cutting_init__]
  exact fb_mk T.F_Cutting_init__ sc (b_Cutting_init__ T) body
theorem sc_cut : FnScope (["points", "error", "pieces", "reasons", "start", "fitter", "position", "point", "found"] : List Str) (["points", "error"] : List Str) (defScope s_cut) := ⟨rfl, rfl, rfl, by decide +kernel, rfl, by decide +kernel, by decide +kernel⟩
theorem b_cut (T : Txt K mg cl fa fd) : Binds K (fd 19) (["points", "error"] : List Str) [] := T.F_cut.binds fun _ _ _ _ _ _ us hl => match us, hl with | [_, _], _ => rfl
theorem ok_cut (T : Txt K mg cl fa fd) (h_Cutting_init__ : FB P w K mg base cl 1 3 (fa 18) F_Cutting_init__) (h_Fitter_init__ : FB P w K mg base cl 1 2 (fa 10) F_Fitter_init__) (h_Fitter_add : FB P w K mg base cl 3 2 (fa 15) F_Fitter_add) (h_Fitter_conflict : FB P w K mg base cl 2 2 (fa 11) F_Fitter_conflict) (h_Fitter_line : FB P w K mg base cl 3 1 (fa 17) F_Fitter_line) : FB P w K mg base cl 4 2 (fa 19) F_cut := by
  have sc := sc_cut
  have body : ∀ (cdv : Value) (A : Around) (outer : List PySem.Env) (sh : Shared) (H : Hp) (E : XK), Room 3 (A.deeper (envOfC "cut" (defScope s_cut) sh.heap.objs.size (fa 19) cdv)) → MSs (cxOf CX0 P w K mg base (["points", "error", "pieces", "reasons", "start", "fitter", "position", "point", "found"] : List Str) "cut" (defScope s_cut) (fa 19) cdv A outer sh H E).nox cl (fun _ _ => False) (defBody s_cut) S_cut := fun cdv A outer sh H E hr =>
  (mss_consF (ms_set 2 sc.nd (mx_n (mn_lst ma_nil)))
  (mss_consF (ms_set 3 sc.nd (mx_n (mn_lst ma_nil)))
  (mss_consF (ms_set 4 sc.nd (mx_e m_int))
  (mss_consF (ms_set 5 sc.nd (mx_n (mn_make 0 h_Fitter_init__ (hr.mono (by decide)) T.m_Fitter T.c_Fitter rfl T.g_Fitter (ma_v (me_q (mq_pl (mp_var 1))) ma_nil))))
  (mss_consF (ms_for PassesOwn.never rfl (mi_enum rfl T.z_enumerate (me_q (mq_pl (mp_var 0)))) (mg_tup rfl (mgs_cons (mg_name 6 sc.nd) (mgs_cons (mg_name 7 sc.nd) mgs_nil)))
  (mss_consF (ms_set 8 sc.nd (mx_e (me_n (mn_meth 0 h_Fitter_conflict (hr.mono (by decide)) (mr_br (mp_var 5)) T.c_Fitter.2.1 T.me_Fitter_conflict (by decide +kernel) (ma_v (me_q (mq_pl (mp_var 7))) ma_nil)))))
  (mss_consF (ms_ifJ (mu_t (t_cmp gc_isnot (mq_pl (mp_var 8)) (mq_e m_non)))
  (mss_consF (ms_expr (mx_app (mp_var 2) (m_tup (ma_v (me_q (mq_pl (mp_var 4))) (ma_v (me_n (mn_meth0 0 h_Fitter_line (hr.mono (by decide)) (mr_br (mp_var 5)) T.c_Fitter.2.1 T.me_Fitter_line (by decide +kernel))) ma_nil)))))
  (mss_consF (ms_expr (mx_app (mp_var 3) (m_tup (ma_v (m_add (mq_pl (mp_var 4)) (mq_e (m_ix (mq_pl (mp_var 8)) (mq_e m_int)))) (ma_v (m_add (mq_pl (mp_var 4)) (mq_e (m_ix (mq_pl (mp_var 8)) (mq_e m_int)))) (ma_v (me_q (mq_pl (mp_var 6))) ma_nil))))))
  (mss_consF (ms_set 4 sc.nd (mx_e (me_q (mq_pl (mp_var 6)))))
  (mss_one (ms_set 5 sc.nd (mx_n (mn_make 0 h_Fitter_init__ (hr.mono (by decide)) T.m_Fitter T.c_Fitter rfl T.g_Fitter (ma_v (me_q (mq_pl (mp_var 1))) ma_nil))))))))
  mss_nil)
  (mss_one (ms_expr (mx_meth 0 h_Fitter_add (hr.mono (by decide)) (mr_mu (mp_var 5)) T.c_Fitter.2.1 T.me_Fitter_add (by decide +kernel) (ma_v (me_q (mq_pl (mp_var 7))) ma_nil)))))))
  (mss_consF (ms_ifJ (mu_t (t_tru (mq_pl (mp_var 0))))
  (mss_one (ms_expr (mx_app (mp_var 2) (m_tup (ma_v (me_q (mq_pl (mp_var 4))) (ma_v (me_n (mn_meth0 0 h_Fitter_line (hr.mono (by decide)) (mr_br (mp_var 5)) T.c_Fitter.2.1 T.me_Fitter_line (by decide +kernel))) ma_nil))))))
  mss_nil)
  (mss_one (ms_ret (mx_n (mn_make 1 h_Cutting_init__ (hr.mono (by decide)) T.m_Cutting T.c_Cutting rfl T.g_Cutting (ma_br (mp_var 2) (ma_br (mp_var 3) ma_nil))))))))))))
  rw [e_cut]
  exact fb_mk T.F_cut sc (b_cut T) body
theorem sc_Level_init__ : FnScope (["self", "marks", "error", "position", "key"] : List Str) (["self", "marks", "error"] : List Str) (defScope s_Level_init__) := ⟨rfl, rfl, rfl, by decide +kernel, rfl, by decide +kernel, by decide +kernel⟩
theorem b_Level_init__ (T : Txt K mg cl fa fd) : Binds K (fd 20) (["self", "marks", "error"] : List Str) [] := T.F_Level_init__.binds fun _ _ _ _ _ _ us hl => match us, hl with | [_, _, _], _ => rfl
theorem ok_Level_init__ (T : Txt K mg cl fa fd) (h_cut : FB P w K mg base cl 4 2 (fa 19) F_cut) : FB P w K mg base cl 5 3 (fa 20) F_Level_init__ := by
  have sc := sc_Level_init__
  have body : ∀ (cdv : Value) (A : Around) (outer : List PySem.Env) (sh : Shared) (H : Hp) (E : XK), Room 4 (A.deeper (envOfC "Level.__init__" (defScope s_Level_init__) sh.heap.objs.size (fa 20) cdv)) → MSs (cxOf CX0 P w K mg base (["self", "marks", "error", "position", "key"] : List Str) "Level.__init__" (defScope s_Level_init__) (fa 20) cdv A outer sh H E).nox cl (fun _ _ => False) (defBody s_Level_init__) S_Level_init__ := fun cdv A outer sh H E hr =>
  (mss_consF (ms_setF 9 (mp_var 0) (mx_e (me_q (mq_pl (mp_var 1)))))
  (mss_consF (ms_setF 0 (mp_var 0) (mx_e (me_q (mq_pl (mp_var 2)))))
  (mss_one (ms_setF 7 (mp_var 0) (mx_e (m_fld 7 (me_n (mn_call h_cut (hr.mono (by decide)) rfl T.g_cut T.k_cut (ma_v (me_n (mn_lc (own := ([("position", 3), ("key", 4)] : List (Str × Nat))) rfl sc.nd ⟨(mj_enum rfl T.z_enumerate (mq_pl (mp_var 1))), blkOk_by (N := ["self", "marks", "error", "position", "key"]) (sc := defScope s_Level_init__) (by first | decide +kernel | rfl), ⟨[3, 4], by decide, fun _ _ _ _ _ => (mg_tup rfl (mgs_cons (mg_name 3 sc.nd) (mgs_cons (mg_name 4 sc.nd) mgs_nil)))⟩, fun _ _ _ _ _ => mts_nil, fun _ _ _ _ _ => (m_tup (ma_v (me_q (mq_pl (mp_var 4))) (ma_v (me_q (mq_pl (mp_var 3))) ma_nil))), ⟨sh, H⟩⟩)) (ma_v (me_q (mq_pl (mp_var 2))) ma_nil))))))))))
  rw [e_Level_init__]
  exact fb_mk T.F_Level_init__ sc (b_Level_init__ T) body
theorem sc_Level_end_of : FnScope (["self", "number"] : List Str) (["self", "number"] : List Str) (defScope s_Level_end_of) := ⟨rfl, rfl, rfl, by decide +kernel, rfl, by decide +kernel, by decide +kernel⟩
theorem b_Level_end_of (T : Txt K mg cl fa fd) : Binds K (fd 21) (["self", "number"] : List Str) [] := T.F_Level_end_of.binds fun _ _ _ _ _ _ us hl => match us, hl with | [_, _], _ => rfl
theorem ok_Level_end_of (T : Txt K mg cl fa fd) : FB P w K mg base cl 1 2 (fa 21) F_Level_end_of := by
  have sc := sc_Level_end_of
  have body : ∀ (cdv : Value) (A : Around) (outer : List PySem.Env) (sh : Shared) (H : Hp) (E : XK), Room 0 (A.deeper (envOfC "Level.end_of" (defScope s_Level_end_of) sh.heap.objs.size (fa 21) cdv)) → MSs (cxOf CX0 P w K mg base (["self", "number"] : List Str) "Level.end_of" (defScope s_Level_end_of) (fa 21) cdv A outer sh H E).nox cl (fun _ _ => False) (defBody s_Level_end_of) S_Level_end_of := fun cdv A outer sh H E hr =>
  (mss_consF (ms_if (mu_t (t_cmp gc_lt (mq_e (m_add (mq_pl (mp_var 1)) (mq_e m_int))) (mq_e (m_callB gb_len rfl T.z_len (by decide +kernel) (mq_pl (mp_fld 7 (mp_var 0)))))))
  (mss_one (ms_ret (mx_e (m_ix (mq_e (m_ix (mq_pl (mp_fld 7 (mp_var 0))) (mq_e (m_add (mq_pl (mp_var 1)) (mq_e m_int))))) (mq_e m_int)))))
  mss_nil)
  (mss_one (ms_ret (mx_n (mn_e (m_callB gb_len rfl T.z_len (by decide +kernel) (mq_pl (mp_fld 9 (mp_var 0)))))))))
  rw [e_Level_end_of]
  exact fb_mk T.F_Level_end_of sc (b_Level_end_of T) body
theorem sc_Level_find : FnScope (["self", "number", "x", "depth", "looks", "start", "line", "last", "low", "high", "middle"] : List Str) (["self", "number", "x", "depth", "looks"] : List Str) (defScope s_Level_find) := ⟨rfl, rfl, rfl, by decide +kernel, rfl, by decide +kernel, by decide +kernel⟩
theorem b_Level_find (T : Txt K mg cl fa fd) : Binds K (fd 22) (["self", "number", "x", "depth", "looks"] : List Str) [] := T.F_Level_find.binds fun _ _ _ _ _ _ us hl => match us, hl with | [_, _, _, _, _], _ => rfl
theorem ok_Level_find (T : Txt K mg cl fa fd) (h_Level_end_of : FB P w K mg base cl 1 2 (fa 21) F_Level_end_of) (h_ceiling_at : FB P w K mg base cl 1 2 (fa 3) F_ceiling_at) (h_floor_at : FB P w K mg base cl 1 2 (fa 2) F_floor_at) : FB P w K mg base cl 2 5 (fa 22) F_Level_find := by
  have sc := sc_Level_find
  have body : ∀ (cdv : Value) (A : Around) (outer : List PySem.Env) (sh : Shared) (H : Hp) (E : XK), Room 1 (A.deeper (envOfC "Level.find" (defScope s_Level_find) sh.heap.objs.size (fa 22) cdv)) → MSs (cxOf CX0 P w K mg base (["self", "number", "x", "depth", "looks", "start", "line", "last", "low", "high", "middle"] : List Str) "Level.find" (defScope s_Level_find) (fa 22) cdv A outer sh H E).nox cl (fun _ _ => False) (defBody s_Level_find) S_Level_find := fun cdv A outer sh H E hr =>
  (mss_consF (ms_asg (mx_e (m_ix (mq_pl (mp_fld 7 (mp_var 0))) (mq_pl (mp_var 1)))) (mg_tup rfl (mgs_cons (mg_name 5 sc.nd) (mgs_cons (mg_name 6 sc.nd) mgs_nil))))
  (mss_consF (ms_set 7 sc.nd (mx_e (m_subI (mq_e (me_n (mn_meth 4 h_Level_end_of (hr.mono (by decide)) (mr_br (mp_var 0)) T.c_Level.2.1 T.me_Level_end_of (by decide +kernel) (ma_v (me_q (mq_pl (mp_var 1))) ma_nil)))) (mq_e m_int))))
  (mss_consF (ms_set 8 sc.nd (mx_e (m_callB2 (gb_min2 rfl) rfl T.z_min (by decide +kernel) (mq_pl (mp_var 7)) (mq_e (m_callB2 (gb_max2 rfl) rfl T.z_max (by decide +kernel) (mq_pl (mp_var 5)) (mq_e (m_subI (mq_e (m_subI (mq_e (me_n (mn_call h_ceiling_at (hr.mono (by decide)) rfl T.g_ceiling_at T.k_ceiling_at (ma_v (me_q (mq_pl (mp_var 6))) (ma_v (me_q (mq_pl (mp_var 2))) ma_nil))))) (mq_e m_int))) (mq_pl (mp_fld 0 (mp_var 0))))))))))
  (mss_consF (ms_set 9 sc.nd (mx_e (m_callB2 (gb_min2 rfl) rfl T.z_min (by decide +kernel) (mq_pl (mp_var 7)) (mq_e (m_add (mq_e (me_n (mn_call h_floor_at (hr.mono (by decide)) rfl T.g_floor_at T.k_floor_at (ma_v (me_q (mq_pl (mp_var 6))) (ma_v (me_q (mq_pl (mp_var 2))) ma_nil))))) (mq_pl (mp_fld 0 (mp_var 0))))))))
  (mss_consF (ms_while (t_cmp gc_lt (mq_pl (mp_var 8)) (mq_pl (mp_var 9)))
  (mss_consF (ms_set 10 sc.nd (mx_e (m_divI (mq_e (m_add (mq_e (m_add (mq_pl (mp_var 8)) (mq_pl (mp_var 9)))) (mq_e m_int))) (mq_e m_int))))
  (mss_consF (ms_expr (mx_app (mp_var 4) (m_tup (ma_v (me_q (mq_pl (mp_var 3))) (ma_v (me_q (mq_pl (mp_var 10))) ma_nil)))))
  (mss_one (ms_ifJ (mu_t (t_cmp gc_le (mq_e (m_ix (mq_pl (mp_fld 9 (mp_var 0))) (mq_pl (mp_var 10)))) (mq_pl (mp_var 2))))
  (mss_one (ms_set 8 sc.nd (mx_e (me_q (mq_pl (mp_var 10))))))
  (mss_one (ms_set 9 sc.nd (mx_e (m_subI (mq_pl (mp_var 10)) (mq_e m_int))))))))) PassesOwn.never)
  (mss_one (ms_ret (mx_e (me_q (mq_pl (mp_var 8)))))))))))
  rw [e_Level_find]
  exact fb_mk T.F_Level_find sc (b_Level_find T) body
theorem sc_Index_init__ : FnScope (["self", "stored", "error", "upper", "below", "start", "line"] : List Str) (["self", "stored", "error", "upper"] : List Str) (defScope s_Index_init__) := ⟨rfl, rfl, rfl, by decide +kernel, rfl, by decide +kernel, by decide +kernel⟩
theorem b_Index_init__ (T : Txt K mg cl fa fd) : Binds K (fd 23) (["self", "stored", "error", "upper"] : List Str) [] := T.F_Index_init__.binds fun _ _ _ _ _ _ us hl => match us, hl with | [_, _, _, _], _ => rfl
theorem ok_Index_init__ (T : Txt K mg cl fa fd) (h_Level_init__ : FB P w K mg base cl 5 3 (fa 20) F_Level_init__) : FB P w K mg base cl 7 4 (fa 23) F_Index_init__ := by
  have sc := sc_Index_init__
  have body : ∀ (cdv : Value) (A : Around) (outer : List PySem.Env) (sh : Shared) (H : Hp) (E : XK), Room 6 (A.deeper (envOfC "Index.__init__" (defScope s_Index_init__) sh.heap.objs.size (fa 23) cdv)) → MSs (cxOf CX0 P w K mg base (["self", "stored", "error", "upper", "below", "start", "line"] : List Str) "Index.__init__" (defScope s_Index_init__) (fa 23) cdv A outer sh H E).nox cl (fun _ _ => False) (defBody s_Index_init__) S_Index_init__ := fun cdv A outer sh H E hr =>
  (mss_consF (ms_setF 10 (mp_var 0) (mx_e (m_callT gb_list rfl T.z_list (by decide +kernel) (mq_pl (mp_var 1)))))
  (mss_consF (ms_setF 11 (mp_var 0) (mx_n (mn_lst (ma_v (me_n (mn_make 4 h_Level_init__ (hr.mono (by decide)) T.m_Level T.c_Level rfl T.g_Level (ma_v (me_q (mq_pl (mp_fld 10 (mp_var 0)))) (ma_v (me_q (mq_pl (mp_var 2))) ma_nil)))) ma_nil))))
  (mss_one (ms_while (t_cmp gc_gt (mq_e (m_callB gb_len rfl T.z_len (by decide +kernel) (mq_e (m_fld 7 (m_ix (mq_pl (mp_fld 11 (mp_var 0))) (mq_e (m_neg (mq_e m_int)))))))) (mq_e m_int))
  (mss_consF (ms_set 4 sc.nd (mx_e (m_ix (mq_pl (mp_fld 11 (mp_var 0))) (mq_e (m_neg (mq_e m_int))))))
  (mss_one (ms_expr (mx_app (mp_fld 11 (mp_var 0)) (me_n (mn_make 4 h_Level_init__ (hr.mono (by decide)) T.m_Level T.c_Level rfl T.g_Level (ma_v (me_n (mn_lc (own := ([("start", 5), ("line", 6)] : List (Str × Nat))) rfl sc.nd ⟨(mj_any (mq_pl (mp_fld 7 (mp_var 4)))), blkOk_by (N := ["self", "stored", "error", "upper", "below", "start", "line"]) (sc := defScope s_Index_init__) (by first | decide +kernel | rfl), ⟨[5, 6], by decide, fun _ _ _ _ _ => (mg_tup rfl (mgs_cons (mg_name 5 sc.nd) (mgs_cons (mg_name 6 sc.nd) mgs_nil)))⟩, fun _ _ _ _ _ => mts_nil, fun _ _ _ _ _ => (m_ix (mq_pl (mp_fld 9 (mp_var 4))) (mq_pl (mp_var 5))), ⟨sh, H⟩⟩)) (ma_v (me_q (mq_pl (mp_var 3))) ma_nil)))))))) PassesOwn.never))))
  rw [e_Index_init__]
  exact fb_mk T.F_Index_init__ sc (b_Index_init__ T) body
theorem sc_Index_level_keys : FnScope (["self"] : List Str) (["self"] : List Str) (defScope s_Index_level_keys) := ⟨rfl, rfl, rfl, by decide +kernel, rfl, by decide +kernel, by decide +kernel⟩
theorem b_Index_level_keys (T : Txt K mg cl fa fd) : Binds K (fd 24) (["self"] : List Str) [] := T.F_Index_level_keys.binds fun _ _ _ _ _ _ us hl => match us, hl with | [_], _ => rfl
theorem ok_Index_level_keys (T : Txt K mg cl fa fd) (h_wall : FB P w K mg base cl 1 1 (fa 0) F_wall) : FB P w K mg base cl 2 1 (fa 24) F_Index_level_keys := by
  have sc := sc_Index_level_keys
  have body : ∀ (cdv : Value) (A : Around) (outer : List PySem.Env) (sh : Shared) (H : Hp) (E : XK), Room 1 (A.deeper (envOfC "Index.level_keys" (defScope s_Index_level_keys) sh.heap.objs.size (fa 24) cdv)) → MSs (cxOf CX0 P w K mg base (["self"] : List Str) "Index.level_keys" (defScope s_Index_level_keys) (fa 24) cdv A outer sh H E).nox cl (fun _ _ => False) (defBody s_Index_level_keys) S_Index_level_keys := fun cdv A outer sh H E hr =>
  (mss_one (ms_expr (mx_n (mn_call h_wall (hr.mono (by decide)) rfl T.g_wall T.k_wall (ma_v m_int ma_nil)))))
  rw [e_Index_level_keys]
  exact fb_mk T.F_Index_level_keys sc (b_Index_level_keys T) body
theorem sc_Index_pieces : FnScope (["self", "level"] : List Str) (["self"] : List Str) (defScope s_Index_pieces) := ⟨rfl, rfl, rfl, by decide +kernel, rfl, by decide +kernel, by decide +kernel⟩
theorem b_Index_pieces (T : Txt K mg cl fa fd) : Binds K (fd 25) (["self"] : List Str) [] := T.F_Index_pieces.binds fun _ _ _ _ _ _ us hl => match us, hl with | [_], _ => rfl
theorem ok_Index_pieces (T : Txt K mg cl fa fd) : FB P w K mg base cl 1 1 (fa 25) F_Index_pieces := by
  have sc := sc_Index_pieces
  have body : ∀ (cdv : Value) (A : Around) (outer : List PySem.Env) (sh : Shared) (H : Hp) (E : XK), Room 0 (A.deeper (envOfC "Index.pieces" (defScope s_Index_pieces) sh.heap.objs.size (fa 25) cdv)) → MSs (cxOf CX0 P w K mg base (["self", "level"] : List Str) "Index.pieces" (defScope s_Index_pieces) (fa 25) cdv A outer sh H E).nox cl (fun _ _ => False) (defBody s_Index_pieces) S_Index_pieces := fun cdv A outer sh H E hr =>
  (mss_one (ms_ret (mx_n (mn_lc (own := ([("level", 1)] : List (Str × Nat))) rfl sc.nd ⟨(mj_any (mq_pl (mp_fld 11 (mp_var 0)))), blkOk_by (N := ["self", "level"]) (sc := defScope s_Index_pieces) (by first | decide +kernel | rfl), ⟨[1], by decide, fun _ _ _ _ _ => (mg_name 1 sc.nd)⟩, fun _ _ _ _ _ => mts_nil, fun _ _ _ _ _ => (m_callB gb_len rfl T.z_len (by decide +kernel) (mq_pl (mp_fld 7 (mp_var 1)))), ⟨sh, H⟩⟩))))
  rw [e_Index_pieces]
  exact fb_mk T.F_Index_pieces sc (b_Index_pieces T) body
theorem sc_Index_look_up : FnScope (["self", "x", "top", "looks", "position", "depth"] : List Str) (["self", "x"] : List Str) (defScope s_Index_look_up) := ⟨rfl, rfl, rfl, by decide +kernel, rfl, by decide +kernel, by decide +kernel⟩
theorem b_Index_look_up (T : Txt K mg cl fa fd) : Binds K (fd 26) (["self", "x"] : List Str) [] := T.F_Index_look_up.binds fun _ _ _ _ _ _ us hl => match us, hl with | [_, _], _ => rfl
theorem ok_Index_look_up (T : Txt K mg cl fa fd) (h_Level_find : FB P w K mg base cl 2 5 (fa 22) F_Level_find) : FB P w K mg base cl 3 2 (fa 26) F_Index_look_up := by
  have sc := sc_Index_look_up
  have body : ∀ (cdv : Value) (A : Around) (outer : List PySem.Env) (sh : Shared) (H : Hp) (E : XK), Room 2 (A.deeper (envOfC "Index.look_up" (defScope s_Index_look_up) sh.heap.objs.size (fa 26) cdv)) → MSs (cxOf CX0 P w K mg base (["self", "x", "top", "looks", "position", "depth"] : List Str) "Index.look_up" (defScope s_Index_look_up) (fa 26) cdv A outer sh H E).nox cl (fun _ _ => False) (defBody s_Index_look_up) S_Index_look_up := fun cdv A outer sh H E hr =>
  (mss_consF (ms_if (mu_t (t_not (t_tru (mq_pl (mp_fld 10 (mp_var 0))))))
  (mss_one (ms_ret (mx_e (m_tup (ma_v m_int (ma_v (m_lst ma_nil) ma_nil))))))
  mss_nil)
  (mss_consF (ms_set 2 sc.nd (mx_e (m_subI (mq_e (m_callB gb_len rfl T.z_len (by decide +kernel) (mq_pl (mp_fld 11 (mp_var 0))))) (mq_e m_int))))
  (mss_consF (ms_set 3 sc.nd (mx_n (mn_lst (ma_v (m_tup (ma_v (me_q (mq_pl (mp_var 2))) (ma_v m_int ma_nil))) ma_nil))))
  (mss_consF (ms_if (mu_t (t_cmp gc_lt (mq_pl (mp_var 1)) (mq_e (m_ix (mq_pl (mp_fld 10 (mp_var 0))) (mq_e m_int)))))
  (mss_one (ms_fz 3 (ms_ret (mx_e (m_tup (ma_v m_int (ma_v (me_q (mq_pl (mp_var 3))) ma_nil)))))))
  mss_nil)
  (mss_consF (ms_set 4 sc.nd (mx_e m_int))
  (mss_consF (ms_for PassesOwn.never rfl (mi_rangeD rfl T.z_range (mq_pl (mp_var 2)) (mq_e (m_neg (mq_e m_int)))) (mg_name 5 sc.nd)
  (mss_one (ms_set 4 sc.nd (mx_meth 4 h_Level_find (hr.mono (by decide)) (mr_e (m_ix (mq_pl (mp_fld 11 (mp_var 0))) (mq_pl (mp_var 5)))) T.c_Level.2.1 T.me_Level_find (by decide +kernel) (ma_v (me_q (mq_pl (mp_var 4))) (ma_v (me_q (mq_pl (mp_var 1))) (ma_v (me_q (mq_pl (mp_var 5))) (ma_mu (mp_var 3) ma_nil))))))))
  (mss_one (ms_fz 3 (ms_ret (mx_e (m_tup (ma_v (m_add (mq_pl (mp_var 4)) (mq_e m_int)) (ma_v (me_q (mq_pl (mp_var 3))) ma_nil)))))))))))))
  rw [e_Index_look_up]
  exact fb_mk T.F_Index_look_up sc (b_Index_look_up T) body
theorem sc_Index_rank : FnScope (["self", "x"] : List Str) (["self", "x"] : List Str) (defScope s_Index_rank) := ⟨rfl, rfl, rfl, by decide +kernel, rfl, by decide +kernel, by decide +kernel⟩
theorem b_Index_rank (T : Txt K mg cl fa fd) : Binds K (fd 27) (["self", "x"] : List Str) [] := T.F_Index_rank.binds fun _ _ _ _ _ _ us hl => match us, hl with | [_, _], _ => rfl
theorem ok_Index_rank (T : Txt K mg cl fa fd) (h_Index_look_up : FB P w K mg base cl 3 2 (fa 26) F_Index_look_up) : FB P w K mg base cl 4 2 (fa 27) F_Index_rank := by
  have sc := sc_Index_rank
  have body : ∀ (cdv : Value) (A : Around) (outer : List PySem.Env) (sh : Shared) (H : Hp) (E : XK), Room 3 (A.deeper (envOfC "Index.rank" (defScope s_Index_rank) sh.heap.objs.size (fa 27) cdv)) → MSs (cxOf CX0 P w K mg base (["self", "x"] : List Str) "Index.rank" (defScope s_Index_rank) (fa 27) cdv A outer sh H E).nox cl (fun _ _ => False) (defBody s_Index_rank) S_Index_rank := fun cdv A outer sh H E hr =>
  (mss_one (ms_ret (mx_e (m_ix (mq_e (me_n (mn_meth 5 h_Index_look_up (hr.mono (by decide)) (mr_br (mp_var 0)) T.c_Index.2.1 T.me_Index_look_up (by decide +kernel) (ma_v (me_q (mq_pl (mp_var 1))) ma_nil)))) (mq_e m_int)))))
  rw [e_Index_rank]
  exact fb_mk T.F_Index_rank sc (b_Index_rank T) body
theorem sc_Index_has : FnScope (["self", "x", "rank"] : List Str) (["self", "x"] : List Str) (defScope s_Index_has) := ⟨rfl, rfl, rfl, by decide +kernel, rfl, by decide +kernel, by decide +kernel⟩
theorem b_Index_has (T : Txt K mg cl fa fd) : Binds K (fd 28) (["self", "x"] : List Str) [] := T.F_Index_has.binds fun _ _ _ _ _ _ us hl => match us, hl with | [_, _], _ => rfl
theorem ok_Index_has (T : Txt K mg cl fa fd) (h_Index_rank : FB P w K mg base cl 4 2 (fa 27) F_Index_rank) : FB P w K mg base cl 5 2 (fa 28) F_Index_has := by
  have sc := sc_Index_has
  have body : ∀ (cdv : Value) (A : Around) (outer : List PySem.Env) (sh : Shared) (H : Hp) (E : XK), Room 4 (A.deeper (envOfC "Index.has" (defScope s_Index_has) sh.heap.objs.size (fa 28) cdv)) → MSs (cxOf CX0 P w K mg base (["self", "x", "rank"] : List Str) "Index.has" (defScope s_Index_has) (fa 28) cdv A outer sh H E).nox cl (fun _ _ => False) (defBody s_Index_has) S_Index_has := fun cdv A outer sh H E hr =>
  (mss_consF (ms_set 2 sc.nd (mx_e (me_n (mn_meth 5 h_Index_rank (hr.mono (by decide)) (mr_br (mp_var 0)) T.c_Index.2.1 T.me_Index_rank (by decide +kernel) (ma_v (me_q (mq_pl (mp_var 1))) ma_nil)))))
  (mss_one (ms_ret (mx_e (m_and (mq_e (m_cmp gc_gt (mq_pl (mp_var 2)) (mq_e m_int))) (m_one (m_cmp (gc_eq hr.units) (mq_e (m_ix (mq_pl (mp_fld 10 (mp_var 0))) (mq_e (m_subI (mq_pl (mp_var 2)) (mq_e m_int))))) (mq_pl (mp_var 1)))))))))
  rw [e_Index_has]
  exact fb_mk T.F_Index_has sc (b_Index_has T) body
theorem sc_Index_count : FnScope (["self", "a", "b"] : List Str) (["self", "a", "b"] : List Str) (defScope s_Index_count) := ⟨rfl, rfl, rfl, by decide +kernel, rfl, by decide +kernel, by decide +kernel⟩
theorem b_Index_count (T : Txt K mg cl fa fd) : Binds K (fd 29) (["self", "a", "b"] : List Str) [] := T.F_Index_count.binds fun _ _ _ _ _ _ us hl => match us, hl with | [_, _, _], _ => rfl
theorem ok_Index_count (T : Txt K mg cl fa fd) (h_Index_rank : FB P w K mg base cl 4 2 (fa 27) F_Index_rank) : FB P w K mg base cl 5 3 (fa 29) F_Index_count := by
  have sc := sc_Index_count
  have body : ∀ (cdv : Value) (A : Around) (outer : List PySem.Env) (sh : Shared) (H : Hp) (E : XK), Room 4 (A.deeper (envOfC "Index.count" (defScope s_Index_count) sh.heap.objs.size (fa 29) cdv)) → MSs (cxOf CX0 P w K mg base (["self", "a", "b"] : List Str) "Index.count" (defScope s_Index_count) (fa 29) cdv A outer sh H E).nox cl (fun _ _ => False) (defBody s_Index_count) S_Index_count := fun cdv A outer sh H E hr =>
  (mss_consF (ms_if (mu_t (t_cmp gc_gt (mq_pl (mp_var 1)) (mq_pl (mp_var 2))))
  (mss_one (ms_ret (mx_e m_int)))
  mss_nil)
  (mss_one (ms_ret (mx_e (m_subI (mq_e (me_n (mn_meth 5 h_Index_rank (hr.mono (by decide)) (mr_br (mp_var 0)) T.c_Index.2.1 T.me_Index_rank (by decide +kernel) (ma_v (me_q (mq_pl (mp_var 2))) ma_nil)))) (mq_e (me_n (mn_meth 5 h_Index_rank (hr.mono (by decide)) (mr_br (mp_var 0)) T.c_Index.2.1 T.me_Index_rank (by decide +kernel) (ma_v (m_subI (mq_pl (mp_var 1)) (mq_e m_int)) ma_nil)))))))))
  rw [e_Index_count]
  exact fb_mk T.F_Index_count sc (b_Index_count T) body
theorem sc_Index_at_most : FnScope (["self", "x"] : List Str) (["self", "x"] : List Str) (defScope s_Index_at_most) := ⟨rfl, rfl, rfl, by decide +kernel, rfl, by decide +kernel, by decide +kernel⟩
theorem b_Index_at_most (T : Txt K mg cl fa fd) : Binds K (fd 30) (["self", "x"] : List Str) [] := T.F_Index_at_most.binds fun _ _ _ _ _ _ us hl => match us, hl with | [_, _], _ => rfl
theorem ok_Index_at_most (T : Txt K mg cl fa fd) (h_wall : FB P w K mg base cl 1 1 (fa 0) F_wall) : FB P w K mg base cl 2 2 (fa 30) F_Index_at_most := by
  have sc := sc_Index_at_most
  have body : ∀ (cdv : Value) (A : Around) (outer : List PySem.Env) (sh : Shared) (H : Hp) (E : XK), Room 1 (A.deeper (envOfC "Index.at_most" (defScope s_Index_at_most) sh.heap.objs.size (fa 30) cdv)) → MSs (cxOf CX0 P w K mg base (["self", "x"] : List Str) "Index.at_most" (defScope s_Index_at_most) (fa 30) cdv A outer sh H E).nox cl (fun _ _ => False) (defBody s_Index_at_most) S_Index_at_most := fun cdv A outer sh H E hr =>
  (mss_one (ms_expr (mx_n (mn_call h_wall (hr.mono (by decide)) rfl T.g_wall T.k_wall (ma_v m_int ma_nil)))))
  rw [e_Index_at_most]
  exact fb_mk T.F_Index_at_most sc (b_Index_at_most T) body
theorem sc_Index_at_least : FnScope (["self", "x"] : List Str) (["self", "x"] : List Str) (defScope s_Index_at_least) := ⟨rfl, rfl, rfl, by decide +kernel, rfl, by decide +kernel, by decide +kernel⟩
theorem b_Index_at_least (T : Txt K mg cl fa fd) : Binds K (fd 31) (["self", "x"] : List Str) [] := T.F_Index_at_least.binds fun _ _ _ _ _ _ us hl => match us, hl with | [_, _], _ => rfl
theorem ok_Index_at_least (T : Txt K mg cl fa fd) (h_wall : FB P w K mg base cl 1 1 (fa 0) F_wall) : FB P w K mg base cl 2 2 (fa 31) F_Index_at_least := by
  have sc := sc_Index_at_least
  have body : ∀ (cdv : Value) (A : Around) (outer : List PySem.Env) (sh : Shared) (H : Hp) (E : XK), Room 1 (A.deeper (envOfC "Index.at_least" (defScope s_Index_at_least) sh.heap.objs.size (fa 31) cdv)) → MSs (cxOf CX0 P w K mg base (["self", "x"] : List Str) "Index.at_least" (defScope s_Index_at_least) (fa 31) cdv A outer sh H E).nox cl (fun _ _ => False) (defBody s_Index_at_least) S_Index_at_least := fun cdv A outer sh H E hr =>
  (mss_one (ms_expr (mx_n (mn_call h_wall (hr.mono (by decide)) rfl T.g_wall T.k_wall (ma_v m_int ma_nil)))))
  rw [e_Index_at_least]
  exact fb_mk T.F_Index_at_least sc (b_Index_at_least T) body
theorem sc_Index_key_at : FnScope (["self", "rank"] : List Str) (["self", "rank"] : List Str) (defScope s_Index_key_at) := ⟨rfl, rfl, rfl, by decide +kernel, rfl, by decide +kernel, by decide +kernel⟩
theorem b_Index_key_at (T : Txt K mg cl fa fd) : Binds K (fd 32) (["self", "rank"] : List Str) [] := T.F_Index_key_at.binds fun _ _ _ _ _ _ us hl => match us, hl with | [_, _], _ => rfl
theorem ok_Index_key_at (T : Txt K mg cl fa fd) (h_wall : FB P w K mg base cl 1 1 (fa 0) F_wall) : FB P w K mg base cl 2 2 (fa 32) F_Index_key_at := by
  have sc := sc_Index_key_at
  have body : ∀ (cdv : Value) (A : Around) (outer : List PySem.Env) (sh : Shared) (H : Hp) (E : XK), Room 1 (A.deeper (envOfC "Index.key_at" (defScope s_Index_key_at) sh.heap.objs.size (fa 32) cdv)) → MSs (cxOf CX0 P w K mg base (["self", "rank"] : List Str) "Index.key_at" (defScope s_Index_key_at) (fa 32) cdv A outer sh H E).nox cl (fun _ _ => False) (defBody s_Index_key_at) S_Index_key_at := fun cdv A outer sh H E hr =>
  (mss_one (ms_expr (mx_n (mn_call h_wall (hr.mono (by decide)) rfl T.g_wall T.k_wall (ma_v m_int ma_nil)))))
  rw [e_Index_key_at]
  exact fb_mk T.F_Index_key_at sc (b_Index_key_at T) body
theorem sc_Run_init__ : FnScope (["self", "entries", "error", "key", "value"] : List Str) (["self", "entries", "error"] : List Str) (defScope s_Run_init__) := ⟨rfl, rfl, rfl, by decide +kernel, rfl, by decide +kernel, by decide +kernel⟩
theorem b_Run_init__ (T : Txt K mg cl fa fd) : Binds K (fd 33) (["self", "entries", "error"] : List Str) [] := T.F_Run_init__.binds fun _ _ _ _ _ _ us hl => match us, hl with | [_, _, _], _ => rfl
theorem ok_Run_init__ (T : Txt K mg cl fa fd) (h_Index_init__ : FB P w K mg base cl 7 4 (fa 23) F_Index_init__) : FB P w K mg base cl 9 3 (fa 33) F_Run_init__ := by
  have sc := sc_Run_init__
  have body : ∀ (cdv : Value) (A : Around) (outer : List PySem.Env) (sh : Shared) (H : Hp) (E : XK), Room 8 (A.deeper (envOfC "Run.__init__" (defScope s_Run_init__) sh.heap.objs.size (fa 33) cdv)) → MSs (cxOf CX0 P w K mg base (["self", "entries", "error", "key", "value"] : List Str) "Run.__init__" (defScope s_Run_init__) (fa 33) cdv A outer sh H E).nox cl (fun _ _ => False) (defBody s_Run_init__) S_Run_init__ := fun cdv A outer sh H E hr =>
  (mss_consF (ms_setF 12 (mp_var 0) (mx_e (me_q (mq_pl (mp_var 1)))))
  (mss_one (ms_setF 13 (mp_var 0) (mx_e (me_n (mn_make 5 h_Index_init__ (hr.mono (by decide)) T.m_Index T.c_Index rfl T.g_Index (ma_v (me_n (mn_lc (own := ([("key", 3), ("value", 4)] : List (Str × Nat))) rfl sc.nd ⟨(mj_any (mq_pl (mp_var 1))), blkOk_by (N := ["self", "entries", "error", "key", "value"]) (sc := defScope s_Run_init__) (by first | decide +kernel | rfl), ⟨[3, 4], by decide, fun _ _ _ _ _ => (mg_tup rfl (mgs_cons (mg_name 3 sc.nd) (mgs_cons (mg_name 4 sc.nd) mgs_nil)))⟩, fun _ _ _ _ _ => mts_nil, fun _ _ _ _ _ => (me_q (mq_pl (mp_var 3))), ⟨sh, H⟩⟩)) (ma_v (me_q (mq_pl (mp_var 2))) (ma_v (m_globI rfl T.q_UPPER) ma_nil)))))))))
  rw [e_Run_init__]
  exact fb_mk T.F_Run_init__ sc (b_Run_init__ T) body
theorem sc_Run_entry : FnScope (["self", "key", "rank"] : List Str) (["self", "key"] : List Str) (defScope s_Run_entry) := ⟨rfl, rfl, rfl, by decide +kernel, rfl, by decide +kernel, by decide +kernel⟩
theorem b_Run_entry (T : Txt K mg cl fa fd) : Binds K (fd 34) (["self", "key"] : List Str) [] := T.F_Run_entry.binds fun _ _ _ _ _ _ us hl => match us, hl with | [_, _], _ => rfl
theorem ok_Run_entry (T : Txt K mg cl fa fd) (h_Index_rank : FB P w K mg base cl 4 2 (fa 27) F_Index_rank) : FB P w K mg base cl 5 2 (fa 34) F_Run_entry := by
  have sc := sc_Run_entry
  have body : ∀ (cdv : Value) (A : Around) (outer : List PySem.Env) (sh : Shared) (H : Hp) (E : XK), Room 4 (A.deeper (envOfC "Run.entry" (defScope s_Run_entry) sh.heap.objs.size (fa 34) cdv)) → MSs (cxOf CX0 P w K mg base (["self", "key", "rank"] : List Str) "Run.entry" (defScope s_Run_entry) (fa 34) cdv A outer sh H E).nox cl (fun _ _ => False) (defBody s_Run_entry) S_Run_entry := fun cdv A outer sh H E hr =>
  (mss_consF (ms_set 2 sc.nd (mx_e (me_n (mn_meth 5 h_Index_rank (hr.mono (by decide)) (mr_br (mp_fld 13 (mp_var 0))) T.c_Index.2.1 T.me_Index_rank (by decide +kernel) (ma_v (me_q (mq_pl (mp_var 1))) ma_nil)))))
  (mss_consF (ms_ifJ (mu_t (t_w (w_and (t_cmp gc_gt (mq_pl (mp_var 2)) (mq_e m_int)) (w_and1 (t_cmp (gc_eq hr.units) (mq_e (m_ix (mq_e (m_ix (mq_pl (mp_fld 12 (mp_var 0))) (mq_e (m_subI (mq_pl (mp_var 2)) (mq_e m_int))))) (mq_e m_int))) (mq_pl (mp_var 1)))))))
  (mss_one (ms_ret (mx_e (m_ix (mq_pl (mp_fld 12 (mp_var 0))) (mq_e (m_subI (mq_pl (mp_var 2)) (mq_e m_int)))))))
  mss_nil)
  (mss_one (ms_ret (mx_e m_non)))))
  rw [e_Run_entry]
  exact fb_mk T.F_Run_entry sc (b_Run_entry T) body
theorem sc_merged : FnScope (["newer", "older", "entries", "position", "entry"] : List Str) (["newer", "older"] : List Str) (defScope s_merged) := ⟨rfl, rfl, rfl, by decide +kernel, rfl, by decide +kernel, by decide +kernel⟩
theorem b_merged (T : Txt K mg cl fa fd) : Binds K (fd 35) (["newer", "older"] : List Str) [] := T.F_merged.binds fun _ _ _ _ _ _ us hl => match us, hl with | [_, _], _ => rfl
theorem ok_merged (T : Txt K mg cl fa fd) : FB P w K mg base cl 1 2 (fa 35) F_merged := by
  have sc := sc_merged
  have body : ∀ (cdv : Value) (A : Around) (outer : List PySem.Env) (sh : Shared) (H : Hp) (E : XK), Room 0 (A.deeper (envOfC "merged" (defScope s_merged) sh.heap.objs.size (fa 35) cdv)) → MSs (cxOf CX0 P w K mg base (["newer", "older", "entries", "position", "entry"] : List Str) "merged" (defScope s_merged) (fa 35) cdv A outer sh H E).nox cl (fun _ _ => False) (defBody s_merged) S_merged := fun cdv A outer sh H E hr =>
  (mss_consF (ms_set 2 sc.nd (mx_n (mn_lst ma_nil)))
  (mss_consF (ms_set 3 sc.nd (mx_e m_int))
  (mss_consF (ms_for PassesOwn.never rfl (mi_any (me_q (mq_pl (mp_var 0)))) (mg_name 4 sc.nd)
  (mss_consF (ms_while (t_w (w_and (t_cmp gc_lt (mq_pl (mp_var 3)) (mq_e (m_callB gb_len rfl T.z_len (by decide +kernel) (mq_pl (mp_var 1))))) (w_and1 (t_cmp gc_lt (mq_e (m_ix (mq_e (m_ix (mq_pl (mp_var 1)) (mq_pl (mp_var 3)))) (mq_e m_int))) (mq_e (m_ix (mq_pl (mp_var 4)) (mq_e m_int)))))))
  (mss_consF (ms_expr (mx_app (mp_var 2) (m_ix (mq_pl (mp_var 1)) (mq_pl (mp_var 3)))))
  (mss_one (ms_aug 3 gi_iadd sc.nd (mq_e m_int)))) PassesOwn.never)
  (mss_consF (ms_ifJ (mu_t (t_w (w_and (t_cmp gc_lt (mq_pl (mp_var 3)) (mq_e (m_callB gb_len rfl T.z_len (by decide +kernel) (mq_pl (mp_var 1))))) (w_and1 (t_cmp (gc_eq hr.units) (mq_e (m_ix (mq_e (m_ix (mq_pl (mp_var 1)) (mq_pl (mp_var 3)))) (mq_e m_int))) (mq_e (m_ix (mq_pl (mp_var 4)) (mq_e m_int))))))))
  (mss_one (ms_aug 3 gi_iadd sc.nd (mq_e m_int)))
  mss_nil)
  (mss_one (ms_expr (mx_app (mp_var 2) (me_q (mq_pl (mp_var 4)))))))))
  (mss_one (ms_ret (mx_e (m_add (mq_pl (mp_var 2)) (mq_e (m_sl (mq_pl (mp_var 1)) (mo_some (mq_pl (mp_var 3))) mo_none)))))))))
  rw [e_merged]
  exact fb_mk T.F_merged sc (b_merged T) body
theorem sc_Store_init__ : FnScope (["self", "capacity", "error"] : List Str) (["self", "capacity", "error"] : List Str) (defScope s_Store_init__) := ⟨rfl, rfl, rfl, by decide +kernel, rfl, by decide +kernel, by decide +kernel⟩
theorem b_Store_init__ (T : Txt K mg cl fa fd) : Binds K (fd 36) (["self", "capacity", "error"] : List Str) [] := T.F_Store_init__.binds fun _ _ _ _ _ _ us hl => match us, hl with | [_, _, _], _ => rfl
theorem ok_Store_init__ (T : Txt K mg cl fa fd) : FB P w K mg base cl 1 3 (fa 36) F_Store_init__ := by
  have sc := sc_Store_init__
  have body : ∀ (cdv : Value) (A : Around) (outer : List PySem.Env) (sh : Shared) (H : Hp) (E : XK), Room 0 (A.deeper (envOfC "Store.__init__" (defScope s_Store_init__) sh.heap.objs.size (fa 36) cdv)) → MSs (cxOf CX0 P w K mg base (["self", "capacity", "error"] : List Str) "Store.__init__" (defScope s_Store_init__) (fa 36) cdv A outer sh H E).nox cl (fun _ _ => False) (defBody s_Store_init__) S_Store_init__ := fun cdv A outer sh H E hr =>
  (mss_consF (ms_setF 14 (mp_var 0) (mx_e m_int))
  (mss_consF (ms_setF 15 (mp_var 0) (mx_e m_int))
  (mss_consF (ms_setF 16 (mp_var 0) (mx_e (me_q (mq_pl (mp_var 1)))))
  (mss_consF (ms_setF 0 (mp_var 0) (mx_e (me_q (mq_pl (mp_var 2)))))
  (mss_consF (ms_setF 17 (mp_var 0) (mx_e (m_lst ma_nil)))
  (mss_one (ms_setF 18 (mp_var 0) (mx_n (mn_lst ma_nil)))))))))
  rw [e_Store_init__]
  exact fb_mk T.F_Store_init__ sc (b_Store_init__ T) body
theorem sc_Store_flush : FnScope (["self", "entries", "level", "older", "run", "entry"] : List Str) (["self"] : List Str) (defScope s_Store_flush) := ⟨rfl, rfl, rfl, by decide +kernel, rfl, by decide +kernel, by decide +kernel⟩
theorem b_Store_flush (T : Txt K mg cl fa fd) : Binds K (fd 37) (["self"] : List Str) [] := T.F_Store_flush.binds fun _ _ _ _ _ _ us hl => match us, hl with | [_], _ => rfl
theorem ok_Store_flush (T : Txt K mg cl fa fd) (h_Run_init__ : FB P w K mg base cl 9 3 (fa 33) F_Run_init__) (h_merged : FB P w K mg base cl 1 2 (fa 35) F_merged) : FB P w K mg base cl 11 1 (fa 37) F_Store_flush := by
  have sc := sc_Store_flush
  have body : ∀ (cdv : Value) (A : Around) (outer : List PySem.Env) (sh : Shared) (H : Hp) (E : XK), Room 10 (A.deeper (envOfC "Store.flush" (defScope s_Store_flush) sh.heap.objs.size (fa 37) cdv)) → MSs (cxOf CX0 P w K mg base (["self", "entries", "level", "older", "run", "entry"] : List Str) "Store.flush" (defScope s_Store_flush) (fa 37) cdv A outer sh H E).nox cl (fun _ _ => False) (defBody s_Store_flush) S_Store_flush := fun cdv A outer sh H E hr =>
  (mss_consF (ms_set 1 sc.nd (mx_e (me_q (mq_pl (mp_fld 17 (mp_var 0))))))
  (mss_consF (ms_setF 17 (mp_var 0) (mx_e (m_lst ma_nil)))
  (mss_consF (ms_augF 14 gi_iadd (mp_var 0) (mq_e (m_callB gb_len rfl T.z_len (by decide +kernel) (mq_pl (mp_var 1)))))
  (mss_consF (ms_set 2 sc.nd (mx_e m_int))
  (mss_consF (ms_while (t_w (w_and (t_cmp gc_lt (mq_pl (mp_var 2)) (mq_e (m_callB gb_len rfl T.z_len (by decide +kernel) (mq_pl (mp_fld 18 (mp_var 0)))))) (w_and1 (t_cmp gc_isnot (mq_e (m_ix (mq_pl (mp_fld 18 (mp_var 0))) (mq_pl (mp_var 2)))) (mq_e m_non)))))
  (mss_consF (ms_set 3 sc.nd (mx_e (m_fld 12 (m_ix (mq_pl (mp_fld 18 (mp_var 0))) (mq_pl (mp_var 2))))))
  (mss_consF (ms_augF 14 gi_iadd (mp_var 0) (mq_e (m_callB gb_len rfl T.z_len (by decide +kernel) (mq_pl (mp_var 3)))))
  (mss_consF (ms_set 1 sc.nd (mx_e (me_n (mn_call h_merged (hr.mono (by decide)) rfl T.g_merged T.k_merged (ma_v (me_q (mq_pl (mp_var 1))) (ma_v (me_q (mq_pl (mp_var 3))) ma_nil))))))
  (mss_consF (ms_setI (mp_fld 18 (mp_var 0)) (mq_pl (mp_var 2)) (mx_e m_non))
  (mss_one (ms_aug 2 gi_iadd sc.nd (mq_e m_int))))))) PassesOwn.never)
  (mss_consF (ms_ifJ (mu_t (t_not (t_tru (mq_e (m_callB (gb_any rfl) rfl T.z_any (by decide +kernel) (mq_e (me_n (mn_lc (own := ([("run", 4)] : List (Str × Nat))) rfl sc.nd ⟨(mj_any (mq_e (m_sl (mq_pl (mp_fld 18 (mp_var 0))) (mo_some (mq_pl (mp_var 2))) mo_none))), blkOk_by (N := ["self", "entries", "level", "older", "run", "entry"]) (sc := defScope s_Store_flush) (by first | decide +kernel | rfl), ⟨[4], by decide, fun _ _ _ _ _ => (mg_name 4 sc.nd)⟩, fun _ _ _ _ _ => mts_nil, fun _ _ _ _ _ => (m_cmp gc_isnot (mq_pl (mp_var 4)) (mq_e m_non)), ⟨sh, H⟩⟩))))))))
  (mss_one (ms_setLcF 1 (own := ([("entry", 5)] : List (Str × Nat))) rfl sc.nd ⟨(mj_any (mq_pl (mp_var 1))), blkOk_by (N := ["self", "entries", "level", "older", "run", "entry"]) (sc := defScope s_Store_flush) (by first | decide +kernel | rfl), ⟨[5], by decide, fun _ _ _ _ _ => (mg_name 5 sc.nd)⟩, fun _ _ _ _ _ => (mts_one (t_cmp gc_isnot (mq_e (m_ix (mq_pl (mp_var 5)) (mq_e m_int))) (mq_e m_non))), fun _ _ _ _ _ => (me_q (mq_pl (mp_var 5))), ⟨sh, H⟩⟩ (sw_true rfl rfl rfl (by decide +kernel))))
  mss_nil)
  (mss_consF (ms_ifJ (mu_t (t_cmp (gc_eq hr.units) (mq_pl (mp_var 2)) (mq_e (m_callB gb_len rfl T.z_len (by decide +kernel) (mq_pl (mp_fld 18 (mp_var 0)))))))
  (mss_one (ms_expr (mx_app (mp_fld 18 (mp_var 0)) m_non)))
  mss_nil)
  (mss_one (ms_ifJ (mu_t (t_tru (mq_pl (mp_var 1))))
  (mss_one (ms_setI (mp_fld 18 (mp_var 0)) (mq_pl (mp_var 2)) (mx_e (me_n (mn_make 6 h_Run_init__ (hr.mono (by decide)) T.m_Run T.c_Run rfl T.g_Run (ma_v (me_q (mq_pl (mp_var 1))) (ma_v (me_q (mq_pl (mp_fld 0 (mp_var 0)))) ma_nil)))))))
  mss_nil)))))))))
  rw [e_Store_flush]
  exact fb_mk T.F_Store_flush sc (b_Store_flush T) body
theorem sc_Store_write : FnScope (["self", "entry"] : List Str) (["self", "entry"] : List Str) (defScope s_Store_write) := ⟨rfl, rfl, rfl, by decide +kernel, rfl, by decide +kernel, by decide +kernel⟩
theorem b_Store_write (T : Txt K mg cl fa fd) : Binds K (fd 38) (["self", "entry"] : List Str) [] := T.F_Store_write.binds fun _ _ _ _ _ _ us hl => match us, hl with | [_, _], _ => rfl
theorem ok_Store_write (T : Txt K mg cl fa fd) (h_Store_flush : FB P w K mg base cl 11 1 (fa 37) F_Store_flush) (h_merged : FB P w K mg base cl 1 2 (fa 35) F_merged) : FB P w K mg base cl 12 2 (fa 38) F_Store_write := by
  have sc := sc_Store_write
  have body : ∀ (cdv : Value) (A : Around) (outer : List PySem.Env) (sh : Shared) (H : Hp) (E : XK), Room 11 (A.deeper (envOfC "Store.write" (defScope s_Store_write) sh.heap.objs.size (fa 38) cdv)) → MSs (cxOf CX0 P w K mg base (["self", "entry"] : List Str) "Store.write" (defScope s_Store_write) (fa 38) cdv A outer sh H E).nox cl (fun _ _ => False) (defBody s_Store_write) S_Store_write := fun cdv A outer sh H E hr =>
  (mss_consF (ms_augF 15 gi_iadd (mp_var 0) (mq_e m_int))
  (mss_consF (ms_setF 17 (mp_var 0) (mx_e (me_n (mn_call h_merged (hr.mono (by decide)) rfl T.g_merged T.k_merged (ma_v (m_lst (ma_v (me_q (mq_pl (mp_var 1))) ma_nil)) (ma_v (me_q (mq_pl (mp_fld 17 (mp_var 0)))) ma_nil))))))
  (mss_one (ms_ifJ (mu_t (t_cmp gc_ge (mq_e (m_callB gb_len rfl T.z_len (by decide +kernel) (mq_pl (mp_fld 17 (mp_var 0))))) (mq_pl (mp_fld 16 (mp_var 0)))))
  (mss_one (ms_expr (mx_meth0 7 h_Store_flush (hr.mono (by decide)) (mr_mu (mp_var 0)) T.c_Store.2.1 T.me_Store_flush (by decide +kernel))))
  mss_nil))))
  rw [e_Store_write]
  exact fb_mk T.F_Store_write sc (b_Store_write T) body
theorem sc_Store_put : FnScope (["self", "key", "value"] : List Str) (["self", "key", "value"] : List Str) (defScope s_Store_put) := ⟨rfl, rfl, rfl, by decide +kernel, rfl, by decide +kernel, by decide +kernel⟩
theorem b_Store_put (T : Txt K mg cl fa fd) : Binds K (fd 39) (["self", "key", "value"] : List Str) [] := T.F_Store_put.binds fun _ _ _ _ _ _ us hl => match us, hl with | [_, _, _], _ => rfl
theorem ok_Store_put (T : Txt K mg cl fa fd) (h_Store_write : FB P w K mg base cl 12 2 (fa 38) F_Store_write) : FB P w K mg base cl 13 3 (fa 39) F_Store_put := by
  have sc := sc_Store_put
  have body : ∀ (cdv : Value) (A : Around) (outer : List PySem.Env) (sh : Shared) (H : Hp) (E : XK), Room 12 (A.deeper (envOfC "Store.put" (defScope s_Store_put) sh.heap.objs.size (fa 39) cdv)) → MSs (cxOf CX0 P w K mg base (["self", "key", "value"] : List Str) "Store.put" (defScope s_Store_put) (fa 39) cdv A outer sh H E).nox cl (fun _ _ => False) (defBody s_Store_put) S_Store_put := fun cdv A outer sh H E hr =>
  (mss_one (ms_expr (mx_meth 7 h_Store_write (hr.mono (by decide)) (mr_mu (mp_var 0)) T.c_Store.2.1 T.me_Store_write (by decide +kernel) (ma_v (m_tup (ma_v (me_q (mq_pl (mp_var 1))) (ma_v (me_q (mq_pl (mp_var 2))) ma_nil))) ma_nil))))
  rw [e_Store_put]
  exact fb_mk T.F_Store_put sc (b_Store_put T) body
theorem sc_Store_remove : FnScope (["self", "key"] : List Str) (["self", "key"] : List Str) (defScope s_Store_remove) := ⟨rfl, rfl, rfl, by decide +kernel, rfl, by decide +kernel, by decide +kernel⟩
theorem b_Store_remove (T : Txt K mg cl fa fd) : Binds K (fd 40) (["self", "key"] : List Str) [] := T.F_Store_remove.binds fun _ _ _ _ _ _ us hl => match us, hl with | [_, _], _ => rfl
theorem ok_Store_remove (T : Txt K mg cl fa fd) (h_Store_write : FB P w K mg base cl 12 2 (fa 38) F_Store_write) : FB P w K mg base cl 13 2 (fa 40) F_Store_remove := by
  have sc := sc_Store_remove
  have body : ∀ (cdv : Value) (A : Around) (outer : List PySem.Env) (sh : Shared) (H : Hp) (E : XK), Room 12 (A.deeper (envOfC "Store.remove" (defScope s_Store_remove) sh.heap.objs.size (fa 40) cdv)) → MSs (cxOf CX0 P w K mg base (["self", "key"] : List Str) "Store.remove" (defScope s_Store_remove) (fa 40) cdv A outer sh H E).nox cl (fun _ _ => False) (defBody s_Store_remove) S_Store_remove := fun cdv A outer sh H E hr =>
  (mss_one (ms_expr (mx_meth 7 h_Store_write (hr.mono (by decide)) (mr_mu (mp_var 0)) T.c_Store.2.1 T.me_Store_write (by decide +kernel) (ma_v (m_tup (ma_v (me_q (mq_pl (mp_var 1))) (ma_v m_non ma_nil))) ma_nil))))
  rw [e_Store_remove]
  exact fb_mk T.F_Store_remove sc (b_Store_remove T) body
theorem sc_Store_get : FnScope (["self", "key", "entry", "run", "found"] : List Str) (["self", "key"] : List Str) (defScope s_Store_get) := ⟨rfl, rfl, rfl, by decide +kernel, rfl, by decide +kernel, by decide +kernel⟩
theorem b_Store_get (T : Txt K mg cl fa fd) : Binds K (fd 41) (["self", "key"] : List Str) [] := T.F_Store_get.binds fun _ _ _ _ _ _ us hl => match us, hl with | [_, _], _ => rfl
theorem ok_Store_get (T : Txt K mg cl fa fd) (h_Run_entry : FB P w K mg base cl 5 2 (fa 34) F_Run_entry) : FB P w K mg base cl 6 2 (fa 41) F_Store_get := by
  have sc := sc_Store_get
  have body : ∀ (cdv : Value) (A : Around) (outer : List PySem.Env) (sh : Shared) (H : Hp) (E : XK), Room 5 (A.deeper (envOfC "Store.get" (defScope s_Store_get) sh.heap.objs.size (fa 41) cdv)) → MSs (cxOf CX0 P w K mg base (["self", "key", "entry", "run", "found"] : List Str) "Store.get" (defScope s_Store_get) (fa 41) cdv A outer sh H E).nox cl (fun _ _ => False) (defBody s_Store_get) S_Store_get := fun cdv A outer sh H E hr =>
  (mss_consF (ms_for PassesOwn.never rfl (mi_any (me_q (mq_pl (mp_fld 17 (mp_var 0))))) (mg_name 2 sc.nd)
  (mss_one (ms_if (mu_t (t_cmp (gc_eq hr.units) (mq_e (m_ix (mq_pl (mp_var 2)) (mq_e m_int))) (mq_pl (mp_var 1))))
  (mss_one (ms_ret (mx_e (m_ix (mq_pl (mp_var 2)) (mq_e m_int)))))
  mss_nil)))
  (mss_consF (ms_forB PassesOwn.never rfl (mp_fld 18 (mp_var 0)) (mg_name 3 sc.nd)
  (mss_one (ms_ifJ (mu_t (t_cmp gc_isnot (mq_pl (mp_var 3)) (mq_e m_non)))
  (mss_consF (ms_set 4 sc.nd (mx_e (me_n (mn_meth 6 h_Run_entry (hr.mono (by decide)) (mr_br (mp_var 3)) T.c_Run.2.1 T.me_Run_entry (by decide +kernel) (ma_v (me_q (mq_pl (mp_var 1))) ma_nil)))))
  (mss_one (ms_if (mu_t (t_cmp gc_isnot (mq_pl (mp_var 4)) (mq_e m_non)))
  (mss_one (ms_ret (mx_e (m_ix (mq_pl (mp_var 4)) (mq_e m_int)))))
  mss_nil)))
  mss_nil)))
  (mss_one (ms_ret (mx_e m_non)))))
  rw [e_Store_get]
  exact fb_mk T.F_Store_get sc (b_Store_get T) body
theorem sc_Store_contents : FnScope (["self", "entries", "run", "entry"] : List Str) (["self"] : List Str) (defScope s_Store_contents) := ⟨rfl, rfl, rfl, by decide +kernel, rfl, by decide +kernel, by decide +kernel⟩
theorem b_Store_contents (T : Txt K mg cl fa fd) : Binds K (fd 42) (["self"] : List Str) [] := T.F_Store_contents.binds fun _ _ _ _ _ _ us hl => match us, hl with | [_], _ => rfl
theorem ok_Store_contents (T : Txt K mg cl fa fd) (h_merged : FB P w K mg base cl 1 2 (fa 35) F_merged) : FB P w K mg base cl 2 1 (fa 42) F_Store_contents := by
  have sc := sc_Store_contents
  have body : ∀ (cdv : Value) (A : Around) (outer : List PySem.Env) (sh : Shared) (H : Hp) (E : XK), Room 1 (A.deeper (envOfC "Store.contents" (defScope s_Store_contents) sh.heap.objs.size (fa 42) cdv)) → MSs (cxOf CX0 P w K mg base (["self", "entries", "run", "entry"] : List Str) "Store.contents" (defScope s_Store_contents) (fa 42) cdv A outer sh H E).nox cl (fun _ _ => False) (defBody s_Store_contents) S_Store_contents := fun cdv A outer sh H E hr =>
  (mss_consF (ms_set 1 sc.nd (mx_e (me_q (mq_pl (mp_fld 17 (mp_var 0))))))
  (mss_consF (ms_forB PassesOwn.never rfl (mp_fld 18 (mp_var 0)) (mg_name 2 sc.nd)
  (mss_one (ms_ifJ (mu_t (t_cmp gc_isnot (mq_pl (mp_var 2)) (mq_e m_non)))
  (mss_one (ms_set 1 sc.nd (mx_e (me_n (mn_call h_merged (hr.mono (by decide)) rfl T.g_merged T.k_merged (ma_v (me_q (mq_pl (mp_var 1))) (ma_v (me_q (mq_pl (mp_fld 12 (mp_var 2)))) ma_nil)))))))
  mss_nil)))
  (mss_one (ms_ret (mx_n (mn_lc (own := ([("entry", 3)] : List (Str × Nat))) rfl sc.nd ⟨(mj_any (mq_pl (mp_var 1))), blkOk_by (N := ["self", "entries", "run", "entry"]) (sc := defScope s_Store_contents) (by first | decide +kernel | rfl), ⟨[3], by decide, fun _ _ _ _ _ => (mg_name 3 sc.nd)⟩, fun _ _ _ _ _ => (mts_one (t_cmp gc_isnot (mq_e (m_ix (mq_pl (mp_var 3)) (mq_e m_int))) (mq_e m_non))), fun _ _ _ _ _ => (me_q (mq_pl (mp_var 3))), ⟨sh, H⟩⟩))))))
  rw [e_Store_contents]
  exact fb_mk T.F_Store_contents sc (b_Store_contents T) body
theorem sc_Store_between : FnScope (["self", "a", "b", "entry"] : List Str) (["self", "a", "b"] : List Str) (defScope s_Store_between) := ⟨rfl, rfl, rfl, by decide +kernel, rfl, by decide +kernel, by decide +kernel⟩
theorem b_Store_between (T : Txt K mg cl fa fd) : Binds K (fd 43) (["self", "a", "b"] : List Str) [] := T.F_Store_between.binds fun _ _ _ _ _ _ us hl => match us, hl with | [_, _, _], _ => rfl
theorem ok_Store_between (T : Txt K mg cl fa fd) (h_Store_contents : FB P w K mg base cl 2 1 (fa 42) F_Store_contents) : FB P w K mg base cl 3 3 (fa 43) F_Store_between := by
  have sc := sc_Store_between
  have body : ∀ (cdv : Value) (A : Around) (outer : List PySem.Env) (sh : Shared) (H : Hp) (E : XK), Room 2 (A.deeper (envOfC "Store.between" (defScope s_Store_between) sh.heap.objs.size (fa 43) cdv)) → MSs (cxOf CX0 P w K mg base (["self", "a", "b", "entry"] : List Str) "Store.between" (defScope s_Store_between) (fa 43) cdv A outer sh H E).nox cl (fun _ _ => False) (defBody s_Store_between) S_Store_between := fun cdv A outer sh H E hr =>
  (mss_one (ms_ret (mx_n (mn_lc (own := ([("entry", 3)] : List (Str × Nat))) rfl sc.nd ⟨(mj_any (mq_e (me_n (mn_meth0 7 h_Store_contents (hr.mono (by decide)) (mr_br (mp_var 0)) T.c_Store.2.1 T.me_Store_contents (by decide +kernel))))), blkOk_by (N := ["self", "a", "b", "entry"]) (sc := defScope s_Store_between) (by first | decide +kernel | rfl), ⟨[3], by decide, fun _ _ _ _ _ => (mg_name 3 sc.nd)⟩, fun _ _ _ _ _ => (mts_one (t_chain (mq_pl (mp_var 1)) (mc_link gc_le (mq_e (m_ix (mq_pl (mp_var 3)) (mq_e m_int))) (mc_last gc_le (mq_pl (mp_var 2)))))), fun _ _ _ _ _ => (me_q (mq_pl (mp_var 3))), ⟨sh, H⟩⟩))))
  rw [e_Store_between]
  exact fb_mk T.F_Store_between sc (b_Store_between T) body
theorem sc_Store_run_sizes : FnScope (["self", "sizes", "run"] : List Str) (["self"] : List Str) (defScope s_Store_run_sizes) := ⟨rfl, rfl, rfl, by decide +kernel, rfl, by decide +kernel, by decide +kernel⟩
theorem b_Store_run_sizes (T : Txt K mg cl fa fd) : Binds K (fd 44) (["self"] : List Str) [] := T.F_Store_run_sizes.binds fun _ _ _ _ _ _ us hl => match us, hl with | [_], _ => rfl
theorem ok_Store_run_sizes (T : Txt K mg cl fa fd) : FB P w K mg base cl 1 1 (fa 44) F_Store_run_sizes := by
  have sc := sc_Store_run_sizes
  have body : ∀ (cdv : Value) (A : Around) (outer : List PySem.Env) (sh : Shared) (H : Hp) (E : XK), Room 0 (A.deeper (envOfC "Store.run_sizes" (defScope s_Store_run_sizes) sh.heap.objs.size (fa 44) cdv)) → MSs (cxOf CX0 P w K mg base (["self", "sizes", "run"] : List Str) "Store.run_sizes" (defScope s_Store_run_sizes) (fa 44) cdv A outer sh H E).nox cl (fun _ _ => False) (defBody s_Store_run_sizes) S_Store_run_sizes := fun cdv A outer sh H E hr =>
  (mss_consF (ms_setLc 1 (own := ([("run", 2)] : List (Str × Nat))) rfl sc.nd ⟨(mj_any (mq_pl (mp_fld 18 (mp_var 0)))), blkOk_by (N := ["self", "sizes", "run"]) (sc := defScope s_Store_run_sizes) (by first | decide +kernel | rfl), ⟨[2], by decide, fun _ _ _ _ _ => (mg_name 2 sc.nd)⟩, fun _ _ _ _ _ => mts_nil, fun _ _ _ _ _ => (m_if (t_cmp gc_is (mq_pl (mp_var 2)) (mq_e m_non)) m_int (m_callB gb_len rfl T.z_len (by decide +kernel) (mq_pl (mp_fld 12 (mp_var 2))))), ⟨sh, H⟩⟩ (sw_true rfl rfl rfl (by decide +kernel)))
  (mss_consF (ms_while (t_w (w_and (t_tru (mq_pl (mp_var 1))) (w_and1 (t_cmp (gc_eq hr.units) (mq_e (m_ix (mq_pl (mp_var 1)) (mq_e (m_neg (mq_e m_int))))) (mq_e m_int)))))
  (mss_one (ms_expr (mx_pop (mp_var 1)))) PassesOwn.never)
  (mss_one (ms_ret (mx_mv 1)))))
  rw [e_Store_run_sizes]
  exact fb_mk T.F_Store_run_sizes sc (b_Store_run_sizes T) body
theorem sc_Store_buffered : FnScope (["self"] : List Str) (["self"] : List Str) (defScope s_Store_buffered) := ⟨rfl, rfl, rfl, by decide +kernel, rfl, by decide +kernel, by decide +kernel⟩
theorem b_Store_buffered (T : Txt K mg cl fa fd) : Binds K (fd 45) (["self"] : List Str) [] := T.F_Store_buffered.binds fun _ _ _ _ _ _ us hl => match us, hl with | [_], _ => rfl
theorem ok_Store_buffered (T : Txt K mg cl fa fd) (h_wall : FB P w K mg base cl 1 1 (fa 0) F_wall) : FB P w K mg base cl 2 1 (fa 45) F_Store_buffered := by
  have sc := sc_Store_buffered
  have body : ∀ (cdv : Value) (A : Around) (outer : List PySem.Env) (sh : Shared) (H : Hp) (E : XK), Room 1 (A.deeper (envOfC "Store.buffered" (defScope s_Store_buffered) sh.heap.objs.size (fa 45) cdv)) → MSs (cxOf CX0 P w K mg base (["self"] : List Str) "Store.buffered" (defScope s_Store_buffered) (fa 45) cdv A outer sh H E).nox cl (fun _ _ => False) (defBody s_Store_buffered) S_Store_buffered := fun cdv A outer sh H E hr =>
  (mss_one (ms_expr (mx_n (mn_call h_wall (hr.mono (by decide)) rfl T.g_wall T.k_wall (ma_v m_int ma_nil)))))
  rw [e_Store_buffered]
  exact fb_mk T.F_Store_buffered sc (b_Store_buffered T) body
theorem sc_Store_buffer_entries : FnScope (["self"] : List Str) (["self"] : List Str) (defScope s_Store_buffer_entries) := ⟨rfl, rfl, rfl, by decide +kernel, rfl, by decide +kernel, by decide +kernel⟩
theorem b_Store_buffer_entries (T : Txt K mg cl fa fd) : Binds K (fd 46) (["self"] : List Str) [] := T.F_Store_buffer_entries.binds fun _ _ _ _ _ _ us hl => match us, hl with | [_], _ => rfl
theorem ok_Store_buffer_entries (T : Txt K mg cl fa fd) (h_wall : FB P w K mg base cl 1 1 (fa 0) F_wall) : FB P w K mg base cl 2 1 (fa 46) F_Store_buffer_entries := by
  have sc := sc_Store_buffer_entries
  have body : ∀ (cdv : Value) (A : Around) (outer : List PySem.Env) (sh : Shared) (H : Hp) (E : XK), Room 1 (A.deeper (envOfC "Store.buffer_entries" (defScope s_Store_buffer_entries) sh.heap.objs.size (fa 46) cdv)) → MSs (cxOf CX0 P w K mg base (["self"] : List Str) "Store.buffer_entries" (defScope s_Store_buffer_entries) (fa 46) cdv A outer sh H E).nox cl (fun _ _ => False) (defBody s_Store_buffer_entries) S_Store_buffer_entries := fun cdv A outer sh H E hr =>
  (mss_one (ms_expr (mx_n (mn_call h_wall (hr.mono (by decide)) rfl T.g_wall T.k_wall (ma_v m_int ma_nil)))))
  rw [e_Store_buffer_entries]
  exact fb_mk T.F_Store_buffer_entries sc (b_Store_buffer_entries T) body
theorem sc_Store_run_entries : FnScope (["self"] : List Str) (["self"] : List Str) (defScope s_Store_run_entries) := ⟨rfl, rfl, rfl, by decide +kernel, rfl, by decide +kernel, by decide +kernel⟩
theorem b_Store_run_entries (T : Txt K mg cl fa fd) : Binds K (fd 47) (["self"] : List Str) [] := T.F_Store_run_entries.binds fun _ _ _ _ _ _ us hl => match us, hl with | [_], _ => rfl
theorem ok_Store_run_entries (T : Txt K mg cl fa fd) (h_wall : FB P w K mg base cl 1 1 (fa 0) F_wall) : FB P w K mg base cl 2 1 (fa 47) F_Store_run_entries := by
  have sc := sc_Store_run_entries
  have body : ∀ (cdv : Value) (A : Around) (outer : List PySem.Env) (sh : Shared) (H : Hp) (E : XK), Room 1 (A.deeper (envOfC "Store.run_entries" (defScope s_Store_run_entries) sh.heap.objs.size (fa 47) cdv)) → MSs (cxOf CX0 P w K mg base (["self"] : List Str) "Store.run_entries" (defScope s_Store_run_entries) (fa 47) cdv A outer sh H E).nox cl (fun _ _ => False) (defBody s_Store_run_entries) S_Store_run_entries := fun cdv A outer sh H E hr =>
  (mss_one (ms_expr (mx_n (mn_call h_wall (hr.mono (by decide)) rfl T.g_wall T.k_wall (ma_v m_int ma_nil)))))
  rw [e_Store_run_entries]
  exact fb_mk T.F_Store_run_entries sc (b_Store_run_entries T) body
theorem sc_Store_runs : FnScope (["self", "run"] : List Str) (["self"] : List Str) (defScope s_Store_runs) := ⟨rfl, rfl, rfl, by decide +kernel, rfl, by decide +kernel, by decide +kernel⟩
theorem b_Store_runs (T : Txt K mg cl fa fd) : Binds K (fd 48) (["self"] : List Str) [] := T.F_Store_runs.binds fun _ _ _ _ _ _ us hl => match us, hl with | [_], _ => rfl
theorem ok_Store_runs (T : Txt K mg cl fa fd) : FB P w K mg base cl 1 1 (fa 48) F_Store_runs := by
  have sc := sc_Store_runs
  have body : ∀ (cdv : Value) (A : Around) (outer : List PySem.Env) (sh : Shared) (H : Hp) (E : XK), Room 0 (A.deeper (envOfC "Store.runs" (defScope s_Store_runs) sh.heap.objs.size (fa 48) cdv)) → MSs (cxOf CX0 P w K mg base (["self", "run"] : List Str) "Store.runs" (defScope s_Store_runs) (fa 48) cdv A outer sh H E).nox cl (fun _ _ => False) (defBody s_Store_runs) S_Store_runs := fun cdv A outer sh H E hr =>
  (mss_one (ms_ret (mx_n (mn_lc (own := ([("run", 1)] : List (Str × Nat))) rfl sc.nd ⟨(mj_any (mq_pl (mp_fld 18 (mp_var 0)))), blkOk_by (N := ["self", "run"]) (sc := defScope s_Store_runs) (by first | decide +kernel | rfl), ⟨[1], by decide, fun _ _ _ _ _ => (mg_name 1 sc.nd)⟩, fun _ _ _ _ _ => (mts_one (t_cmp gc_isnot (mq_pl (mp_var 1)) (mq_e m_non))), fun _ _ _ _ _ => (me_q (mq_pl (mp_var 1))), ⟨sh, H⟩⟩))))
  rw [e_Store_runs]
  exact fb_mk T.F_Store_runs sc (b_Store_runs T) body
theorem sc_Store_levels : FnScope (["self"] : List Str) (["self"] : List Str) (defScope s_Store_levels) := ⟨rfl, rfl, rfl, by decide +kernel, rfl, by decide +kernel, by decide +kernel⟩
theorem b_Store_levels (T : Txt K mg cl fa fd) : Binds K (fd 49) (["self"] : List Str) [] := T.F_Store_levels.binds fun _ _ _ _ _ _ us hl => match us, hl with | [_], _ => rfl
theorem ok_Store_levels (T : Txt K mg cl fa fd) : FB P w K mg base cl 1 1 (fa 49) F_Store_levels := by
  have sc := sc_Store_levels
  have body : ∀ (cdv : Value) (A : Around) (outer : List PySem.Env) (sh : Shared) (H : Hp) (E : XK), Room 0 (A.deeper (envOfC "Store.levels" (defScope s_Store_levels) sh.heap.objs.size (fa 49) cdv)) → MSs (cxOf CX0 P w K mg base (["self"] : List Str) "Store.levels" (defScope s_Store_levels) (fa 49) cdv A outer sh H E).nox cl (fun _ _ => False) (defBody s_Store_levels) S_Store_levels := fun cdv A outer sh H E hr =>
  (mss_one (ms_ret (mx_n (mn_e (m_callB gb_len rfl T.z_len (by decide +kernel) (mq_pl (mp_fld 18 (mp_var 0))))))))
  rw [e_Store_levels]
  exact fb_mk T.F_Store_levels sc (b_Store_levels T) body
theorem sc_Store_take_buffer : FnScope (["self", "entries"] : List Str) (["self", "entries"] : List Str) (defScope s_Store_take_buffer) := ⟨rfl, rfl, rfl, by decide +kernel, rfl, by decide +kernel, by decide +kernel⟩
theorem b_Store_take_buffer (T : Txt K mg cl fa fd) : Binds K (fd 50) (["self", "entries"] : List Str) [] := T.F_Store_take_buffer.binds fun _ _ _ _ _ _ us hl => match us, hl with | [_, _], _ => rfl
theorem ok_Store_take_buffer (T : Txt K mg cl fa fd) (h_wall : FB P w K mg base cl 1 1 (fa 0) F_wall) : FB P w K mg base cl 2 2 (fa 50) F_Store_take_buffer := by
  have sc := sc_Store_take_buffer
  have body : ∀ (cdv : Value) (A : Around) (outer : List PySem.Env) (sh : Shared) (H : Hp) (E : XK), Room 1 (A.deeper (envOfC "Store.take_buffer" (defScope s_Store_take_buffer) sh.heap.objs.size (fa 50) cdv)) → MSs (cxOf CX0 P w K mg base (["self", "entries"] : List Str) "Store.take_buffer" (defScope s_Store_take_buffer) (fa 50) cdv A outer sh H E).nox cl (fun _ _ => False) (defBody s_Store_take_buffer) S_Store_take_buffer := fun cdv A outer sh H E hr =>
  (mss_one (ms_expr (mx_n (mn_call h_wall (hr.mono (by decide)) rfl T.g_wall T.k_wall (ma_v m_int ma_nil)))))
  rw [e_Store_take_buffer]
  exact fb_mk T.F_Store_take_buffer sc (b_Store_take_buffer T) body
theorem sc_Store_take_run : FnScope (["self", "level", "entries"] : List Str) (["self", "level", "entries"] : List Str) (defScope s_Store_take_run) := ⟨rfl, rfl, rfl, by decide +kernel, rfl, by decide +kernel, by decide +kernel⟩
theorem b_Store_take_run (T : Txt K mg cl fa fd) : Binds K (fd 51) (["self", "level", "entries"] : List Str) [] := T.F_Store_take_run.binds fun _ _ _ _ _ _ us hl => match us, hl with | [_, _, _], _ => rfl
theorem ok_Store_take_run (T : Txt K mg cl fa fd) (h_wall : FB P w K mg base cl 1 1 (fa 0) F_wall) : FB P w K mg base cl 2 3 (fa 51) F_Store_take_run := by
  have sc := sc_Store_take_run
  have body : ∀ (cdv : Value) (A : Around) (outer : List PySem.Env) (sh : Shared) (H : Hp) (E : XK), Room 1 (A.deeper (envOfC "Store.take_run" (defScope s_Store_take_run) sh.heap.objs.size (fa 51) cdv)) → MSs (cxOf CX0 P w K mg base (["self", "level", "entries"] : List Str) "Store.take_run" (defScope s_Store_take_run) (fa 51) cdv A outer sh H E).nox cl (fun _ _ => False) (defBody s_Store_take_run) S_Store_take_run := fun cdv A outer sh H E hr =>
  (mss_one (ms_expr (mx_n (mn_call h_wall (hr.mono (by decide)) rfl T.g_wall T.k_wall (ma_v m_int ma_nil)))))
  rw [e_Store_take_run]
  exact fb_mk T.F_Store_take_run sc (b_Store_take_run T) body
theorem sc_law_cell : FnScope (["_law_script", "_law_k"] : List Str) (["_law_script", "_law_k"] : List Str) (defScope s_law_cell) := ⟨rfl, rfl, rfl, by decide +kernel, rfl, by decide +kernel, by decide +kernel⟩
theorem b_law_cell (T : Txt K mg cl fa fd) : Binds K (fd 52) (["_law_script", "_law_k"] : List Str) [] := T.F_law_cell.binds fun _ _ _ _ _ _ us hl => match us, hl with | [_, _], _ => rfl
theorem ok_law_cell (T : Txt K mg cl fa fd) : FB P w K mg base cl 1 2 (fa 52) F_law_cell := by
  have sc := sc_law_cell
  have body : ∀ (cdv : Value) (A : Around) (outer : List PySem.Env) (sh : Shared) (H : Hp) (E : XK), Room 0 (A.deeper (envOfC "_law_cell" (defScope s_law_cell) sh.heap.objs.size (fa 52) cdv)) → MSs (cxOf CX0 P w K mg base (["_law_script", "_law_k"] : List Str) "_law_cell" (defScope s_law_cell) (fa 52) cdv A outer sh H E).nox cl (fun _ _ => False) (defBody s_law_cell) S_law_cell := fun cdv A outer sh H E hr =>
  (mss_consF (ms_if (mu_t (t_cmp gc_lt (mq_pl (mp_var 1)) (mq_e (m_callB gb_len rfl T.z_len (by decide +kernel) (mq_pl (mp_var 0))))))
  (mss_one (ms_ret (mx_e (m_ix (mq_pl (mp_var 0)) (mq_pl (mp_var 1))))))
  mss_nil)
  (mss_one (ms_ret (mx_e m_int))))
  rw [e_law_cell]
  exact fb_mk T.F_law_cell sc (b_law_cell T) body
theorem sc_law_digits : FnScope (["_law_cell_here", "_law_many", "_law_count", "_law_digits_here", "_law_rest", "_law_k", "_law_mixed"] : List Str) (["_law_cell_here", "_law_many", "_law_count"] : List Str) (defScope s_law_digits) := ⟨rfl, rfl, rfl, by decide +kernel, rfl, by decide +kernel, by decide +kernel⟩
theorem b_law_digits (T : Txt K mg cl fa fd) : Binds K (fd 53) (["_law_cell_here", "_law_many", "_law_count"] : List Str) [] := T.F_law_digits.binds fun _ _ _ _ _ _ us hl => match us, hl with | [_, _, _], _ => rfl
theorem ok_law_digits (T : Txt K mg cl fa fd) : FB P w K mg base cl 1 3 (fa 53) F_law_digits := by
  have sc := sc_law_digits
  have body : ∀ (cdv : Value) (A : Around) (outer : List PySem.Env) (sh : Shared) (H : Hp) (E : XK), Room 0 (A.deeper (envOfC "_law_digits" (defScope s_law_digits) sh.heap.objs.size (fa 53) cdv)) → MSs (cxOf CX0 P w K mg base (["_law_cell_here", "_law_many", "_law_count", "_law_digits_here", "_law_rest", "_law_k", "_law_mixed"] : List Str) "_law_digits" (defScope s_law_digits) (fa 53) cdv A outer sh H E).nox cl (fun _ _ => False) (defBody s_law_digits) S_law_digits := fun cdv A outer sh H E hr =>
  (mss_consF (ms_set 3 sc.nd (mx_n (mn_lst ma_nil)))
  (mss_consF (ms_set 4 sc.nd (mx_e (me_q (mq_pl (mp_var 0)))))
  (mss_consF (ms_for PassesOwn.never rfl (mi_range1 rfl T.z_range (mq_pl (mp_var 2))) (mg_name 5 sc.nd)
  (mss_one (ms_ifJ (mu_t (t_cmp gc_ge (mq_pl (mp_var 0)) (mq_e (m_powK (i := 10) (j := 18) (m_powI (mq_e m_int) (mq_e m_int))))))
  (mss_consF (ms_expr (mx_app (mp_var 3) (m_modI (mq_e (m_callT gb_int rfl T.z_int (by decide +kernel) (mq_pl (mp_var 4)))) (mq_pl (mp_var 1)))))
  (mss_one (ms_set 4 sc.nd (mx_e (m_divI (mq_pl (mp_var 4)) (mq_pl (mp_var 1)))))))
  (mss_consF (ms_set 6 sc.nd (mx_e (m_modI (mq_e (m_callT gb_int rfl T.z_int (by decide +kernel) (mq_e (m_add (mq_e (m_add (mq_e (m_mulI (mq_pl (mp_var 0)) (mq_e m_int))) (mq_e (m_mulI (mq_pl (mp_var 5)) (mq_e m_int))))) (mq_e m_int))))) (mq_e m_int))))
  (mss_consF (ms_set 6 sc.nd (mx_e (m_modI (mq_e (m_callT gb_int rfl T.z_int (by decide +kernel) (mq_e (m_add (mq_e (m_add (mq_e (m_mulI (mq_pl (mp_var 6)) (mq_pl (mp_var 6)))) (mq_e (m_mulI (mq_e m_int) (mq_pl (mp_var 6)))))) (mq_pl (mp_var 5)))))) (mq_e m_int))))
  (mss_one (ms_expr (mx_app (mp_var 3) (m_modI (mq_e (m_callT gb_int rfl T.z_int (by decide +kernel) (mq_e (m_divI (mq_pl (mp_var 6)) (mq_e m_int))))) (mq_pl (mp_var 1)))))))))))
  (mss_one (ms_ret (mx_mv 3))))))
  rw [e_law_digits]
  exact fb_mk T.F_law_digits sc (b_law_digits T) body
theorem sc_law_edits : FnScope (["_law_script", "_law_place", "_law_most", "_law_cell_here", "_law_count", "_law_many", "_law_rows", "_law_edits_here", "_law_k", "_law_key", "_law_value"] : List Str) (["_law_script", "_law_place", "_law_most"] : List Str) (defScope s_law_edits) := ⟨rfl, rfl, rfl, by decide +kernel, rfl, by decide +kernel, by decide +kernel⟩
theorem b_law_edits (T : Txt K mg cl fa fd) : Binds K (fd 54) (["_law_script", "_law_place", "_law_most"] : List Str) [] := T.F_law_edits.binds fun _ _ _ _ _ _ us hl => match us, hl with | [_, _, _], _ => rfl
theorem ok_law_edits (T : Txt K mg cl fa fd) (h_law_cell : FB P w K mg base cl 1 2 (fa 52) F_law_cell) (h_law_digits : FB P w K mg base cl 1 3 (fa 53) F_law_digits) : FB P w K mg base cl 2 3 (fa 54) F_law_edits := by
  have sc := sc_law_edits
  have body : ∀ (cdv : Value) (A : Around) (outer : List PySem.Env) (sh : Shared) (H : Hp) (E : XK), Room 1 (A.deeper (envOfC "_law_edits" (defScope s_law_edits) sh.heap.objs.size (fa 54) cdv)) → MSs (cxOf CX0 P w K mg base (["_law_script", "_law_place", "_law_most", "_law_cell_here", "_law_count", "_law_many", "_law_rows", "_law_edits_here", "_law_k", "_law_key", "_law_value"] : List Str) "_law_edits" (defScope s_law_edits) (fa 54) cdv A outer sh H E).nox cl (fun _ _ => False) (defBody s_law_edits) S_law_edits := fun cdv A outer sh H E hr =>
  (mss_consF (ms_set 3 sc.nd (mx_e (me_n (mn_call h_law_cell (hr.mono (by decide)) rfl T.g_law_cell T.k_law_cell (ma_br (mp_var 0) (ma_v (me_q (mq_pl (mp_var 1))) ma_nil))))))
  (mss_consF (ms_set 4 sc.nd (mx_e (m_modI (mq_e (m_callT gb_int rfl T.z_int (by decide +kernel) (mq_pl (mp_var 3)))) (mq_e (m_add (mq_pl (mp_var 2)) (mq_e m_int))))))
  (mss_consF (ms_set 5 sc.nd (mx_e (m_ix (mq_e (m_lst (ma_v m_int (ma_v m_int (ma_v m_int (ma_v (m_powK (i := 10) (j := 6) (m_powI (mq_e m_int) (mq_e m_int))) ma_nil)))))) (mq_e (m_modI (mq_e (m_callT gb_int rfl T.z_int (by decide +kernel) (mq_e (m_divI (mq_pl (mp_var 3)) (mq_e (m_add (mq_pl (mp_var 2)) (mq_e m_int))))))) (mq_e m_int))))))
  (mss_consF (ms_set 6 sc.nd (mx_e (me_n (mn_call h_law_digits (hr.mono (by decide)) rfl T.g_law_digits T.k_law_digits (ma_v (me_n (mn_call h_law_cell (hr.mono (by decide)) rfl T.g_law_cell T.k_law_cell (ma_br (mp_var 0) (ma_v (m_add (mq_pl (mp_var 1)) (mq_e m_int)) ma_nil)))) (ma_v (m_powK (i := 10) (j := 7) (m_powI (mq_e m_int) (mq_e m_int))) (ma_v (me_q (mq_pl (mp_var 4))) ma_nil)))))))
  (mss_consF (ms_set 7 sc.nd (mx_n (mn_lst ma_nil)))
  (mss_consF (ms_for PassesOwn.never rfl (mi_range1 rfl T.z_range (mq_pl (mp_var 4))) (mg_name 8 sc.nd)
  (mss_consF (ms_set 9 sc.nd (mx_e (m_subI (mq_e (m_modI (mq_e (m_callT gb_int rfl T.z_int (by decide +kernel) (mq_e (m_ix (mq_pl (mp_var 6)) (mq_pl (mp_var 8)))))) (mq_pl (mp_var 5)))) (mq_e (m_ix (mq_e (m_lst (ma_v m_int (ma_v m_int (ma_v m_int (ma_v m_int ma_nil)))))) (mq_e (m_modI (mq_e (m_callT gb_int rfl T.z_int (by decide +kernel) (mq_e (m_divI (mq_pl (mp_var 3)) (mq_e (m_add (mq_pl (mp_var 2)) (mq_e m_int))))))) (mq_e m_int))))))))
  (mss_consF (ms_set 10 sc.nd (mx_e (m_subI (mq_e (m_modI (mq_e (m_callT gb_int rfl T.z_int (by decide +kernel) (mq_e (m_divI (mq_e (m_ix (mq_pl (mp_var 6)) (mq_pl (mp_var 8)))) (mq_e m_int))))) (mq_e m_int))) (mq_e m_int))))
  (mss_one (ms_ifJ (mu_t (t_cmp (gc_eq hr.units) (mq_e (m_modI (mq_e (m_callT gb_int rfl T.z_int (by decide +kernel) (mq_e (m_divI (mq_e (m_ix (mq_pl (mp_var 6)) (mq_pl (mp_var 8)))) (mq_e m_int))))) (mq_e m_int))) (mq_e m_int)))
  (mss_one (ms_expr (mx_app (mp_var 7) (m_tup (ma_v (me_q (mq_pl (mp_var 9))) (ma_v m_non ma_nil))))))
  (mss_one (ms_expr (mx_app (mp_var 7) (m_tup (ma_v (me_q (mq_pl (mp_var 9))) (ma_v (me_q (mq_pl (mp_var 10))) ma_nil)))))))))))
  (mss_one (ms_ret (mx_mv 7)))))))))
  rw [e_law_edits]
  exact fb_mk T.F_law_edits sc (b_law_edits T) body
theorem sc_law_done : FnScope (["_law_edits_here", "_law_found", "_law_key", "_law_value"] : List Str) (["_law_edits_here"] : List Str) (defScope s_law_done) := ⟨rfl, rfl, rfl, by decide +kernel, rfl, by decide +kernel, by decide +kernel⟩
theorem b_law_done (T : Txt K mg cl fa fd) : Binds K (fd 55) (["_law_edits_here"] : List Str) [] := T.F_law_done.binds fun _ _ _ _ _ _ us hl => match us, hl with | [_], _ => rfl
theorem ok_law_done (T : Txt K mg cl fa fd) : FB P w K mg base cl 1 1 (fa 55) F_law_done := by
  have sc := sc_law_done
  have body : ∀ (cdv : Value) (A : Around) (outer : List PySem.Env) (sh : Shared) (H : Hp) (E : XK), Room 0 (A.deeper (envOfC "_law_done" (defScope s_law_done) sh.heap.objs.size (fa 55) cdv)) → MSs (cxOf CX0 P w K mg base (["_law_edits_here", "_law_found", "_law_key", "_law_value"] : List Str) "_law_done" (defScope s_law_done) (fa 55) cdv A outer sh H E).nox cl (fun _ _ => False) (defBody s_law_done) S_law_done := fun cdv A outer sh H E hr =>
  (mss_consF (ms_set 1 sc.nd (mx_n mn_dict))
  (mss_consF (ms_for PassesOwn.never rfl (mi_any (me_q (mq_pl (mp_var 0)))) (mg_tup rfl (mgs_cons (mg_name 2 sc.nd) (mgs_cons (mg_name 3 sc.nd) mgs_nil)))
  (mss_one (ms_setD hr.units (mp_var 1) (mq_pl (mp_var 2)) (mx_e (me_q (mq_pl (mp_var 3)))))))
  (mss_one (ms_ret (mx_n (mn_lc (own := ([("_law_key", 2)] : List (Str × Nat))) rfl sc.nd ⟨(mj_any (mq_e (m_callB gb_sortI rfl T.z_sorted (by decide +kernel) (mq_e (m_callT (gb_listD rfl) rfl T.z_list (by decide +kernel) (mq_pl (mp_var 1))))))), blkOk_by (N := ["_law_edits_here", "_law_found", "_law_key", "_law_value"]) (sc := defScope s_law_done) (by first | decide +kernel | rfl), ⟨[2], by decide, fun _ _ _ _ _ => (mg_name 2 sc.nd)⟩, fun _ _ _ _ _ => (mts_one (t_cmp gc_isnot (mq_e (m_dx hr.units (mq_pl (mp_var 1)) (mq_pl (mp_var 2)))) (mq_e m_non))), fun _ _ _ _ _ => (m_tup (ma_v (me_q (mq_pl (mp_var 2))) (ma_v (m_dx hr.units (mq_pl (mp_var 1)) (mq_pl (mp_var 2))) ma_nil))), ⟨sh, H⟩⟩))))))
  rw [e_law_done]
  exact fb_mk T.F_law_done sc (b_law_done T) body
theorem sc_law_edit : FnScope (["_law_store", "_law_edit_here"] : List Str) (["_law_store", "_law_edit_here"] : List Str) (defScope s_law_edit) := ⟨rfl, rfl, rfl, by decide +kernel, rfl, by decide +kernel, by decide +kernel⟩
theorem b_law_edit (T : Txt K mg cl fa fd) : Binds K (fd 56) (["_law_store", "_law_edit_here"] : List Str) [] := T.F_law_edit.binds fun _ _ _ _ _ _ us hl => match us, hl with | [_, _], _ => rfl
theorem ok_law_edit (T : Txt K mg cl fa fd) (h_Store_put : FB P w K mg base cl 13 3 (fa 39) F_Store_put) (h_Store_remove : FB P w K mg base cl 13 2 (fa 40) F_Store_remove) : FB P w K mg base cl 14 2 (fa 56) F_law_edit := by
  have sc := sc_law_edit
  have body : ∀ (cdv : Value) (A : Around) (outer : List PySem.Env) (sh : Shared) (H : Hp) (E : XK), Room 13 (A.deeper (envOfC "_law_edit" (defScope s_law_edit) sh.heap.objs.size (fa 56) cdv)) → MSs (cxOf CX0 P w K mg base (["_law_store", "_law_edit_here"] : List Str) "_law_edit" (defScope s_law_edit) (fa 56) cdv A outer sh H E).nox cl (fun _ _ => False) (defBody s_law_edit) S_law_edit := fun cdv A outer sh H E hr =>
  (mss_consF (ms_if (mu_t (t_cmp gc_is (mq_e (m_ix (mq_pl (mp_var 1)) (mq_e m_int))) (mq_e m_non)))
  (mss_one (ms_ret (mx_meth 7 h_Store_remove (hr.mono (by decide)) (mr_mu (mp_var 0)) T.c_Store.2.1 T.me_Store_remove (by decide +kernel) (ma_v (m_ix (mq_pl (mp_var 1)) (mq_e m_int)) ma_nil))))
  mss_nil)
  (mss_one (ms_ret (mx_meth 7 h_Store_put (hr.mono (by decide)) (mr_mu (mp_var 0)) T.c_Store.2.1 T.me_Store_put (by decide +kernel) (ma_v (m_ix (mq_pl (mp_var 1)) (mq_e m_int)) (ma_v (m_ix (mq_pl (mp_var 1)) (mq_e m_int)) ma_nil))))))
  rw [e_law_edit]
  exact fb_mk T.F_law_edit sc (b_law_edit T) body
theorem sc_law_digits_of : FnScope (["_law_number", "_law_count", "_law_rest", "_law_k"] : List Str) (["_law_number"] : List Str) (defScope s_law_digits_of) := ⟨rfl, rfl, rfl, by decide +kernel, rfl, by decide +kernel, by decide +kernel⟩
theorem b_law_digits_of (T : Txt K mg cl fa fd) : Binds K (fd 57) (["_law_number"] : List Str) [] := T.F_law_digits_of.binds fun _ _ _ _ _ _ us hl => match us, hl with | [_], _ => rfl
theorem ok_law_digits_of (T : Txt K mg cl fa fd) : FB P w K mg base cl 1 1 (fa 57) F_law_digits_of := by
  have sc := sc_law_digits_of
  have body : ∀ (cdv : Value) (A : Around) (outer : List PySem.Env) (sh : Shared) (H : Hp) (E : XK), Room 0 (A.deeper (envOfC "_law_digits_of" (defScope s_law_digits_of) sh.heap.objs.size (fa 57) cdv)) → MSs (cxOf CX0 P w K mg base (["_law_number", "_law_count", "_law_rest", "_law_k"] : List Str) "_law_digits_of" (defScope s_law_digits_of) (fa 57) cdv A outer sh H E).nox cl (fun _ _ => False) (defBody s_law_digits_of) S_law_digits_of := fun cdv A outer sh H E hr =>
  (mss_consF (ms_set 1 sc.nd (mx_e m_int))
  (mss_consF (ms_set 2 sc.nd (mx_e (me_q (mq_pl (mp_var 0)))))
  (mss_consF (ms_for PassesOwn.never rfl (mi_range1 rfl T.z_range (mq_e m_int)) (mg_name 3 sc.nd)
  (mss_one (ms_ifJ (mu_t (t_cmp gc_gt (mq_pl (mp_var 2)) (mq_e m_int)))
  (mss_consF (ms_set 1 sc.nd (mx_e (m_add (mq_pl (mp_var 1)) (mq_e m_int))))
  (mss_one (ms_set 2 sc.nd (mx_e (m_divI (mq_pl (mp_var 2)) (mq_e m_int))))))
  mss_nil)))
  (mss_one (ms_ret (mx_e (me_q (mq_pl (mp_var 1)))))))))
  rw [e_law_digits_of]
  exact fb_mk T.F_law_digits_of sc (b_law_digits_of T) body
theorem sc_law : FnScope (["_law_script", "_law_capacity", "_law_store", "_law_edits_here", "_law_more", "_law_m", "_law_sizes", "_law_digits_here", "_law_most", "_law_size", "_law_k"] : List Str) (["_law_script"] : List Str) (defScope s_law) := ⟨rfl, rfl, rfl, by decide +kernel, rfl, by decide +kernel, by decide +kernel⟩
theorem b_law (T : Txt K mg cl fa fd) : Binds K (fd 58) (["_law_script"] : List Str) [] := T.F_law.binds fun _ _ _ _ _ _ us hl => match us, hl with | [_], _ => rfl
theorem ok_law (T : Txt K mg cl fa fd) (h_Store_init__ : FB P w K mg base cl 1 3 (fa 36) F_Store_init__) (h_Store_contents : FB P w K mg base cl 2 1 (fa 42) F_Store_contents) (h_Store_run_sizes : FB P w K mg base cl 1 1 (fa 44) F_Store_run_sizes) (h_law_cell : FB P w K mg base cl 1 2 (fa 52) F_law_cell) (h_law_digits_of : FB P w K mg base cl 1 1 (fa 57) F_law_digits_of) (h_law_done : FB P w K mg base cl 1 1 (fa 55) F_law_done) (h_law_edit : FB P w K mg base cl 14 2 (fa 56) F_law_edit) (h_law_edits : FB P w K mg base cl 2 3 (fa 54) F_law_edits) : FnOk P w K mg base CX0 15 (fa 58) (fd 58) (["_law_script"] : List Str) (sp0 K cl 1 F_law) ∧ ∀ A : Around, Room 15 A → FMono F_law := by
  have sc := sc_law
  have body : ∀ (cdv : Value) (A : Around) (outer : List PySem.Env) (sh : Shared) (H : Hp) (E : XK), Room 14 (A.deeper (envOfC "law" (defScope s_law) sh.heap.objs.size (fa 58) cdv)) → MSs (cxOf CX0 P w K mg base (["_law_script", "_law_capacity", "_law_store", "_law_edits_here", "_law_more", "_law_m", "_law_sizes", "_law_digits_here", "_law_most", "_law_size", "_law_k"] : List Str) "law" (defScope s_law) (fa 58) cdv A outer sh H E).nox cl (fun _ _ => False) (defBody s_law) S_law := fun cdv A outer sh H E hr =>
  (mss_consF (ms_set 1 sc.nd (mx_e (m_add (mq_e m_int) (mq_e (m_modI (mq_e (m_callT gb_int rfl T.z_int (by decide +kernel) (mq_e (me_n (mn_call h_law_cell (hr.mono (by decide)) rfl T.g_law_cell T.k_law_cell (ma_br (mp_var 0) (ma_v m_int ma_nil))))))) (mq_e m_int))))))
  (mss_consF (ms_set 2 sc.nd (mx_n (mn_make 7 h_Store_init__ (hr.mono (by decide)) T.m_Store T.c_Store rfl T.g_Store (ma_v (me_q (mq_pl (mp_var 1))) (ma_v (m_modI (mq_e (m_callT gb_int rfl T.z_int (by decide +kernel) (mq_e (m_divI (mq_e (me_n (mn_call h_law_cell (hr.mono (by decide)) rfl T.g_law_cell T.k_law_cell (ma_br (mp_var 0) (ma_v m_int ma_nil))))) (mq_e m_int))))) (mq_e m_int)) ma_nil)))))
  (mss_consF (ms_set 3 sc.nd (mx_e (me_n (mn_call h_law_edits (hr.mono (by decide)) rfl T.g_law_edits T.k_law_edits (ma_br (mp_var 0) (ma_v m_int (ma_v m_int ma_nil)))))))
  (mss_consF (ms_ifJ (mu_t (t_cmp (gc_eq hr.units) (mq_e (m_modI (mq_e (m_callT gb_int rfl T.z_int (by decide +kernel) (mq_e (me_n (mn_call h_law_cell (hr.mono (by decide)) rfl T.g_law_cell T.k_law_cell (ma_br (mp_var 0) (ma_v m_int ma_nil))))))) (mq_e m_int))) (mq_e m_int)))
  (mss_consF (ms_set 4 sc.nd (mx_e (m_add (mq_e m_int) (mq_e (m_modI (mq_e (m_callT gb_int rfl T.z_int (by decide +kernel) (mq_e (m_divI (mq_e (me_n (mn_call h_law_cell (hr.mono (by decide)) rfl T.g_law_cell T.k_law_cell (ma_br (mp_var 0) (ma_v m_int ma_nil))))) (mq_e m_int))))) (mq_e m_int))))))
  (mss_one (ms_set 3 sc.nd (mx_e (m_add (mq_pl (mp_var 3)) (mq_e (me_n (mn_lc (own := ([("_law_k", 10)] : List (Str × Nat))) rfl sc.nd ⟨(mj_i (mi_range1 rfl T.z_range (mq_pl (mp_var 4)))), blkOk_by (N := ["_law_script", "_law_capacity", "_law_store", "_law_edits_here", "_law_more", "_law_m", "_law_sizes", "_law_digits_here", "_law_most", "_law_size", "_law_k"]) (sc := defScope s_law) (by first | decide +kernel | rfl), ⟨[10], by decide, fun _ _ _ _ _ => (mg_name 10 sc.nd)⟩, fun _ _ _ _ _ => mts_nil, fun _ _ _ _ _ => (m_tup (ma_v (m_add (mq_e (m_powK (i := 10) (j := 7) (m_powI (mq_e m_int) (mq_e m_int)))) (mq_pl (mp_var 10))) (ma_v (m_modI (mq_e (m_callT gb_int rfl T.z_int (by decide +kernel) (mq_pl (mp_var 10)))) (mq_e m_int)) ma_nil))), ⟨sh, H⟩⟩))))))))
  mss_nil)
  (mss_consF (ms_for PassesOwn.never rfl (mi_range2 rfl T.z_range (mq_e m_int) (mq_e (m_add (mq_e (m_callB gb_len rfl T.z_len (by decide +kernel) (mq_pl (mp_var 3)))) (mq_e m_int)))) (mg_name 5 sc.nd)
  (mss_consF (ms_expr (mx_call h_law_edit (hr.mono (by decide)) rfl T.g_law_edit T.k_law_edit (ma_mu (mp_var 2) (ma_v (m_ix (mq_pl (mp_var 3)) (mq_e (m_subI (mq_pl (mp_var 5)) (mq_e m_int)))) ma_nil))))
  (mss_consF (ms_set 6 sc.nd (mx_e (me_n (mn_meth0 7 h_Store_run_sizes (hr.mono (by decide)) (mr_br (mp_var 2)) T.c_Store.2.1 T.me_Store_run_sizes (by decide +kernel)))))
  (mss_consF (ms_set 7 sc.nd (mx_e (me_n (mn_call h_law_digits_of (hr.mono (by decide)) rfl T.g_law_digits_of T.k_law_digits_of (ma_v (me_q (mq_pl (mp_var 5))) ma_nil)))))
  (mss_consF (ms_if (mu_t (t_w (w_or (t_cmp gc_gt (mq_pl (mp_fld 14 (mp_var 2))) (mq_e (m_mulI (mq_pl (mp_var 5)) (mq_pl (mp_var 7))))) (w_or1 (t_cmp gc_gt (mq_e (m_callB gb_len rfl T.z_len (by decide +kernel) (mq_e (me_n (mn_lc (own := ([("_law_size", 9)] : List (Str × Nat))) rfl sc.nd ⟨(mj_any (mq_pl (mp_var 6))), blkOk_by (N := ["_law_script", "_law_capacity", "_law_store", "_law_edits_here", "_law_more", "_law_m", "_law_sizes", "_law_digits_here", "_law_most", "_law_size", "_law_k"]) (sc := defScope s_law) (by first | decide +kernel | rfl), ⟨[9], by decide, fun _ _ _ _ _ => (mg_name 9 sc.nd)⟩, fun _ _ _ _ _ => (mts_one (t_cmp gc_gt (mq_pl (mp_var 9)) (mq_e m_int))), fun _ _ _ _ _ => (me_q (mq_pl (mp_var 9))), ⟨sh, H⟩⟩))))) (mq_pl (mp_var 7)))))))
  (mss_one (ms_ret (mx_e m_bl)))
  mss_nil)
  (mss_consF (ms_set 8 sc.nd (mx_e (me_q (mq_pl (mp_var 1)))))
  (mss_one (ms_for PassesOwn.never rfl (mi_any (me_q (mq_pl (mp_var 6)))) (mg_name 9 sc.nd)
  (mss_consF (ms_if (mu_t (t_cmp gc_gt (mq_pl (mp_var 9)) (mq_pl (mp_var 8))))
  (mss_one (ms_ret (mx_e m_bl)))
  mss_nil)
  (mss_one (ms_set 8 sc.nd (mx_e (m_mulI (mq_pl (mp_var 8)) (mq_e m_int))))))))))))))
  (mss_one (ms_ret (mx_e (m_cmp (gc_eq hr.units) (mq_e (me_n (mn_meth0 7 h_Store_contents (hr.mono (by decide)) (mr_br (mp_var 2)) T.c_Store.2.1 T.me_Store_contents (by decide +kernel)))) (mq_e (me_n (mn_call h_law_done (hr.mono (by decide)) rfl T.g_law_done T.k_law_done (ma_v (me_q (mq_pl (mp_var 3))) ma_nil)))))))))))))
  rw [e_law]
  exact fn_mk T.F_law sc body
end
theorem room_law : Room 15 callerA := ⟨rfl, by decide, by decide⟩
theorem all_mk {l : PySem.W.OpenLaw} {w : World} {K : PySem.W.Frag} {h : Heap} {mg : Str → Option Value} (X : K.In h) (G : h.Ns mainGlobals mg) {fa0 : Addr} (hfa : mg "law" = some (.ref fa0))
    {f0 : Addr} {od0 an0 : Option Addr} {sl0 : Array (Option Value)} {oc0 kV0 dc0 pm0 cd0 ct0 : Value}
    {f1 : Addr} {od1 an1 : Option Addr} {sl1 : Array (Option Value)} {oc1 kV1 dc1 pm1 cd1 ct1 : Value}
    {f2 : Addr} {od2 an2 : Option Addr} {sl2 : Array (Option Value)} {oc2 kV2 dc2 pm2 cd2 ct2 : Value}
    {f3 : Addr} {od3 an3 : Option Addr} {sl3 : Array (Option Value)} {oc3 kV3 dc3 pm3 cd3 ct3 : Value}
    {f4 : Addr} {od4 an4 : Option Addr} {sl4 : Array (Option Value)} {oc4 kV4 dc4 pm4 cd4 ct4 : Value}
    {f5 : Addr} {od5 an5 : Option Addr} {sl5 : Array (Option Value)} {oc5 kV5 dc5 pm5 cd5 ct5 : Value}
    {f6 : Addr} {od6 an6 : Option Addr} {sl6 : Array (Option Value)} {oc6 kV6 dc6 pm6 cd6 ct6 : Value}
    {f7 : Addr} {od7 an7 : Option Addr} {sl7 : Array (Option Value)} {oc7 kV7 dc7 pm7 cd7 ct7 : Value}
    {f8 : Addr} {od8 an8 : Option Addr} {sl8 : Array (Option Value)} {oc8 kV8 dc8 pm8 cd8 ct8 : Value}
    {f9 : Addr} {od9 an9 : Option Addr} {sl9 : Array (Option Value)} {oc9 kV9 dc9 pm9 cd9 ct9 : Value}
    {f10 : Addr} {od10 an10 : Option Addr} {sl10 : Array (Option Value)} {oc10 kV10 dc10 pm10 cd10 ct10 : Value}
    {f11 : Addr} {od11 an11 : Option Addr} {sl11 : Array (Option Value)} {oc11 kV11 dc11 pm11 cd11 ct11 : Value}
    {f12 : Addr} {od12 an12 : Option Addr} {sl12 : Array (Option Value)} {oc12 kV12 dc12 pm12 cd12 ct12 : Value}
    {f13 : Addr} {od13 an13 : Option Addr} {sl13 : Array (Option Value)} {oc13 kV13 dc13 pm13 cd13 ct13 : Value}
    {f14 : Addr} {od14 an14 : Option Addr} {sl14 : Array (Option Value)} {oc14 kV14 dc14 pm14 cd14 ct14 : Value}
    {f15 : Addr} {od15 an15 : Option Addr} {sl15 : Array (Option Value)} {oc15 kV15 dc15 pm15 cd15 ct15 : Value}
    {f16 : Addr} {od16 an16 : Option Addr} {sl16 : Array (Option Value)} {oc16 kV16 dc16 pm16 cd16 ct16 : Value}
    {f17 : Addr} {od17 an17 : Option Addr} {sl17 : Array (Option Value)} {oc17 kV17 dc17 pm17 cd17 ct17 : Value}
    {f18 : Addr} {od18 an18 : Option Addr} {sl18 : Array (Option Value)} {oc18 kV18 dc18 pm18 cd18 ct18 : Value}
    {f19 : Addr} {od19 an19 : Option Addr} {sl19 : Array (Option Value)} {oc19 kV19 dc19 pm19 cd19 ct19 : Value}
    {f20 : Addr} {od20 an20 : Option Addr} {sl20 : Array (Option Value)} {oc20 kV20 dc20 pm20 cd20 ct20 : Value}
    {f21 : Addr} {od21 an21 : Option Addr} {sl21 : Array (Option Value)} {oc21 kV21 dc21 pm21 cd21 ct21 : Value}
    {f22 : Addr} {od22 an22 : Option Addr} {sl22 : Array (Option Value)} {oc22 kV22 dc22 pm22 cd22 ct22 : Value}
    {f23 : Addr} {od23 an23 : Option Addr} {sl23 : Array (Option Value)} {oc23 kV23 dc23 pm23 cd23 ct23 : Value}
    {f24 : Addr} {od24 an24 : Option Addr} {sl24 : Array (Option Value)} {oc24 kV24 dc24 pm24 cd24 ct24 : Value}
    {f25 : Addr} {od25 an25 : Option Addr} {sl25 : Array (Option Value)} {oc25 kV25 dc25 pm25 cd25 ct25 : Value}
    {f26 : Addr} {od26 an26 : Option Addr} {sl26 : Array (Option Value)} {oc26 kV26 dc26 pm26 cd26 ct26 : Value}
    {f27 : Addr} {od27 an27 : Option Addr} {sl27 : Array (Option Value)} {oc27 kV27 dc27 pm27 cd27 ct27 : Value}
    {f28 : Addr} {od28 an28 : Option Addr} {sl28 : Array (Option Value)} {oc28 kV28 dc28 pm28 cd28 ct28 : Value}
    {f29 : Addr} {od29 an29 : Option Addr} {sl29 : Array (Option Value)} {oc29 kV29 dc29 pm29 cd29 ct29 : Value}
    {f30 : Addr} {od30 an30 : Option Addr} {sl30 : Array (Option Value)} {oc30 kV30 dc30 pm30 cd30 ct30 : Value}
    {f31 : Addr} {od31 an31 : Option Addr} {sl31 : Array (Option Value)} {oc31 kV31 dc31 pm31 cd31 ct31 : Value}
    {f32 : Addr} {od32 an32 : Option Addr} {sl32 : Array (Option Value)} {oc32 kV32 dc32 pm32 cd32 ct32 : Value}
    {f33 : Addr} {od33 an33 : Option Addr} {sl33 : Array (Option Value)} {oc33 kV33 dc33 pm33 cd33 ct33 : Value}
    {f34 : Addr} {od34 an34 : Option Addr} {sl34 : Array (Option Value)} {oc34 kV34 dc34 pm34 cd34 ct34 : Value}
    {f35 : Addr} {od35 an35 : Option Addr} {sl35 : Array (Option Value)} {oc35 kV35 dc35 pm35 cd35 ct35 : Value}
    {f36 : Addr} {od36 an36 : Option Addr} {sl36 : Array (Option Value)} {oc36 kV36 dc36 pm36 cd36 ct36 : Value}
    {f37 : Addr} {od37 an37 : Option Addr} {sl37 : Array (Option Value)} {oc37 kV37 dc37 pm37 cd37 ct37 : Value}
    {f38 : Addr} {od38 an38 : Option Addr} {sl38 : Array (Option Value)} {oc38 kV38 dc38 pm38 cd38 ct38 : Value}
    {f39 : Addr} {od39 an39 : Option Addr} {sl39 : Array (Option Value)} {oc39 kV39 dc39 pm39 cd39 ct39 : Value}
    {f40 : Addr} {od40 an40 : Option Addr} {sl40 : Array (Option Value)} {oc40 kV40 dc40 pm40 cd40 ct40 : Value}
    {f41 : Addr} {od41 an41 : Option Addr} {sl41 : Array (Option Value)} {oc41 kV41 dc41 pm41 cd41 ct41 : Value}
    {f42 : Addr} {od42 an42 : Option Addr} {sl42 : Array (Option Value)} {oc42 kV42 dc42 pm42 cd42 ct42 : Value}
    {f43 : Addr} {od43 an43 : Option Addr} {sl43 : Array (Option Value)} {oc43 kV43 dc43 pm43 cd43 ct43 : Value}
    {f44 : Addr} {od44 an44 : Option Addr} {sl44 : Array (Option Value)} {oc44 kV44 dc44 pm44 cd44 ct44 : Value}
    {f45 : Addr} {od45 an45 : Option Addr} {sl45 : Array (Option Value)} {oc45 kV45 dc45 pm45 cd45 ct45 : Value}
    {f46 : Addr} {od46 an46 : Option Addr} {sl46 : Array (Option Value)} {oc46 kV46 dc46 pm46 cd46 ct46 : Value}
    {f47 : Addr} {od47 an47 : Option Addr} {sl47 : Array (Option Value)} {oc47 kV47 dc47 pm47 cd47 ct47 : Value}
    {f48 : Addr} {od48 an48 : Option Addr} {sl48 : Array (Option Value)} {oc48 kV48 dc48 pm48 cd48 ct48 : Value}
    {f49 : Addr} {od49 an49 : Option Addr} {sl49 : Array (Option Value)} {oc49 kV49 dc49 pm49 cd49 ct49 : Value}
    {f50 : Addr} {od50 an50 : Option Addr} {sl50 : Array (Option Value)} {oc50 kV50 dc50 pm50 cd50 ct50 : Value}
    {f51 : Addr} {od51 an51 : Option Addr} {sl51 : Array (Option Value)} {oc51 kV51 dc51 pm51 cd51 ct51 : Value}
    {f52 : Addr} {od52 an52 : Option Addr} {sl52 : Array (Option Value)} {oc52 kV52 dc52 pm52 cd52 ct52 : Value}
    {f53 : Addr} {od53 an53 : Option Addr} {sl53 : Array (Option Value)} {oc53 kV53 dc53 pm53 cd53 ct53 : Value}
    {f54 : Addr} {od54 an54 : Option Addr} {sl54 : Array (Option Value)} {oc54 kV54 dc54 pm54 cd54 ct54 : Value}
    {f55 : Addr} {od55 an55 : Option Addr} {sl55 : Array (Option Value)} {oc55 kV55 dc55 pm55 cd55 ct55 : Value}
    {f56 : Addr} {od56 an56 : Option Addr} {sl56 : Array (Option Value)} {oc56 kV56 dc56 pm56 cd56 ct56 : Value}
    {f57 : Addr} {od57 an57 : Option Addr} {sl57 : Array (Option Value)} {oc57 kV57 dc57 pm57 cd57 ct57 : Value}
    {f58 : Addr} {od58 an58 : Option Addr} {sl58 : Array (Option Value)} {oc58 kV58 dc58 pm58 cd58 ct58 : Value}
    {C0 : Addr}
    {C1 : Addr}
    {C4 : Addr}
    {C5 : Addr}
    {C6 : Addr}
    {C7 : Addr}
    {tok_UPPER : Tok}
    (ac0 : PySem.W.nsIn K mainGlobals "Fitter" = some (some (.ref C0)))
    (ac1 : PySem.W.nsIn K mainGlobals "Cutting" = some (some (.ref C1)))
    (ac4 : PySem.W.nsIn K mainGlobals "Level" = some (some (.ref C4)))
    (ac5 : PySem.W.nsIn K mainGlobals "Index" = some (some (.ref C5)))
    (ac6 : PySem.W.nsIn K mainGlobals "Run" = some (some (.ref C6)))
    (ac7 : PySem.W.nsIn K mainGlobals "Store" = some (some (.ref C7)))
    (a0 : PySem.W.nsIn K mainGlobals "_wall" = some (some (.ref f0)))
    (l0 : K.lookup f0 = some ⟨oc0, od0, .func (PySem.W.fnOf "_wall" "_wall" (defArgs s_wall) (defBody s_wall) (defScope s_wall) .none kV0 dc0 pm0 an0 cd0 ct0), sl0⟩)
    (c0 : PySem.W.codeIn K cd0 "_wall" = true)
    (k0 : PySem.W.keepIn K (.ref f0) = true)
    (a1 : PySem.W.nsIn K mainGlobals "common_divisor" = some (some (.ref f1)))
    (l1 : K.lookup f1 = some ⟨oc1, od1, .func (PySem.W.fnOf "common_divisor" "common_divisor" (defArgs s_common_divisor) (defBody s_common_divisor) (defScope s_common_divisor) .none kV1 dc1 pm1 an1 cd1 ct1), sl1⟩)
    (c1 : PySem.W.codeIn K cd1 "common_divisor" = true)
    (k1 : PySem.W.keepIn K (.ref f1) = true)
    (a2 : PySem.W.nsIn K mainGlobals "floor_at" = some (some (.ref f2)))
    (l2 : K.lookup f2 = some ⟨oc2, od2, .func (PySem.W.fnOf "floor_at" "floor_at" (defArgs s_floor_at) (defBody s_floor_at) (defScope s_floor_at) .none kV2 dc2 pm2 an2 cd2 ct2), sl2⟩)
    (c2 : PySem.W.codeIn K cd2 "floor_at" = true)
    (k2 : PySem.W.keepIn K (.ref f2) = true)
    (a3 : PySem.W.nsIn K mainGlobals "ceiling_at" = some (some (.ref f3)))
    (l3 : K.lookup f3 = some ⟨oc3, od3, .func (PySem.W.fnOf "ceiling_at" "ceiling_at" (defArgs s_ceiling_at) (defBody s_ceiling_at) (defScope s_ceiling_at) .none kV3 dc3 pm3 an3 cd3 ct3), sl3⟩)
    (c3 : PySem.W.codeIn K cd3 "ceiling_at" = true)
    (k3 : PySem.W.keepIn K (.ref f3) = true)
    (a4 : PySem.W.nsIn K mainGlobals "fraction" = some (some (.ref f4)))
    (l4 : K.lookup f4 = some ⟨oc4, od4, .func (PySem.W.fnOf "fraction" "fraction" (defArgs s_fraction) (defBody s_fraction) (defScope s_fraction) .none kV4 dc4 pm4 an4 cd4 ct4), sl4⟩)
    (c4 : PySem.W.codeIn K cd4 "fraction" = true)
    (k4 : PySem.W.keepIn K (.ref f4) = true)
    (a5 : PySem.W.nsIn K mainGlobals "slope_between" = some (some (.ref f5)))
    (l5 : K.lookup f5 = some ⟨oc5, od5, .func (PySem.W.fnOf "slope_between" "slope_between" (defArgs s_slope_between) (defBody s_slope_between) (defScope s_slope_between) .none kV5 dc5 pm5 an5 cd5 ct5), sl5⟩)
    (c5 : PySem.W.codeIn K cd5 "slope_between" = true)
    (k5 : PySem.W.keepIn K (.ref f5) = true)
    (a6 : PySem.W.nsIn K mainGlobals "line_with_slope" = some (some (.ref f6)))
    (l6 : K.lookup f6 = some ⟨oc6, od6, .func (PySem.W.fnOf "line_with_slope" "line_with_slope" (defArgs s_line_with_slope) (defBody s_line_with_slope) (defScope s_line_with_slope) .none kV6 dc6 pm6 an6 cd6 ct6), sl6⟩)
    (c6 : PySem.W.codeIn K cd6 "line_with_slope" = true)
    (k6 : PySem.W.keepIn K (.ref f6) = true)
    (a7 : PySem.W.nsIn K mainGlobals "turn" = some (some (.ref f7)))
    (l7 : K.lookup f7 = some ⟨oc7, od7, .func (PySem.W.fnOf "turn" "turn" (defArgs s_turn) (defBody s_turn) (defScope s_turn) .none kV7 dc7 pm7 an7 cd7 ct7), sl7⟩)
    (c7 : PySem.W.codeIn K cd7 "turn" = true)
    (k7 : PySem.W.keepIn K (.ref f7) = true)
    (a8 : PySem.W.nsIn K mainGlobals "rise_over" = some (some (.ref f8)))
    (l8 : K.lookup f8 = some ⟨oc8, od8, .func (PySem.W.fnOf "rise_over" "rise_over" (defArgs s_rise_over) (defBody s_rise_over) (defScope s_rise_over) .none kV8 dc8 pm8 an8 cd8 ct8), sl8⟩)
    (c8 : PySem.W.codeIn K cd8 "rise_over" = true)
    (k8 : PySem.W.keepIn K (.ref f8) = true)
    (a9 : PySem.W.nsIn K mainGlobals "is_below" = some (some (.ref f9)))
    (l9 : K.lookup f9 = some ⟨oc9, od9, .func (PySem.W.fnOf "is_below" "is_below" (defArgs s_is_below) (defBody s_is_below) (defScope s_is_below) .none kV9 dc9 pm9 an9 cd9 ct9), sl9⟩)
    (c9 : PySem.W.codeIn K cd9 "is_below" = true)
    (k9 : PySem.W.keepIn K (.ref f9) = true)
    (a10 : PySem.W.findIn K (.ref C0) "__init__" = some (some (.ref f10)))
    (i10 : PySem.W.isFn K (.ref f10) = true)
    (l10 : K.lookup f10 = some ⟨oc10, od10, .func (PySem.W.fnOf "__init__" "Fitter.__init__" (defArgs s_Fitter_init__) (defBody s_Fitter_init__) (defScope s_Fitter_init__) .none kV10 dc10 pm10 an10 cd10 ct10), sl10⟩)
    (c10 : PySem.W.codeIn K cd10 "Fitter.__init__" = true)
    (k10 : PySem.W.keepIn K (.ref f10) = true)
    (a11 : PySem.W.findIn K (.ref C0) "conflict" = some (some (.ref f11)))
    (i11 : PySem.W.isFn K (.ref f11) = true)
    (l11 : K.lookup f11 = some ⟨oc11, od11, .func (PySem.W.fnOf "conflict" "Fitter.conflict" (defArgs s_Fitter_conflict) (defBody s_Fitter_conflict) (defScope s_Fitter_conflict) .none kV11 dc11 pm11 an11 cd11 ct11), sl11⟩)
    (c11 : PySem.W.codeIn K cd11 "Fitter.conflict" = true)
    (k11 : PySem.W.keepIn K (.ref f11) = true)
    (a12 : PySem.W.findIn K (.ref C0) "add_corners" = some (some (.ref f12)))
    (i12 : PySem.W.isFn K (.ref f12) = true)
    (l12 : K.lookup f12 = some ⟨oc12, od12, .func (PySem.W.fnOf "add_corners" "Fitter.add_corners" (defArgs s_Fitter_add_corners) (defBody s_Fitter_add_corners) (defScope s_Fitter_add_corners) .none kV12 dc12 pm12 an12 cd12 ct12), sl12⟩)
    (c12 : PySem.W.codeIn K cd12 "Fitter.add_corners" = true)
    (k12 : PySem.W.keepIn K (.ref f12) = true)
    (a13 : PySem.W.findIn K (.ref C0) "lower_steep" = some (some (.ref f13)))
    (i13 : PySem.W.isFn K (.ref f13) = true)
    (l13 : K.lookup f13 = some ⟨oc13, od13, .func (PySem.W.fnOf "lower_steep" "Fitter.lower_steep" (defArgs s_Fitter_lower_steep) (defBody s_Fitter_lower_steep) (defScope s_Fitter_lower_steep) .none kV13 dc13 pm13 an13 cd13 ct13), sl13⟩)
    (c13 : PySem.W.codeIn K cd13 "Fitter.lower_steep" = true)
    (k13 : PySem.W.keepIn K (.ref f13) = true)
    (a14 : PySem.W.findIn K (.ref C0) "raise_flat" = some (some (.ref f14)))
    (i14 : PySem.W.isFn K (.ref f14) = true)
    (l14 : K.lookup f14 = some ⟨oc14, od14, .func (PySem.W.fnOf "raise_flat" "Fitter.raise_flat" (defArgs s_Fitter_raise_flat) (defBody s_Fitter_raise_flat) (defScope s_Fitter_raise_flat) .none kV14 dc14 pm14 an14 cd14 ct14), sl14⟩)
    (c14 : PySem.W.codeIn K cd14 "Fitter.raise_flat" = true)
    (k14 : PySem.W.keepIn K (.ref f14) = true)
    (a15 : PySem.W.findIn K (.ref C0) "add" = some (some (.ref f15)))
    (i15 : PySem.W.isFn K (.ref f15) = true)
    (l15 : K.lookup f15 = some ⟨oc15, od15, .func (PySem.W.fnOf "add" "Fitter.add" (defArgs s_Fitter_add) (defBody s_Fitter_add) (defScope s_Fitter_add) .none kV15 dc15 pm15 an15 cd15 ct15), sl15⟩)
    (c15 : PySem.W.codeIn K cd15 "Fitter.add" = true)
    (k15 : PySem.W.keepIn K (.ref f15) = true)
    (a16 : PySem.W.findIn K (.ref C0) "span_at" = some (some (.ref f16)))
    (i16 : PySem.W.isFn K (.ref f16) = true)
    (l16 : K.lookup f16 = some ⟨oc16, od16, .func (PySem.W.fnOf "span_at" "Fitter.span_at" (defArgs s_Fitter_span_at) (defBody s_Fitter_span_at) (defScope s_Fitter_span_at) .none kV16 dc16 pm16 an16 cd16 ct16), sl16⟩)
    (c16 : PySem.W.codeIn K cd16 "Fitter.span_at" = true)
    (k16 : PySem.W.keepIn K (.ref f16) = true)
    (a17 : PySem.W.findIn K (.ref C0) "line" = some (some (.ref f17)))
    (i17 : PySem.W.isFn K (.ref f17) = true)
    (l17 : K.lookup f17 = some ⟨oc17, od17, .func (PySem.W.fnOf "line" "Fitter.line" (defArgs s_Fitter_line) (defBody s_Fitter_line) (defScope s_Fitter_line) .none kV17 dc17 pm17 an17 cd17 ct17), sl17⟩)
    (c17 : PySem.W.codeIn K cd17 "Fitter.line" = true)
    (k17 : PySem.W.keepIn K (.ref f17) = true)
    (a18 : PySem.W.findIn K (.ref C1) "__init__" = some (some (.ref f18)))
    (i18 : PySem.W.isFn K (.ref f18) = true)
    (l18 : K.lookup f18 = some ⟨oc18, od18, .func (PySem.W.fnOf "__init__" "Cutting.__init__" (defArgs s_Cutting_init__) (defBody s_Cutting_init__) (defScope s_Cutting_init__) .none kV18 dc18 pm18 an18 cd18 ct18), sl18⟩)
    (c18 : PySem.W.codeIn K cd18 "Cutting.__init__" = true)
    (k18 : PySem.W.keepIn K (.ref f18) = true)
    (a19 : PySem.W.nsIn K mainGlobals "cut" = some (some (.ref f19)))
    (l19 : K.lookup f19 = some ⟨oc19, od19, .func (PySem.W.fnOf "cut" "cut" (defArgs s_cut) (defBody s_cut) (defScope s_cut) .none kV19 dc19 pm19 an19 cd19 ct19), sl19⟩)
    (c19 : PySem.W.codeIn K cd19 "cut" = true)
    (k19 : PySem.W.keepIn K (.ref f19) = true)
    (a20 : PySem.W.findIn K (.ref C4) "__init__" = some (some (.ref f20)))
    (i20 : PySem.W.isFn K (.ref f20) = true)
    (l20 : K.lookup f20 = some ⟨oc20, od20, .func (PySem.W.fnOf "__init__" "Level.__init__" (defArgs s_Level_init__) (defBody s_Level_init__) (defScope s_Level_init__) .none kV20 dc20 pm20 an20 cd20 ct20), sl20⟩)
    (c20 : PySem.W.codeIn K cd20 "Level.__init__" = true)
    (k20 : PySem.W.keepIn K (.ref f20) = true)
    (a21 : PySem.W.findIn K (.ref C4) "end_of" = some (some (.ref f21)))
    (i21 : PySem.W.isFn K (.ref f21) = true)
    (l21 : K.lookup f21 = some ⟨oc21, od21, .func (PySem.W.fnOf "end_of" "Level.end_of" (defArgs s_Level_end_of) (defBody s_Level_end_of) (defScope s_Level_end_of) .none kV21 dc21 pm21 an21 cd21 ct21), sl21⟩)
    (c21 : PySem.W.codeIn K cd21 "Level.end_of" = true)
    (k21 : PySem.W.keepIn K (.ref f21) = true)
    (a22 : PySem.W.findIn K (.ref C4) "find" = some (some (.ref f22)))
    (i22 : PySem.W.isFn K (.ref f22) = true)
    (l22 : K.lookup f22 = some ⟨oc22, od22, .func (PySem.W.fnOf "find" "Level.find" (defArgs s_Level_find) (defBody s_Level_find) (defScope s_Level_find) .none kV22 dc22 pm22 an22 cd22 ct22), sl22⟩)
    (c22 : PySem.W.codeIn K cd22 "Level.find" = true)
    (k22 : PySem.W.keepIn K (.ref f22) = true)
    (a23 : PySem.W.findIn K (.ref C5) "__init__" = some (some (.ref f23)))
    (i23 : PySem.W.isFn K (.ref f23) = true)
    (l23 : K.lookup f23 = some ⟨oc23, od23, .func (PySem.W.fnOf "__init__" "Index.__init__" (defArgs s_Index_init__) (defBody s_Index_init__) (defScope s_Index_init__) .none kV23 dc23 pm23 an23 cd23 ct23), sl23⟩)
    (c23 : PySem.W.codeIn K cd23 "Index.__init__" = true)
    (k23 : PySem.W.keepIn K (.ref f23) = true)
    (a24 : PySem.W.findIn K (.ref C5) "level_keys" = some (some (.ref f24)))
    (i24 : PySem.W.isFn K (.ref f24) = true)
    (l24 : K.lookup f24 = some ⟨oc24, od24, .func (PySem.W.fnOf "level_keys" "Index.level_keys" (defArgs s_Index_level_keys) (defBody s_Index_level_keys) (defScope s_Index_level_keys) .none kV24 dc24 pm24 an24 cd24 ct24), sl24⟩)
    (c24 : PySem.W.codeIn K cd24 "Index.level_keys" = true)
    (k24 : PySem.W.keepIn K (.ref f24) = true)
    (a25 : PySem.W.findIn K (.ref C5) "pieces" = some (some (.ref f25)))
    (i25 : PySem.W.isFn K (.ref f25) = true)
    (l25 : K.lookup f25 = some ⟨oc25, od25, .func (PySem.W.fnOf "pieces" "Index.pieces" (defArgs s_Index_pieces) (defBody s_Index_pieces) (defScope s_Index_pieces) .none kV25 dc25 pm25 an25 cd25 ct25), sl25⟩)
    (c25 : PySem.W.codeIn K cd25 "Index.pieces" = true)
    (k25 : PySem.W.keepIn K (.ref f25) = true)
    (a26 : PySem.W.findIn K (.ref C5) "look_up" = some (some (.ref f26)))
    (i26 : PySem.W.isFn K (.ref f26) = true)
    (l26 : K.lookup f26 = some ⟨oc26, od26, .func (PySem.W.fnOf "look_up" "Index.look_up" (defArgs s_Index_look_up) (defBody s_Index_look_up) (defScope s_Index_look_up) .none kV26 dc26 pm26 an26 cd26 ct26), sl26⟩)
    (c26 : PySem.W.codeIn K cd26 "Index.look_up" = true)
    (k26 : PySem.W.keepIn K (.ref f26) = true)
    (a27 : PySem.W.findIn K (.ref C5) "rank" = some (some (.ref f27)))
    (i27 : PySem.W.isFn K (.ref f27) = true)
    (l27 : K.lookup f27 = some ⟨oc27, od27, .func (PySem.W.fnOf "rank" "Index.rank" (defArgs s_Index_rank) (defBody s_Index_rank) (defScope s_Index_rank) .none kV27 dc27 pm27 an27 cd27 ct27), sl27⟩)
    (c27 : PySem.W.codeIn K cd27 "Index.rank" = true)
    (k27 : PySem.W.keepIn K (.ref f27) = true)
    (a28 : PySem.W.findIn K (.ref C5) "has" = some (some (.ref f28)))
    (i28 : PySem.W.isFn K (.ref f28) = true)
    (l28 : K.lookup f28 = some ⟨oc28, od28, .func (PySem.W.fnOf "has" "Index.has" (defArgs s_Index_has) (defBody s_Index_has) (defScope s_Index_has) .none kV28 dc28 pm28 an28 cd28 ct28), sl28⟩)
    (c28 : PySem.W.codeIn K cd28 "Index.has" = true)
    (k28 : PySem.W.keepIn K (.ref f28) = true)
    (a29 : PySem.W.findIn K (.ref C5) "count" = some (some (.ref f29)))
    (i29 : PySem.W.isFn K (.ref f29) = true)
    (l29 : K.lookup f29 = some ⟨oc29, od29, .func (PySem.W.fnOf "count" "Index.count" (defArgs s_Index_count) (defBody s_Index_count) (defScope s_Index_count) .none kV29 dc29 pm29 an29 cd29 ct29), sl29⟩)
    (c29 : PySem.W.codeIn K cd29 "Index.count" = true)
    (k29 : PySem.W.keepIn K (.ref f29) = true)
    (a30 : PySem.W.findIn K (.ref C5) "at_most" = some (some (.ref f30)))
    (i30 : PySem.W.isFn K (.ref f30) = true)
    (l30 : K.lookup f30 = some ⟨oc30, od30, .func (PySem.W.fnOf "at_most" "Index.at_most" (defArgs s_Index_at_most) (defBody s_Index_at_most) (defScope s_Index_at_most) .none kV30 dc30 pm30 an30 cd30 ct30), sl30⟩)
    (c30 : PySem.W.codeIn K cd30 "Index.at_most" = true)
    (k30 : PySem.W.keepIn K (.ref f30) = true)
    (a31 : PySem.W.findIn K (.ref C5) "at_least" = some (some (.ref f31)))
    (i31 : PySem.W.isFn K (.ref f31) = true)
    (l31 : K.lookup f31 = some ⟨oc31, od31, .func (PySem.W.fnOf "at_least" "Index.at_least" (defArgs s_Index_at_least) (defBody s_Index_at_least) (defScope s_Index_at_least) .none kV31 dc31 pm31 an31 cd31 ct31), sl31⟩)
    (c31 : PySem.W.codeIn K cd31 "Index.at_least" = true)
    (k31 : PySem.W.keepIn K (.ref f31) = true)
    (a32 : PySem.W.findIn K (.ref C5) "key_at" = some (some (.ref f32)))
    (i32 : PySem.W.isFn K (.ref f32) = true)
    (l32 : K.lookup f32 = some ⟨oc32, od32, .func (PySem.W.fnOf "key_at" "Index.key_at" (defArgs s_Index_key_at) (defBody s_Index_key_at) (defScope s_Index_key_at) .none kV32 dc32 pm32 an32 cd32 ct32), sl32⟩)
    (c32 : PySem.W.codeIn K cd32 "Index.key_at" = true)
    (k32 : PySem.W.keepIn K (.ref f32) = true)
    (a33 : PySem.W.findIn K (.ref C6) "__init__" = some (some (.ref f33)))
    (i33 : PySem.W.isFn K (.ref f33) = true)
    (l33 : K.lookup f33 = some ⟨oc33, od33, .func (PySem.W.fnOf "__init__" "Run.__init__" (defArgs s_Run_init__) (defBody s_Run_init__) (defScope s_Run_init__) .none kV33 dc33 pm33 an33 cd33 ct33), sl33⟩)
    (c33 : PySem.W.codeIn K cd33 "Run.__init__" = true)
    (k33 : PySem.W.keepIn K (.ref f33) = true)
    (a34 : PySem.W.findIn K (.ref C6) "entry" = some (some (.ref f34)))
    (i34 : PySem.W.isFn K (.ref f34) = true)
    (l34 : K.lookup f34 = some ⟨oc34, od34, .func (PySem.W.fnOf "entry" "Run.entry" (defArgs s_Run_entry) (defBody s_Run_entry) (defScope s_Run_entry) .none kV34 dc34 pm34 an34 cd34 ct34), sl34⟩)
    (c34 : PySem.W.codeIn K cd34 "Run.entry" = true)
    (k34 : PySem.W.keepIn K (.ref f34) = true)
    (a35 : PySem.W.nsIn K mainGlobals "merged" = some (some (.ref f35)))
    (l35 : K.lookup f35 = some ⟨oc35, od35, .func (PySem.W.fnOf "merged" "merged" (defArgs s_merged) (defBody s_merged) (defScope s_merged) .none kV35 dc35 pm35 an35 cd35 ct35), sl35⟩)
    (c35 : PySem.W.codeIn K cd35 "merged" = true)
    (k35 : PySem.W.keepIn K (.ref f35) = true)
    (a36 : PySem.W.findIn K (.ref C7) "__init__" = some (some (.ref f36)))
    (i36 : PySem.W.isFn K (.ref f36) = true)
    (l36 : K.lookup f36 = some ⟨oc36, od36, .func (PySem.W.fnOf "__init__" "Store.__init__" (defArgs s_Store_init__) (defBody s_Store_init__) (defScope s_Store_init__) .none kV36 dc36 pm36 an36 cd36 ct36), sl36⟩)
    (c36 : PySem.W.codeIn K cd36 "Store.__init__" = true)
    (k36 : PySem.W.keepIn K (.ref f36) = true)
    (a37 : PySem.W.findIn K (.ref C7) "flush" = some (some (.ref f37)))
    (i37 : PySem.W.isFn K (.ref f37) = true)
    (l37 : K.lookup f37 = some ⟨oc37, od37, .func (PySem.W.fnOf "flush" "Store.flush" (defArgs s_Store_flush) (defBody s_Store_flush) (defScope s_Store_flush) .none kV37 dc37 pm37 an37 cd37 ct37), sl37⟩)
    (c37 : PySem.W.codeIn K cd37 "Store.flush" = true)
    (k37 : PySem.W.keepIn K (.ref f37) = true)
    (a38 : PySem.W.findIn K (.ref C7) "write" = some (some (.ref f38)))
    (i38 : PySem.W.isFn K (.ref f38) = true)
    (l38 : K.lookup f38 = some ⟨oc38, od38, .func (PySem.W.fnOf "write" "Store.write" (defArgs s_Store_write) (defBody s_Store_write) (defScope s_Store_write) .none kV38 dc38 pm38 an38 cd38 ct38), sl38⟩)
    (c38 : PySem.W.codeIn K cd38 "Store.write" = true)
    (k38 : PySem.W.keepIn K (.ref f38) = true)
    (a39 : PySem.W.findIn K (.ref C7) "put" = some (some (.ref f39)))
    (i39 : PySem.W.isFn K (.ref f39) = true)
    (l39 : K.lookup f39 = some ⟨oc39, od39, .func (PySem.W.fnOf "put" "Store.put" (defArgs s_Store_put) (defBody s_Store_put) (defScope s_Store_put) .none kV39 dc39 pm39 an39 cd39 ct39), sl39⟩)
    (c39 : PySem.W.codeIn K cd39 "Store.put" = true)
    (k39 : PySem.W.keepIn K (.ref f39) = true)
    (a40 : PySem.W.findIn K (.ref C7) "remove" = some (some (.ref f40)))
    (i40 : PySem.W.isFn K (.ref f40) = true)
    (l40 : K.lookup f40 = some ⟨oc40, od40, .func (PySem.W.fnOf "remove" "Store.remove" (defArgs s_Store_remove) (defBody s_Store_remove) (defScope s_Store_remove) .none kV40 dc40 pm40 an40 cd40 ct40), sl40⟩)
    (c40 : PySem.W.codeIn K cd40 "Store.remove" = true)
    (k40 : PySem.W.keepIn K (.ref f40) = true)
    (a41 : PySem.W.findIn K (.ref C7) "get" = some (some (.ref f41)))
    (i41 : PySem.W.isFn K (.ref f41) = true)
    (l41 : K.lookup f41 = some ⟨oc41, od41, .func (PySem.W.fnOf "get" "Store.get" (defArgs s_Store_get) (defBody s_Store_get) (defScope s_Store_get) .none kV41 dc41 pm41 an41 cd41 ct41), sl41⟩)
    (c41 : PySem.W.codeIn K cd41 "Store.get" = true)
    (k41 : PySem.W.keepIn K (.ref f41) = true)
    (a42 : PySem.W.findIn K (.ref C7) "contents" = some (some (.ref f42)))
    (i42 : PySem.W.isFn K (.ref f42) = true)
    (l42 : K.lookup f42 = some ⟨oc42, od42, .func (PySem.W.fnOf "contents" "Store.contents" (defArgs s_Store_contents) (defBody s_Store_contents) (defScope s_Store_contents) .none kV42 dc42 pm42 an42 cd42 ct42), sl42⟩)
    (c42 : PySem.W.codeIn K cd42 "Store.contents" = true)
    (k42 : PySem.W.keepIn K (.ref f42) = true)
    (a43 : PySem.W.findIn K (.ref C7) "between" = some (some (.ref f43)))
    (i43 : PySem.W.isFn K (.ref f43) = true)
    (l43 : K.lookup f43 = some ⟨oc43, od43, .func (PySem.W.fnOf "between" "Store.between" (defArgs s_Store_between) (defBody s_Store_between) (defScope s_Store_between) .none kV43 dc43 pm43 an43 cd43 ct43), sl43⟩)
    (c43 : PySem.W.codeIn K cd43 "Store.between" = true)
    (k43 : PySem.W.keepIn K (.ref f43) = true)
    (a44 : PySem.W.findIn K (.ref C7) "run_sizes" = some (some (.ref f44)))
    (i44 : PySem.W.isFn K (.ref f44) = true)
    (l44 : K.lookup f44 = some ⟨oc44, od44, .func (PySem.W.fnOf "run_sizes" "Store.run_sizes" (defArgs s_Store_run_sizes) (defBody s_Store_run_sizes) (defScope s_Store_run_sizes) .none kV44 dc44 pm44 an44 cd44 ct44), sl44⟩)
    (c44 : PySem.W.codeIn K cd44 "Store.run_sizes" = true)
    (k44 : PySem.W.keepIn K (.ref f44) = true)
    (a45 : PySem.W.findIn K (.ref C7) "buffered" = some (some (.ref f45)))
    (i45 : PySem.W.isFn K (.ref f45) = true)
    (l45 : K.lookup f45 = some ⟨oc45, od45, .func (PySem.W.fnOf "buffered" "Store.buffered" (defArgs s_Store_buffered) (defBody s_Store_buffered) (defScope s_Store_buffered) .none kV45 dc45 pm45 an45 cd45 ct45), sl45⟩)
    (c45 : PySem.W.codeIn K cd45 "Store.buffered" = true)
    (k45 : PySem.W.keepIn K (.ref f45) = true)
    (a46 : PySem.W.findIn K (.ref C7) "buffer_entries" = some (some (.ref f46)))
    (i46 : PySem.W.isFn K (.ref f46) = true)
    (l46 : K.lookup f46 = some ⟨oc46, od46, .func (PySem.W.fnOf "buffer_entries" "Store.buffer_entries" (defArgs s_Store_buffer_entries) (defBody s_Store_buffer_entries) (defScope s_Store_buffer_entries) .none kV46 dc46 pm46 an46 cd46 ct46), sl46⟩)
    (c46 : PySem.W.codeIn K cd46 "Store.buffer_entries" = true)
    (k46 : PySem.W.keepIn K (.ref f46) = true)
    (a47 : PySem.W.findIn K (.ref C7) "run_entries" = some (some (.ref f47)))
    (i47 : PySem.W.isFn K (.ref f47) = true)
    (l47 : K.lookup f47 = some ⟨oc47, od47, .func (PySem.W.fnOf "run_entries" "Store.run_entries" (defArgs s_Store_run_entries) (defBody s_Store_run_entries) (defScope s_Store_run_entries) .none kV47 dc47 pm47 an47 cd47 ct47), sl47⟩)
    (c47 : PySem.W.codeIn K cd47 "Store.run_entries" = true)
    (k47 : PySem.W.keepIn K (.ref f47) = true)
    (a48 : PySem.W.findIn K (.ref C7) "runs" = some (some (.ref f48)))
    (i48 : PySem.W.isFn K (.ref f48) = true)
    (l48 : K.lookup f48 = some ⟨oc48, od48, .func (PySem.W.fnOf "runs" "Store.runs" (defArgs s_Store_runs) (defBody s_Store_runs) (defScope s_Store_runs) .none kV48 dc48 pm48 an48 cd48 ct48), sl48⟩)
    (c48 : PySem.W.codeIn K cd48 "Store.runs" = true)
    (k48 : PySem.W.keepIn K (.ref f48) = true)
    (a49 : PySem.W.findIn K (.ref C7) "levels" = some (some (.ref f49)))
    (i49 : PySem.W.isFn K (.ref f49) = true)
    (l49 : K.lookup f49 = some ⟨oc49, od49, .func (PySem.W.fnOf "levels" "Store.levels" (defArgs s_Store_levels) (defBody s_Store_levels) (defScope s_Store_levels) .none kV49 dc49 pm49 an49 cd49 ct49), sl49⟩)
    (c49 : PySem.W.codeIn K cd49 "Store.levels" = true)
    (k49 : PySem.W.keepIn K (.ref f49) = true)
    (a50 : PySem.W.findIn K (.ref C7) "take_buffer" = some (some (.ref f50)))
    (i50 : PySem.W.isFn K (.ref f50) = true)
    (l50 : K.lookup f50 = some ⟨oc50, od50, .func (PySem.W.fnOf "take_buffer" "Store.take_buffer" (defArgs s_Store_take_buffer) (defBody s_Store_take_buffer) (defScope s_Store_take_buffer) .none kV50 dc50 pm50 an50 cd50 ct50), sl50⟩)
    (c50 : PySem.W.codeIn K cd50 "Store.take_buffer" = true)
    (k50 : PySem.W.keepIn K (.ref f50) = true)
    (a51 : PySem.W.findIn K (.ref C7) "take_run" = some (some (.ref f51)))
    (i51 : PySem.W.isFn K (.ref f51) = true)
    (l51 : K.lookup f51 = some ⟨oc51, od51, .func (PySem.W.fnOf "take_run" "Store.take_run" (defArgs s_Store_take_run) (defBody s_Store_take_run) (defScope s_Store_take_run) .none kV51 dc51 pm51 an51 cd51 ct51), sl51⟩)
    (c51 : PySem.W.codeIn K cd51 "Store.take_run" = true)
    (k51 : PySem.W.keepIn K (.ref f51) = true)
    (a52 : PySem.W.nsIn K mainGlobals "_law_cell" = some (some (.ref f52)))
    (l52 : K.lookup f52 = some ⟨oc52, od52, .func (PySem.W.fnOf "_law_cell" "_law_cell" (defArgs s_law_cell) (defBody s_law_cell) (defScope s_law_cell) .none kV52 dc52 pm52 an52 cd52 ct52), sl52⟩)
    (c52 : PySem.W.codeIn K cd52 "_law_cell" = true)
    (k52 : PySem.W.keepIn K (.ref f52) = true)
    (a53 : PySem.W.nsIn K mainGlobals "_law_digits" = some (some (.ref f53)))
    (l53 : K.lookup f53 = some ⟨oc53, od53, .func (PySem.W.fnOf "_law_digits" "_law_digits" (defArgs s_law_digits) (defBody s_law_digits) (defScope s_law_digits) .none kV53 dc53 pm53 an53 cd53 ct53), sl53⟩)
    (c53 : PySem.W.codeIn K cd53 "_law_digits" = true)
    (k53 : PySem.W.keepIn K (.ref f53) = true)
    (a54 : PySem.W.nsIn K mainGlobals "_law_edits" = some (some (.ref f54)))
    (l54 : K.lookup f54 = some ⟨oc54, od54, .func (PySem.W.fnOf "_law_edits" "_law_edits" (defArgs s_law_edits) (defBody s_law_edits) (defScope s_law_edits) .none kV54 dc54 pm54 an54 cd54 ct54), sl54⟩)
    (c54 : PySem.W.codeIn K cd54 "_law_edits" = true)
    (k54 : PySem.W.keepIn K (.ref f54) = true)
    (a55 : PySem.W.nsIn K mainGlobals "_law_done" = some (some (.ref f55)))
    (l55 : K.lookup f55 = some ⟨oc55, od55, .func (PySem.W.fnOf "_law_done" "_law_done" (defArgs s_law_done) (defBody s_law_done) (defScope s_law_done) .none kV55 dc55 pm55 an55 cd55 ct55), sl55⟩)
    (c55 : PySem.W.codeIn K cd55 "_law_done" = true)
    (k55 : PySem.W.keepIn K (.ref f55) = true)
    (a56 : PySem.W.nsIn K mainGlobals "_law_edit" = some (some (.ref f56)))
    (l56 : K.lookup f56 = some ⟨oc56, od56, .func (PySem.W.fnOf "_law_edit" "_law_edit" (defArgs s_law_edit) (defBody s_law_edit) (defScope s_law_edit) .none kV56 dc56 pm56 an56 cd56 ct56), sl56⟩)
    (c56 : PySem.W.codeIn K cd56 "_law_edit" = true)
    (k56 : PySem.W.keepIn K (.ref f56) = true)
    (a57 : PySem.W.nsIn K mainGlobals "_law_digits_of" = some (some (.ref f57)))
    (l57 : K.lookup f57 = some ⟨oc57, od57, .func (PySem.W.fnOf "_law_digits_of" "_law_digits_of" (defArgs s_law_digits_of) (defBody s_law_digits_of) (defScope s_law_digits_of) .none kV57 dc57 pm57 an57 cd57 ct57), sl57⟩)
    (c57 : PySem.W.codeIn K cd57 "_law_digits_of" = true)
    (k57 : PySem.W.keepIn K (.ref f57) = true)
    (a58 : PySem.W.nsIn K mainGlobals "law" = some (some (.ref f58)))
    (l58 : K.lookup f58 = some ⟨oc58, od58, .func (PySem.W.fnOf "law" "law" (defArgs s_law) (defBody s_law) (defScope s_law) .none kV58 dc58 pm58 an58 cd58 ct58), sl58⟩)
    (c58 : PySem.W.codeIn K cd58 "law" = true)
    (k58 : PySem.W.keepIn K (.ref f58) = true)
    (pg0 : PySem.W.plainGet K C0 Str.empty = true)
    (hd0 : PySem.W.hasDictIn K C0 = true)
    (po0 : PySem.W.plainOver K C0 = true)
    (sa0 : PySem.W.findIn K (.ref C0) "__setattr__" = some (some (.builtin "object.__setattr__")))
    (mk0 : PySem.W.makesIn K C0 = true)
    (kc0 : PySem.W.keepIn K (.ref C0) = true)
    (n0_0 : PySem.W.findIn K (.ref C0) "error" = some none)
    (n0_1 : PySem.W.findIn K (.ref C0) "count" = some none)
    (n0_2 : PySem.W.findIn K (.ref C0) "_points" = some none)
    (n0_3 : PySem.W.findIn K (.ref C0) "_tops" = some none)
    (n0_4 : PySem.W.findIn K (.ref C0) "_bottoms" = some none)
    (n0_5 : PySem.W.findIn K (.ref C0) "_flat" = some none)
    (n0_6 : PySem.W.findIn K (.ref C0) "_steep" = some none)
    (pg1 : PySem.W.plainGet K C1 Str.empty = true)
    (hd1 : PySem.W.hasDictIn K C1 = true)
    (po1 : PySem.W.plainOver K C1 = true)
    (sa1 : PySem.W.findIn K (.ref C1) "__setattr__" = some (some (.builtin "object.__setattr__")))
    (mk1 : PySem.W.makesIn K C1 = true)
    (kc1 : PySem.W.keepIn K (.ref C1) = true)
    (n1_7 : PySem.W.findIn K (.ref C1) "pieces" = some none)
    (n1_8 : PySem.W.findIn K (.ref C1) "reasons" = some none)
    (pg4 : PySem.W.plainGet K C4 Str.empty = true)
    (hd4 : PySem.W.hasDictIn K C4 = true)
    (po4 : PySem.W.plainOver K C4 = true)
    (sa4 : PySem.W.findIn K (.ref C4) "__setattr__" = some (some (.builtin "object.__setattr__")))
    (mk4 : PySem.W.makesIn K C4 = true)
    (kc4 : PySem.W.keepIn K (.ref C4) = true)
    (n4_9 : PySem.W.findIn K (.ref C4) "marks" = some none)
    (n4_0 : PySem.W.findIn K (.ref C4) "error" = some none)
    (n4_7 : PySem.W.findIn K (.ref C4) "pieces" = some none)
    (pg5 : PySem.W.plainGet K C5 Str.empty = true)
    (hd5 : PySem.W.hasDictIn K C5 = true)
    (po5 : PySem.W.plainOver K C5 = true)
    (sa5 : PySem.W.findIn K (.ref C5) "__setattr__" = some (some (.builtin "object.__setattr__")))
    (mk5 : PySem.W.makesIn K C5 = true)
    (kc5 : PySem.W.keepIn K (.ref C5) = true)
    (n5_10 : PySem.W.findIn K (.ref C5) "stored" = some none)
    (n5_11 : PySem.W.findIn K (.ref C5) "_levels" = some none)
    (pg6 : PySem.W.plainGet K C6 Str.empty = true)
    (hd6 : PySem.W.hasDictIn K C6 = true)
    (po6 : PySem.W.plainOver K C6 = true)
    (sa6 : PySem.W.findIn K (.ref C6) "__setattr__" = some (some (.builtin "object.__setattr__")))
    (mk6 : PySem.W.makesIn K C6 = true)
    (kc6 : PySem.W.keepIn K (.ref C6) = true)
    (n6_12 : PySem.W.findIn K (.ref C6) "entries" = some none)
    (n6_13 : PySem.W.findIn K (.ref C6) "index" = some none)
    (pg7 : PySem.W.plainGet K C7 Str.empty = true)
    (hd7 : PySem.W.hasDictIn K C7 = true)
    (po7 : PySem.W.plainOver K C7 = true)
    (sa7 : PySem.W.findIn K (.ref C7) "__setattr__" = some (some (.builtin "object.__setattr__")))
    (mk7 : PySem.W.makesIn K C7 = true)
    (kc7 : PySem.W.keepIn K (.ref C7) = true)
    (n7_14 : PySem.W.findIn K (.ref C7) "moves" = some none)
    (n7_15 : PySem.W.findIn K (.ref C7) "edits" = some none)
    (n7_16 : PySem.W.findIn K (.ref C7) "capacity" = some none)
    (n7_0 : PySem.W.findIn K (.ref C7) "error" = some none)
    (n7_17 : PySem.W.findIn K (.ref C7) "_buffer" = some none)
    (n7_18 : PySem.W.findIn K (.ref C7) "_runs" = some none)
    (z_abs : PySem.W.nsIn K mainGlobals "abs" = some none)
    (z_any : PySem.W.nsIn K mainGlobals "any" = some none)
    (z_enumerate : PySem.W.nsIn K mainGlobals "enumerate" = some none)
    (z_int : PySem.W.nsIn K mainGlobals "int" = some none)
    (z_len : PySem.W.nsIn K mainGlobals "len" = some none)
    (z_list : PySem.W.nsIn K mainGlobals "list" = some none)
    (z_max : PySem.W.nsIn K mainGlobals "max" = some none)
    (z_min : PySem.W.nsIn K mainGlobals "min" = some none)
    (z_range : PySem.W.nsIn K mainGlobals "range" = some none)
    (z_sorted : PySem.W.nsIn K mainGlobals "sorted" = some none)
    (q_UPPER : PySem.W.nsIn K mainGlobals "UPPER" = some (some (.int 1 tok_UPPER))) :
    ∃ fd : FuncData, (∀ (s : Shared) (v : Value), BindsTo s fd ⟨[v], []⟩ [("_law_script", v)]) ∧ ∀ base : Heap, K.In base → base.Ns mainGlobals mg → FnOk l.prog w K mg base CX0 15 fa0 fd ["_law_script"] (spLaw K) := by
  have e := hfa.symm.trans (PySem.W.mg_of X G a58)
  cases e
  have T : Txt K mg (fun i => match i with | 0 => C0 | 1 => C1 | 4 => C4 | 5 => C5 | 6 => C6 | 7 => C7 | _ => 0) (fun i => match i with | 0 => f0 | 1 => f1 | 2 => f2 | 3 => f3 | 4 => f4 | 5 => f5 | 6 => f6 | 7 => f7 | 8 => f8 | 9 => f9 | 10 => f10 | 11 => f11 | 12 => f12 | 13 => f13 | 14 => f14 | 15 => f15 | 16 => f16 | 17 => f17 | 18 => f18 | 19 => f19 | 20 => f20 | 21 => f21 | 22 => f22 | 23 => f23 | 24 => f24 | 25 => f25 | 26 => f26 | 27 => f27 | 28 => f28 | 29 => f29 | 30 => f30 | 31 => f31 | 32 => f32 | 33 => f33 | 34 => f34 | 35 => f35 | 36 => f36 | 37 => f37 | 38 => f38 | 39 => f39 | 40 => f40 | 41 => f41 | 42 => f42 | 43 => f43 | 44 => f44 | 45 => f45 | 46 => f46 | 47 => f47 | 48 => f48 | 49 => f49 | 50 => f50 | 51 => f51 | 52 => f52 | 53 => f53 | 54 => f54 | 55 => f55 | 56 => f56 | 57 => f57 | 58 => fa0 | _ => 0) (fun i => match i with | 0 => (PySem.W.fnOf "_wall" "_wall" (defArgs s_wall) (defBody s_wall) (defScope s_wall) .none kV0 dc0 pm0 an0 cd0 ct0) | 1 => (PySem.W.fnOf "common_divisor" "common_divisor" (defArgs s_common_divisor) (defBody s_common_divisor) (defScope s_common_divisor) .none kV1 dc1 pm1 an1 cd1 ct1) | 2 => (PySem.W.fnOf "floor_at" "floor_at" (defArgs s_floor_at) (defBody s_floor_at) (defScope s_floor_at) .none kV2 dc2 pm2 an2 cd2 ct2) | 3 => (PySem.W.fnOf "ceiling_at" "ceiling_at" (defArgs s_ceiling_at) (defBody s_ceiling_at) (defScope s_ceiling_at) .none kV3 dc3 pm3 an3 cd3 ct3) | 4 => (PySem.W.fnOf "fraction" "fraction" (defArgs s_fraction) (defBody s_fraction) (defScope s_fraction) .none kV4 dc4 pm4 an4 cd4 ct4) | 5 => (PySem.W.fnOf "slope_between" "slope_between" (defArgs s_slope_between) (defBody s_slope_between) (defScope s_slope_between) .none kV5 dc5 pm5 an5 cd5 ct5) | 6 => (PySem.W.fnOf "line_with_slope" "line_with_slope" (defArgs s_line_with_slope) (defBody s_line_with_slope) (defScope s_line_with_slope) .none kV6 dc6 pm6 an6 cd6 ct6) | 7 => (PySem.W.fnOf "turn" "turn" (defArgs s_turn) (defBody s_turn) (defScope s_turn) .none kV7 dc7 pm7 an7 cd7 ct7) | 8 => (PySem.W.fnOf "rise_over" "rise_over" (defArgs s_rise_over) (defBody s_rise_over) (defScope s_rise_over) .none kV8 dc8 pm8 an8 cd8 ct8) | 9 => (PySem.W.fnOf "is_below" "is_below" (defArgs s_is_below) (defBody s_is_below) (defScope s_is_below) .none kV9 dc9 pm9 an9 cd9 ct9) | 10 => (PySem.W.fnOf "__init__" "Fitter.__init__" (defArgs s_Fitter_init__) (defBody s_Fitter_init__) (defScope s_Fitter_init__) .none kV10 dc10 pm10 an10 cd10 ct10) | 11 => (PySem.W.fnOf "conflict" "Fitter.conflict" (defArgs s_Fitter_conflict) (defBody s_Fitter_conflict) (defScope s_Fitter_conflict) .none kV11 dc11 pm11 an11 cd11 ct11) | 12 => (PySem.W.fnOf "add_corners" "Fitter.add_corners" (defArgs s_Fitter_add_corners) (defBody s_Fitter_add_corners) (defScope s_Fitter_add_corners) .none kV12 dc12 pm12 an12 cd12 ct12) | 13 => (PySem.W.fnOf "lower_steep" "Fitter.lower_steep" (defArgs s_Fitter_lower_steep) (defBody s_Fitter_lower_steep) (defScope s_Fitter_lower_steep) .none kV13 dc13 pm13 an13 cd13 ct13) | 14 => (PySem.W.fnOf "raise_flat" "Fitter.raise_flat" (defArgs s_Fitter_raise_flat) (defBody s_Fitter_raise_flat) (defScope s_Fitter_raise_flat) .none kV14 dc14 pm14 an14 cd14 ct14) | 15 => (PySem.W.fnOf "add" "Fitter.add" (defArgs s_Fitter_add) (defBody s_Fitter_add) (defScope s_Fitter_add) .none kV15 dc15 pm15 an15 cd15 ct15) | 16 => (PySem.W.fnOf "span_at" "Fitter.span_at" (defArgs s_Fitter_span_at) (defBody s_Fitter_span_at) (defScope s_Fitter_span_at) .none kV16 dc16 pm16 an16 cd16 ct16) | 17 => (PySem.W.fnOf "line" "Fitter.line" (defArgs s_Fitter_line) (defBody s_Fitter_line) (defScope s_Fitter_line) .none kV17 dc17 pm17 an17 cd17 ct17) | 18 => (PySem.W.fnOf "__init__" "Cutting.__init__" (defArgs s_Cutting_init__) (defBody s_Cutting_init__) (defScope s_Cutting_init__) .none kV18 dc18 pm18 an18 cd18 ct18) | 19 => (PySem.W.fnOf "cut" "cut" (defArgs s_cut) (defBody s_cut) (defScope s_cut) .none kV19 dc19 pm19 an19 cd19 ct19) | 20 => (PySem.W.fnOf "__init__" "Level.__init__" (defArgs s_Level_init__) (defBody s_Level_init__) (defScope s_Level_init__) .none kV20 dc20 pm20 an20 cd20 ct20) | 21 => (PySem.W.fnOf "end_of" "Level.end_of" (defArgs s_Level_end_of) (defBody s_Level_end_of) (defScope s_Level_end_of) .none kV21 dc21 pm21 an21 cd21 ct21) | 22 => (PySem.W.fnOf "find" "Level.find" (defArgs s_Level_find) (defBody s_Level_find) (defScope s_Level_find) .none kV22 dc22 pm22 an22 cd22 ct22) | 23 => (PySem.W.fnOf "__init__" "Index.__init__" (defArgs s_Index_init__) (defBody s_Index_init__) (defScope s_Index_init__) .none kV23 dc23 pm23 an23 cd23 ct23) | 24 => (PySem.W.fnOf "level_keys" "Index.level_keys" (defArgs s_Index_level_keys) (defBody s_Index_level_keys) (defScope s_Index_level_keys) .none kV24 dc24 pm24 an24 cd24 ct24) | 25 => (PySem.W.fnOf "pieces" "Index.pieces" (defArgs s_Index_pieces) (defBody s_Index_pieces) (defScope s_Index_pieces) .none kV25 dc25 pm25 an25 cd25 ct25) | 26 => (PySem.W.fnOf "look_up" "Index.look_up" (defArgs s_Index_look_up) (defBody s_Index_look_up) (defScope s_Index_look_up) .none kV26 dc26 pm26 an26 cd26 ct26) | 27 => (PySem.W.fnOf "rank" "Index.rank" (defArgs s_Index_rank) (defBody s_Index_rank) (defScope s_Index_rank) .none kV27 dc27 pm27 an27 cd27 ct27) | 28 => (PySem.W.fnOf "has" "Index.has" (defArgs s_Index_has) (defBody s_Index_has) (defScope s_Index_has) .none kV28 dc28 pm28 an28 cd28 ct28) | 29 => (PySem.W.fnOf "count" "Index.count" (defArgs s_Index_count) (defBody s_Index_count) (defScope s_Index_count) .none kV29 dc29 pm29 an29 cd29 ct29) | 30 => (PySem.W.fnOf "at_most" "Index.at_most" (defArgs s_Index_at_most) (defBody s_Index_at_most) (defScope s_Index_at_most) .none kV30 dc30 pm30 an30 cd30 ct30) | 31 => (PySem.W.fnOf "at_least" "Index.at_least" (defArgs s_Index_at_least) (defBody s_Index_at_least) (defScope s_Index_at_least) .none kV31 dc31 pm31 an31 cd31 ct31) | 32 => (PySem.W.fnOf "key_at" "Index.key_at" (defArgs s_Index_key_at) (defBody s_Index_key_at) (defScope s_Index_key_at) .none kV32 dc32 pm32 an32 cd32 ct32) | 33 => (PySem.W.fnOf "__init__" "Run.__init__" (defArgs s_Run_init__) (defBody s_Run_init__) (defScope s_Run_init__) .none kV33 dc33 pm33 an33 cd33 ct33) | 34 => (PySem.W.fnOf "entry" "Run.entry" (defArgs s_Run_entry) (defBody s_Run_entry) (defScope s_Run_entry) .none kV34 dc34 pm34 an34 cd34 ct34) | 35 => (PySem.W.fnOf "merged" "merged" (defArgs s_merged) (defBody s_merged) (defScope s_merged) .none kV35 dc35 pm35 an35 cd35 ct35) | 36 => (PySem.W.fnOf "__init__" "Store.__init__" (defArgs s_Store_init__) (defBody s_Store_init__) (defScope s_Store_init__) .none kV36 dc36 pm36 an36 cd36 ct36) | 37 => (PySem.W.fnOf "flush" "Store.flush" (defArgs s_Store_flush) (defBody s_Store_flush) (defScope s_Store_flush) .none kV37 dc37 pm37 an37 cd37 ct37) | 38 => (PySem.W.fnOf "write" "Store.write" (defArgs s_Store_write) (defBody s_Store_write) (defScope s_Store_write) .none kV38 dc38 pm38 an38 cd38 ct38) | 39 => (PySem.W.fnOf "put" "Store.put" (defArgs s_Store_put) (defBody s_Store_put) (defScope s_Store_put) .none kV39 dc39 pm39 an39 cd39 ct39) | 40 => (PySem.W.fnOf "remove" "Store.remove" (defArgs s_Store_remove) (defBody s_Store_remove) (defScope s_Store_remove) .none kV40 dc40 pm40 an40 cd40 ct40) | 41 => (PySem.W.fnOf "get" "Store.get" (defArgs s_Store_get) (defBody s_Store_get) (defScope s_Store_get) .none kV41 dc41 pm41 an41 cd41 ct41) | 42 => (PySem.W.fnOf "contents" "Store.contents" (defArgs s_Store_contents) (defBody s_Store_contents) (defScope s_Store_contents) .none kV42 dc42 pm42 an42 cd42 ct42) | 43 => (PySem.W.fnOf "between" "Store.between" (defArgs s_Store_between) (defBody s_Store_between) (defScope s_Store_between) .none kV43 dc43 pm43 an43 cd43 ct43) | 44 => (PySem.W.fnOf "run_sizes" "Store.run_sizes" (defArgs s_Store_run_sizes) (defBody s_Store_run_sizes) (defScope s_Store_run_sizes) .none kV44 dc44 pm44 an44 cd44 ct44) | 45 => (PySem.W.fnOf "buffered" "Store.buffered" (defArgs s_Store_buffered) (defBody s_Store_buffered) (defScope s_Store_buffered) .none kV45 dc45 pm45 an45 cd45 ct45) | 46 => (PySem.W.fnOf "buffer_entries" "Store.buffer_entries" (defArgs s_Store_buffer_entries) (defBody s_Store_buffer_entries) (defScope s_Store_buffer_entries) .none kV46 dc46 pm46 an46 cd46 ct46) | 47 => (PySem.W.fnOf "run_entries" "Store.run_entries" (defArgs s_Store_run_entries) (defBody s_Store_run_entries) (defScope s_Store_run_entries) .none kV47 dc47 pm47 an47 cd47 ct47) | 48 => (PySem.W.fnOf "runs" "Store.runs" (defArgs s_Store_runs) (defBody s_Store_runs) (defScope s_Store_runs) .none kV48 dc48 pm48 an48 cd48 ct48) | 49 => (PySem.W.fnOf "levels" "Store.levels" (defArgs s_Store_levels) (defBody s_Store_levels) (defScope s_Store_levels) .none kV49 dc49 pm49 an49 cd49 ct49) | 50 => (PySem.W.fnOf "take_buffer" "Store.take_buffer" (defArgs s_Store_take_buffer) (defBody s_Store_take_buffer) (defScope s_Store_take_buffer) .none kV50 dc50 pm50 an50 cd50 ct50) | 51 => (PySem.W.fnOf "take_run" "Store.take_run" (defArgs s_Store_take_run) (defBody s_Store_take_run) (defScope s_Store_take_run) .none kV51 dc51 pm51 an51 cd51 ct51) | 52 => (PySem.W.fnOf "_law_cell" "_law_cell" (defArgs s_law_cell) (defBody s_law_cell) (defScope s_law_cell) .none kV52 dc52 pm52 an52 cd52 ct52) | 53 => (PySem.W.fnOf "_law_digits" "_law_digits" (defArgs s_law_digits) (defBody s_law_digits) (defScope s_law_digits) .none kV53 dc53 pm53 an53 cd53 ct53) | 54 => (PySem.W.fnOf "_law_edits" "_law_edits" (defArgs s_law_edits) (defBody s_law_edits) (defScope s_law_edits) .none kV54 dc54 pm54 an54 cd54 ct54) | 55 => (PySem.W.fnOf "_law_done" "_law_done" (defArgs s_law_done) (defBody s_law_done) (defScope s_law_done) .none kV55 dc55 pm55 an55 cd55 ct55) | 56 => (PySem.W.fnOf "_law_edit" "_law_edit" (defArgs s_law_edit) (defBody s_law_edit) (defScope s_law_edit) .none kV56 dc56 pm56 an56 cd56 ct56) | 57 => (PySem.W.fnOf "_law_digits_of" "_law_digits_of" (defArgs s_law_digits_of) (defBody s_law_digits_of) (defScope s_law_digits_of) .none kV57 dc57 pm57 an57 cd57 ct57) | 58 => (PySem.W.fnOf "law" "law" (defArgs s_law) (defBody s_law) (defScope s_law) .none kV58 dc58 pm58 an58 cd58 ct58) | _ => (PySem.W.fnOf "law" "law" (defArgs s_law) (defBody s_law) (defScope s_law) .none kV58 dc58 pm58 an58 cd58 ct58)) := by
    constructor
    case g_wall => exact PySem.W.mg_of X G a0
    case k_wall => exact k0
    case F_wall => exact fun_mk (st := s_wall) l0 c0 k0
    case g_common_divisor => exact PySem.W.mg_of X G a1
    case k_common_divisor => exact k1
    case F_common_divisor => exact fun_mk (st := s_common_divisor) l1 c1 k1
    case g_floor_at => exact PySem.W.mg_of X G a2
    case k_floor_at => exact k2
    case F_floor_at => exact fun_mk (st := s_floor_at) l2 c2 k2
    case g_ceiling_at => exact PySem.W.mg_of X G a3
    case k_ceiling_at => exact k3
    case F_ceiling_at => exact fun_mk (st := s_ceiling_at) l3 c3 k3
    case g_fraction => exact PySem.W.mg_of X G a4
    case k_fraction => exact k4
    case F_fraction => exact fun_mk (st := s_fraction) l4 c4 k4
    case g_slope_between => exact PySem.W.mg_of X G a5
    case k_slope_between => exact k5
    case F_slope_between => exact fun_mk (st := s_slope_between) l5 c5 k5
    case g_line_with_slope => exact PySem.W.mg_of X G a6
    case k_line_with_slope => exact k6
    case F_line_with_slope => exact fun_mk (st := s_line_with_slope) l6 c6 k6
    case g_turn => exact PySem.W.mg_of X G a7
    case k_turn => exact k7
    case F_turn => exact fun_mk (st := s_turn) l7 c7 k7
    case g_rise_over => exact PySem.W.mg_of X G a8
    case k_rise_over => exact k8
    case F_rise_over => exact fun_mk (st := s_rise_over) l8 c8 k8
    case g_is_below => exact PySem.W.mg_of X G a9
    case k_is_below => exact k9
    case F_is_below => exact fun_mk (st := s_is_below) l9 c9 k9
    case k_Fitter_init__ => exact k10
    case F_Fitter_init__ => exact fun_mk (st := s_Fitter_init__) l10 c10 k10
    case k_Fitter_conflict => exact k11
    case F_Fitter_conflict => exact fun_mk (st := s_Fitter_conflict) l11 c11 k11
    case k_Fitter_add_corners => exact k12
    case F_Fitter_add_corners => exact fun_mk (st := s_Fitter_add_corners) l12 c12 k12
    case k_Fitter_lower_steep => exact k13
    case F_Fitter_lower_steep => exact fun_mk (st := s_Fitter_lower_steep) l13 c13 k13
    case k_Fitter_raise_flat => exact k14
    case F_Fitter_raise_flat => exact fun_mk (st := s_Fitter_raise_flat) l14 c14 k14
    case k_Fitter_add => exact k15
    case F_Fitter_add => exact fun_mk (st := s_Fitter_add) l15 c15 k15
    case k_Fitter_span_at => exact k16
    case F_Fitter_span_at => exact fun_mk (st := s_Fitter_span_at) l16 c16 k16
    case k_Fitter_line => exact k17
    case F_Fitter_line => exact fun_mk (st := s_Fitter_line) l17 c17 k17
    case k_Cutting_init__ => exact k18
    case F_Cutting_init__ => exact fun_mk (st := s_Cutting_init__) l18 c18 k18
    case g_cut => exact PySem.W.mg_of X G a19
    case k_cut => exact k19
    case F_cut => exact fun_mk (st := s_cut) l19 c19 k19
    case k_Level_init__ => exact k20
    case F_Level_init__ => exact fun_mk (st := s_Level_init__) l20 c20 k20
    case k_Level_end_of => exact k21
    case F_Level_end_of => exact fun_mk (st := s_Level_end_of) l21 c21 k21
    case k_Level_find => exact k22
    case F_Level_find => exact fun_mk (st := s_Level_find) l22 c22 k22
    case k_Index_init__ => exact k23
    case F_Index_init__ => exact fun_mk (st := s_Index_init__) l23 c23 k23
    case k_Index_level_keys => exact k24
    case F_Index_level_keys => exact fun_mk (st := s_Index_level_keys) l24 c24 k24
    case k_Index_pieces => exact k25
    case F_Index_pieces => exact fun_mk (st := s_Index_pieces) l25 c25 k25
    case k_Index_look_up => exact k26
    case F_Index_look_up => exact fun_mk (st := s_Index_look_up) l26 c26 k26
    case k_Index_rank => exact k27
    case F_Index_rank => exact fun_mk (st := s_Index_rank) l27 c27 k27
    case k_Index_has => exact k28
    case F_Index_has => exact fun_mk (st := s_Index_has) l28 c28 k28
    case k_Index_count => exact k29
    case F_Index_count => exact fun_mk (st := s_Index_count) l29 c29 k29
    case k_Index_at_most => exact k30
    case F_Index_at_most => exact fun_mk (st := s_Index_at_most) l30 c30 k30
    case k_Index_at_least => exact k31
    case F_Index_at_least => exact fun_mk (st := s_Index_at_least) l31 c31 k31
    case k_Index_key_at => exact k32
    case F_Index_key_at => exact fun_mk (st := s_Index_key_at) l32 c32 k32
    case k_Run_init__ => exact k33
    case F_Run_init__ => exact fun_mk (st := s_Run_init__) l33 c33 k33
    case k_Run_entry => exact k34
    case F_Run_entry => exact fun_mk (st := s_Run_entry) l34 c34 k34
    case g_merged => exact PySem.W.mg_of X G a35
    case k_merged => exact k35
    case F_merged => exact fun_mk (st := s_merged) l35 c35 k35
    case k_Store_init__ => exact k36
    case F_Store_init__ => exact fun_mk (st := s_Store_init__) l36 c36 k36
    case k_Store_flush => exact k37
    case F_Store_flush => exact fun_mk (st := s_Store_flush) l37 c37 k37
    case k_Store_write => exact k38
    case F_Store_write => exact fun_mk (st := s_Store_write) l38 c38 k38
    case k_Store_put => exact k39
    case F_Store_put => exact fun_mk (st := s_Store_put) l39 c39 k39
    case k_Store_remove => exact k40
    case F_Store_remove => exact fun_mk (st := s_Store_remove) l40 c40 k40
    case k_Store_get => exact k41
    case F_Store_get => exact fun_mk (st := s_Store_get) l41 c41 k41
    case k_Store_contents => exact k42
    case F_Store_contents => exact fun_mk (st := s_Store_contents) l42 c42 k42
    case k_Store_between => exact k43
    case F_Store_between => exact fun_mk (st := s_Store_between) l43 c43 k43
    case k_Store_run_sizes => exact k44
    case F_Store_run_sizes => exact fun_mk (st := s_Store_run_sizes) l44 c44 k44
    case k_Store_buffered => exact k45
    case F_Store_buffered => exact fun_mk (st := s_Store_buffered) l45 c45 k45
    case k_Store_buffer_entries => exact k46
    case F_Store_buffer_entries => exact fun_mk (st := s_Store_buffer_entries) l46 c46 k46
    case k_Store_run_entries => exact k47
    case F_Store_run_entries => exact fun_mk (st := s_Store_run_entries) l47 c47 k47
    case k_Store_runs => exact k48
    case F_Store_runs => exact fun_mk (st := s_Store_runs) l48 c48 k48
    case k_Store_levels => exact k49
    case F_Store_levels => exact fun_mk (st := s_Store_levels) l49 c49 k49
    case k_Store_take_buffer => exact k50
    case F_Store_take_buffer => exact fun_mk (st := s_Store_take_buffer) l50 c50 k50
    case k_Store_take_run => exact k51
    case F_Store_take_run => exact fun_mk (st := s_Store_take_run) l51 c51 k51
    case g_law_cell => exact PySem.W.mg_of X G a52
    case k_law_cell => exact k52
    case F_law_cell => exact fun_mk (st := s_law_cell) l52 c52 k52
    case g_law_digits => exact PySem.W.mg_of X G a53
    case k_law_digits => exact k53
    case F_law_digits => exact fun_mk (st := s_law_digits) l53 c53 k53
    case g_law_edits => exact PySem.W.mg_of X G a54
    case k_law_edits => exact k54
    case F_law_edits => exact fun_mk (st := s_law_edits) l54 c54 k54
    case g_law_done => exact PySem.W.mg_of X G a55
    case k_law_done => exact k55
    case F_law_done => exact fun_mk (st := s_law_done) l55 c55 k55
    case g_law_edit => exact PySem.W.mg_of X G a56
    case k_law_edit => exact k56
    case F_law_edit => exact fun_mk (st := s_law_edit) l56 c56 k56
    case g_law_digits_of => exact PySem.W.mg_of X G a57
    case k_law_digits_of => exact k57
    case F_law_digits_of => exact fun_mk (st := s_law_digits_of) l57 c57 k57
    case g_law => exact PySem.W.mg_of X G a58
    case k_law => exact k58
    case F_law => exact fun_mk (st := s_law) l58 c58 k58
    case z_abs => exact PySem.W.mg_none_of X G z_abs
    case z_any => exact PySem.W.mg_none_of X G z_any
    case z_enumerate => exact PySem.W.mg_none_of X G z_enumerate
    case z_int => exact PySem.W.mg_none_of X G z_int
    case z_len => exact PySem.W.mg_none_of X G z_len
    case z_list => exact PySem.W.mg_none_of X G z_list
    case z_max => exact PySem.W.mg_none_of X G z_max
    case z_min => exact PySem.W.mg_none_of X G z_min
    case z_range => exact PySem.W.mg_none_of X G z_range
    case z_sorted => exact PySem.W.mg_none_of X G z_sorted
    case q_UPPER => exact ⟨_, PySem.W.mg_of X G q_UPPER⟩
    case g_Fitter => exact PySem.W.mg_of X G ac0
    case c_Fitter => exact cok_mk ⟨pg0, hd0, po0, sa0⟩ (fun f hf => by
      have e : f ∈ [0, 1, 2, 3, 4, 5, 6] := hf
      simp only [List.mem_cons, List.not_mem_nil, or_false] at e
      rcases e with rfl | rfl | rfl | rfl | rfl | rfl | rfl
      · exact n0_0
      · exact n0_1
      · exact n0_2
      · exact n0_3
      · exact n0_4
      · exact n0_5
      · exact n0_6)
    case m_Fitter => exact ⟨mk0, a10, i10, kc0⟩
    case me_Fitter_conflict => exact ⟨a11, i11, k11⟩
    case me_Fitter_add_corners => exact ⟨a12, i12, k12⟩
    case me_Fitter_lower_steep => exact ⟨a13, i13, k13⟩
    case me_Fitter_raise_flat => exact ⟨a14, i14, k14⟩
    case me_Fitter_add => exact ⟨a15, i15, k15⟩
    case me_Fitter_span_at => exact ⟨a16, i16, k16⟩
    case me_Fitter_line => exact ⟨a17, i17, k17⟩
    case g_Cutting => exact PySem.W.mg_of X G ac1
    case c_Cutting => exact cok_mk ⟨pg1, hd1, po1, sa1⟩ (fun f hf => by
      have e : f ∈ [7, 8] := hf
      simp only [List.mem_cons, List.not_mem_nil, or_false] at e
      rcases e with rfl | rfl
      · exact n1_7
      · exact n1_8)
    case m_Cutting => exact ⟨mk1, a18, i18, kc1⟩
    case g_Level => exact PySem.W.mg_of X G ac4
    case c_Level => exact cok_mk ⟨pg4, hd4, po4, sa4⟩ (fun f hf => by
      have e : f ∈ [9, 0, 7] := hf
      simp only [List.mem_cons, List.not_mem_nil, or_false] at e
      rcases e with rfl | rfl | rfl
      · exact n4_9
      · exact n4_0
      · exact n4_7)
    case m_Level => exact ⟨mk4, a20, i20, kc4⟩
    case me_Level_end_of => exact ⟨a21, i21, k21⟩
    case me_Level_find => exact ⟨a22, i22, k22⟩
    case g_Index => exact PySem.W.mg_of X G ac5
    case c_Index => exact cok_mk ⟨pg5, hd5, po5, sa5⟩ (fun f hf => by
      have e : f ∈ [10, 11] := hf
      simp only [List.mem_cons, List.not_mem_nil, or_false] at e
      rcases e with rfl | rfl
      · exact n5_10
      · exact n5_11)
    case m_Index => exact ⟨mk5, a23, i23, kc5⟩
    case me_Index_level_keys => exact ⟨a24, i24, k24⟩
    case me_Index_pieces => exact ⟨a25, i25, k25⟩
    case me_Index_look_up => exact ⟨a26, i26, k26⟩
    case me_Index_rank => exact ⟨a27, i27, k27⟩
    case me_Index_has => exact ⟨a28, i28, k28⟩
    case me_Index_count => exact ⟨a29, i29, k29⟩
    case me_Index_at_most => exact ⟨a30, i30, k30⟩
    case me_Index_at_least => exact ⟨a31, i31, k31⟩
    case me_Index_key_at => exact ⟨a32, i32, k32⟩
    case g_Run => exact PySem.W.mg_of X G ac6
    case c_Run => exact cok_mk ⟨pg6, hd6, po6, sa6⟩ (fun f hf => by
      have e : f ∈ [12, 13] := hf
      simp only [List.mem_cons, List.not_mem_nil, or_false] at e
      rcases e with rfl | rfl
      · exact n6_12
      · exact n6_13)
    case m_Run => exact ⟨mk6, a33, i33, kc6⟩
    case me_Run_entry => exact ⟨a34, i34, k34⟩
    case g_Store => exact PySem.W.mg_of X G ac7
    case c_Store => exact cok_mk ⟨pg7, hd7, po7, sa7⟩ (fun f hf => by
      have e : f ∈ [14, 15, 16, 0, 17, 18] := hf
      simp only [List.mem_cons, List.not_mem_nil, or_false] at e
      rcases e with rfl | rfl | rfl | rfl | rfl | rfl
      · exact n7_14
      · exact n7_15
      · exact n7_16
      · exact n7_0
      · exact n7_17
      · exact n7_18)
    case m_Store => exact ⟨mk7, a36, i36, kc7⟩
    case me_Store_flush => exact ⟨a37, i37, k37⟩
    case me_Store_write => exact ⟨a38, i38, k38⟩
    case me_Store_put => exact ⟨a39, i39, k39⟩
    case me_Store_remove => exact ⟨a40, i40, k40⟩
    case me_Store_get => exact ⟨a41, i41, k41⟩
    case me_Store_contents => exact ⟨a42, i42, k42⟩
    case me_Store_between => exact ⟨a43, i43, k43⟩
    case me_Store_run_sizes => exact ⟨a44, i44, k44⟩
    case me_Store_buffered => exact ⟨a45, i45, k45⟩
    case me_Store_buffer_entries => exact ⟨a46, i46, k46⟩
    case me_Store_run_entries => exact ⟨a47, i47, k47⟩
    case me_Store_runs => exact ⟨a48, i48, k48⟩
    case me_Store_levels => exact ⟨a49, i49, k49⟩
    case me_Store_take_buffer => exact ⟨a50, i50, k50⟩
    case me_Store_take_run => exact ⟨a51, i51, k51⟩
  refine ⟨(PySem.W.fnOf "law" "law" (defArgs s_law) (defBody s_law) (defScope s_law) .none kV58 dc58 pm58 an58 cd58 ct58), fun s v => .of_eq rfl, fun base _ _ => ?_⟩
  have h_wall := ok_wall (P := l.prog) (w := w) (base := base) T
  have h_common_divisor := ok_common_divisor (P := l.prog) (w := w) (base := base) T
  have h_floor_at := ok_floor_at (P := l.prog) (w := w) (base := base) T
  have h_ceiling_at := ok_ceiling_at (P := l.prog) (w := w) (base := base) T
  have h_fraction := ok_fraction (P := l.prog) (w := w) (base := base) T h_common_divisor
  have h_slope_between := ok_slope_between (P := l.prog) (w := w) (base := base) T
  have h_line_with_slope := ok_line_with_slope (P := l.prog) (w := w) (base := base) T
  have h_turn := ok_turn (P := l.prog) (w := w) (base := base) T
  have h_rise_over := ok_rise_over (P := l.prog) (w := w) (base := base) T
  have h_is_below := ok_is_below (P := l.prog) (w := w) (base := base) T
  have h_Fitter_init__ := ok_Fitter_init__ (P := l.prog) (w := w) (base := base) T
  have h_Fitter_conflict := ok_Fitter_conflict (P := l.prog) (w := w) (base := base) T h_is_below h_rise_over
  have h_Fitter_add_corners := ok_Fitter_add_corners (P := l.prog) (w := w) (base := base) T h_turn
  have h_Fitter_lower_steep := ok_Fitter_lower_steep (P := l.prog) (w := w) (base := base) T h_is_below h_rise_over
  have h_Fitter_raise_flat := ok_Fitter_raise_flat (P := l.prog) (w := w) (base := base) T h_is_below h_rise_over
  have h_Fitter_add := ok_Fitter_add (P := l.prog) (w := w) (base := base) T h_Fitter_add_corners h_Fitter_conflict h_Fitter_lower_steep h_Fitter_raise_flat
  have h_Fitter_span_at := ok_Fitter_span_at (P := l.prog) (w := w) (base := base) T h_wall
  have h_Fitter_line := ok_Fitter_line (P := l.prog) (w := w) (base := base) T h_fraction h_line_with_slope h_rise_over h_slope_between
  have h_Cutting_init__ := ok_Cutting_init__ (P := l.prog) (w := w) (base := base) T
  have h_cut := ok_cut (P := l.prog) (w := w) (base := base) T h_Cutting_init__ h_Fitter_init__ h_Fitter_add h_Fitter_conflict h_Fitter_line
  have h_Level_init__ := ok_Level_init__ (P := l.prog) (w := w) (base := base) T h_cut
  have h_Level_end_of := ok_Level_end_of (P := l.prog) (w := w) (base := base) T
  have h_Level_find := ok_Level_find (P := l.prog) (w := w) (base := base) T h_Level_end_of h_ceiling_at h_floor_at
  have h_Index_init__ := ok_Index_init__ (P := l.prog) (w := w) (base := base) T h_Level_init__
  have h_Index_level_keys := ok_Index_level_keys (P := l.prog) (w := w) (base := base) T h_wall
  have h_Index_pieces := ok_Index_pieces (P := l.prog) (w := w) (base := base) T
  have h_Index_look_up := ok_Index_look_up (P := l.prog) (w := w) (base := base) T h_Level_find
  have h_Index_rank := ok_Index_rank (P := l.prog) (w := w) (base := base) T h_Index_look_up
  have h_Index_has := ok_Index_has (P := l.prog) (w := w) (base := base) T h_Index_rank
  have h_Index_count := ok_Index_count (P := l.prog) (w := w) (base := base) T h_Index_rank
  have h_Index_at_most := ok_Index_at_most (P := l.prog) (w := w) (base := base) T h_wall
  have h_Index_at_least := ok_Index_at_least (P := l.prog) (w := w) (base := base) T h_wall
  have h_Index_key_at := ok_Index_key_at (P := l.prog) (w := w) (base := base) T h_wall
  have h_Run_init__ := ok_Run_init__ (P := l.prog) (w := w) (base := base) T h_Index_init__
  have h_Run_entry := ok_Run_entry (P := l.prog) (w := w) (base := base) T h_Index_rank
  have h_merged := ok_merged (P := l.prog) (w := w) (base := base) T
  have h_Store_init__ := ok_Store_init__ (P := l.prog) (w := w) (base := base) T
  have h_Store_flush := ok_Store_flush (P := l.prog) (w := w) (base := base) T h_Run_init__ h_merged
  have h_Store_write := ok_Store_write (P := l.prog) (w := w) (base := base) T h_Store_flush h_merged
  have h_Store_put := ok_Store_put (P := l.prog) (w := w) (base := base) T h_Store_write
  have h_Store_remove := ok_Store_remove (P := l.prog) (w := w) (base := base) T h_Store_write
  have h_Store_get := ok_Store_get (P := l.prog) (w := w) (base := base) T h_Run_entry
  have h_Store_contents := ok_Store_contents (P := l.prog) (w := w) (base := base) T h_merged
  have h_Store_between := ok_Store_between (P := l.prog) (w := w) (base := base) T h_Store_contents
  have h_Store_run_sizes := ok_Store_run_sizes (P := l.prog) (w := w) (base := base) T
  have h_Store_buffered := ok_Store_buffered (P := l.prog) (w := w) (base := base) T h_wall
  have h_Store_buffer_entries := ok_Store_buffer_entries (P := l.prog) (w := w) (base := base) T h_wall
  have h_Store_run_entries := ok_Store_run_entries (P := l.prog) (w := w) (base := base) T h_wall
  have h_Store_runs := ok_Store_runs (P := l.prog) (w := w) (base := base) T
  have h_Store_levels := ok_Store_levels (P := l.prog) (w := w) (base := base) T
  have h_Store_take_buffer := ok_Store_take_buffer (P := l.prog) (w := w) (base := base) T h_wall
  have h_Store_take_run := ok_Store_take_run (P := l.prog) (w := w) (base := base) T h_wall
  have h_law_cell := ok_law_cell (P := l.prog) (w := w) (base := base) T
  have h_law_digits := ok_law_digits (P := l.prog) (w := w) (base := base) T
  have h_law_edits := ok_law_edits (P := l.prog) (w := w) (base := base) T h_law_cell h_law_digits
  have h_law_done := ok_law_done (P := l.prog) (w := w) (base := base) T
  have h_law_edit := ok_law_edit (P := l.prog) (w := w) (base := base) T h_Store_put h_Store_remove
  have h_law_digits_of := ok_law_digits_of (P := l.prog) (w := w) (base := base) T
  have hl := ok_law (P := l.prog) (w := w) (base := base) T h_Store_init__ h_Store_contents h_Store_run_sizes h_law_cell h_law_digits_of h_law_done h_law_edit h_law_edits
  exact law_fn hl.1 (hl.2 callerA room_law) plain_law
theorem walk {l : PySem.W.OpenLaw} {q : Program} {loose : List Str} {XP : (Str → Option Value) → Heap → Prop} {YP : World → Heap → Prop} {d : DefRec} {K : Params → PySem.W.Frag} (hn : l.most = some 63) (hdf : d.params.defaults = [])
    (hY : ∀ (w : World) (h : Heap), YP w h → (K w.params).In h)
    (F : ∀ (w : World) (mg : Str → Option Value) (fa : Addr) (h : Heap), (K w.params).In h → h.Ns mainGlobals mg → mg d.name = some (.ref fa) →
      ∃ fd : FuncData, (∀ (s : Shared) (u : Value), BindsTo s fd ⟨[u], []⟩ [("_law_script", u)]) ∧ ∀ base : Heap, (K w.params).In base → base.Ns mainGlobals mg → FnOk l.prog w (K w.params) mg base CX0 15 fa fd ["_law_script"] (spLaw (K w.params))) :
    PySem.W.WalkO q loose XP YP l.row.toRowW d [] (fun f vs => PySem.call f vs) :=
  L2.walk_of (n := 63) (k := 15) (x := "_law_script") (CX := fun _ => CX0) (sp := fun w => spLaw (K w.params)) hn (by decide) hdf room_law hY F (fun _ _ a ns hl _ hS => ⟨a, ns, rfl, hS, hl, fun _ => rfl⟩) fun _ _ _ _ _ z => z
end C
open PySem PySem.W PyProof.Rows
set_option maxRecDepth 100000 in
set_option maxHeartbeats 0 in
theorem PySem.Challenge.cw_fewestlines_k42_whole_moves_stay_few_holds : PySem.Challenge.rw_fewestlines_k42_whole_moves_stay_few.Holds := by
  w_on; o_law; k_head; (case hw => w_witness2)
  k_fill
  refine C.walk (l := PySem.Challenge.rw_fewestlines_k42_whole_moves_stay_few) rfl rfl (fun w h Y => PySem.W.kIn_of Y) ?F
  case F =>
    intro w mg fa h KX G hmg
    refine' C.all_mk KX G hmg ?ac0 ?ac1 ?ac4 ?ac5 ?ac6 ?ac7 ?a0 ?l0 ?c0 ?k0 ?a1 ?l1 ?c1 ?k1 ?a2 ?l2 ?c2 ?k2 ?a3 ?l3 ?c3 ?k3 ?a4 ?l4 ?c4 ?k4 ?a5 ?l5 ?c5 ?k5 ?a6 ?l6 ?c6 ?k6 ?a7 ?l7 ?c7 ?k7 ?a8 ?l8 ?c8 ?k8 ?a9 ?l9 ?c9 ?k9 ?a10 ?i10 ?l10 ?c10 ?k10 ?a11 ?i11 ?l11 ?c11 ?k11 ?a12 ?i12 ?l12 ?c12 ?k12 ?a13 ?i13 ?l13 ?c13 ?k13 ?a14 ?i14 ?l14 ?c14 ?k14 ?a15 ?i15 ?l15 ?c15 ?k15 ?a16 ?i16 ?l16 ?c16 ?k16 ?a17 ?i17 ?l17 ?c17 ?k17 ?a18 ?i18 ?l18 ?c18 ?k18 ?a19 ?l19 ?c19 ?k19 ?a20 ?i20 ?l20 ?c20 ?k20 ?a21 ?i21 ?l21 ?c21 ?k21 ?a22 ?i22 ?l22 ?c22 ?k22 ?a23 ?i23 ?l23 ?c23 ?k23 ?a24 ?i24 ?l24 ?c24 ?k24 ?a25 ?i25 ?l25 ?c25 ?k25 ?a26 ?i26 ?l26 ?c26 ?k26 ?a27 ?i27 ?l27 ?c27 ?k27 ?a28 ?i28 ?l28 ?c28 ?k28 ?a29 ?i29 ?l29 ?c29 ?k29 ?a30 ?i30 ?l30 ?c30 ?k30 ?a31 ?i31 ?l31 ?c31 ?k31 ?a32 ?i32 ?l32 ?c32 ?k32 ?a33 ?i33 ?l33 ?c33 ?k33 ?a34 ?i34 ?l34 ?c34 ?k34 ?a35 ?l35 ?c35 ?k35 ?a36 ?i36 ?l36 ?c36 ?k36 ?a37 ?i37 ?l37 ?c37 ?k37 ?a38 ?i38 ?l38 ?c38 ?k38 ?a39 ?i39 ?l39 ?c39 ?k39 ?a40 ?i40 ?l40 ?c40 ?k40 ?a41 ?i41 ?l41 ?c41 ?k41 ?a42 ?i42 ?l42 ?c42 ?k42 ?a43 ?i43 ?l43 ?c43 ?k43 ?a44 ?i44 ?l44 ?c44 ?k44 ?a45 ?i45 ?l45 ?c45 ?k45 ?a46 ?i46 ?l46 ?c46 ?k46 ?a47 ?i47 ?l47 ?c47 ?k47 ?a48 ?i48 ?l48 ?c48 ?k48 ?a49 ?i49 ?l49 ?c49 ?k49 ?a50 ?i50 ?l50 ?c50 ?k50 ?a51 ?i51 ?l51 ?c51 ?k51 ?a52 ?l52 ?c52 ?k52 ?a53 ?l53 ?c53 ?k53 ?a54 ?l54 ?c54 ?k54 ?a55 ?l55 ?c55 ?k55 ?a56 ?l56 ?c56 ?k56 ?a57 ?l57 ?c57 ?k57 ?a58 ?l58 ?c58 ?k58 ?pg0 ?hd0 ?po0 ?sa0 ?mk0 ?kc0 ?n0_0 ?n0_1 ?n0_2 ?n0_3 ?n0_4 ?n0_5 ?n0_6 ?pg1 ?hd1 ?po1 ?sa1 ?mk1 ?kc1 ?n1_7 ?n1_8 ?pg4 ?hd4 ?po4 ?sa4 ?mk4 ?kc4 ?n4_9 ?n4_0 ?n4_7 ?pg5 ?hd5 ?po5 ?sa5 ?mk5 ?kc5 ?n5_10 ?n5_11 ?pg6 ?hd6 ?po6 ?sa6 ?mk6 ?kc6 ?n6_12 ?n6_13 ?pg7 ?hd7 ?po7 ?sa7 ?mk7 ?kc7 ?n7_14 ?n7_15 ?n7_16 ?n7_0 ?n7_17 ?n7_18 ?z_abs ?z_any ?z_enumerate ?z_int ?z_len ?z_list ?z_max ?z_min ?z_range ?z_sorted ?q_UPPER
    (case ac0 => k_is)
    (case ac1 => k_is)
    (case ac4 => k_is)
    (case ac5 => k_is)
    (case ac6 => k_is)
    (case ac7 => k_is)
    (case a0 => k_is)
    (case l0 => k_is)
    (case c0 => k_is)
    (case k0 => k_is)
    (case a1 => k_is)
    (case l1 => k_is)
    (case c1 => k_is)
    (case k1 => k_is)
    (case a2 => k_is)
    (case l2 => k_is)
    (case c2 => k_is)
    (case k2 => k_is)
    (case a3 => k_is)
    (case l3 => k_is)
    (case c3 => k_is)
    (case k3 => k_is)
    (case a4 => k_is)
    (case l4 => k_is)
    (case c4 => k_is)
    (case k4 => k_is)
    (case a5 => k_is)
    (case l5 => k_is)
    (case c5 => k_is)
    (case k5 => k_is)
    (case a6 => k_is)
    (case l6 => k_is)
    (case c6 => k_is)
    (case k6 => k_is)
    (case a7 => k_is)
    (case l7 => k_is)
    (case c7 => k_is)
    (case k7 => k_is)
    (case a8 => k_is)
    (case l8 => k_is)
    (case c8 => k_is)
    (case k8 => k_is)
    (case a9 => k_is)
    (case l9 => k_is)
    (case c9 => k_is)
    (case k9 => k_is)
    (case a10 => k_is)
    (case i10 => k_is)
    (case l10 => k_is)
    (case c10 => k_is)
    (case k10 => k_is)
    (case a11 => k_is)
    (case i11 => k_is)
    (case l11 => k_is)
    (case c11 => k_is)
    (case k11 => k_is)
    (case a12 => k_is)
    (case i12 => k_is)
    (case l12 => k_is)
    (case c12 => k_is)
    (case k12 => k_is)
    (case a13 => k_is)
    (case i13 => k_is)
    (case l13 => k_is)
    (case c13 => k_is)
    (case k13 => k_is)
    (case a14 => k_is)
    (case i14 => k_is)
    (case l14 => k_is)
    (case c14 => k_is)
    (case k14 => k_is)
    (case a15 => k_is)
    (case i15 => k_is)
    (case l15 => k_is)
    (case c15 => k_is)
    (case k15 => k_is)
    (case a16 => k_is)
    (case i16 => k_is)
    (case l16 => k_is)
    (case c16 => k_is)
    (case k16 => k_is)
    (case a17 => k_is)
    (case i17 => k_is)
    (case l17 => k_is)
    (case c17 => k_is)
    (case k17 => k_is)
    (case a18 => k_is)
    (case i18 => k_is)
    (case l18 => k_is)
    (case c18 => k_is)
    (case k18 => k_is)
    (case a19 => k_is)
    (case l19 => k_is)
    (case c19 => k_is)
    (case k19 => k_is)
    (case a20 => k_is)
    (case i20 => k_is)
    (case l20 => k_is)
    (case c20 => k_is)
    (case k20 => k_is)
    (case a21 => k_is)
    (case i21 => k_is)
    (case l21 => k_is)
    (case c21 => k_is)
    (case k21 => k_is)
    (case a22 => k_is)
    (case i22 => k_is)
    (case l22 => k_is)
    (case c22 => k_is)
    (case k22 => k_is)
    (case a23 => k_is)
    (case i23 => k_is)
    (case l23 => k_is)
    (case c23 => k_is)
    (case k23 => k_is)
    (case a24 => k_is)
    (case i24 => k_is)
    (case l24 => k_is)
    (case c24 => k_is)
    (case k24 => k_is)
    (case a25 => k_is)
    (case i25 => k_is)
    (case l25 => k_is)
    (case c25 => k_is)
    (case k25 => k_is)
    (case a26 => k_is)
    (case i26 => k_is)
    (case l26 => k_is)
    (case c26 => k_is)
    (case k26 => k_is)
    (case a27 => k_is)
    (case i27 => k_is)
    (case l27 => k_is)
    (case c27 => k_is)
    (case k27 => k_is)
    (case a28 => k_is)
    (case i28 => k_is)
    (case l28 => k_is)
    (case c28 => k_is)
    (case k28 => k_is)
    (case a29 => k_is)
    (case i29 => k_is)
    (case l29 => k_is)
    (case c29 => k_is)
    (case k29 => k_is)
    (case a30 => k_is)
    (case i30 => k_is)
    (case l30 => k_is)
    (case c30 => k_is)
    (case k30 => k_is)
    (case a31 => k_is)
    (case i31 => k_is)
    (case l31 => k_is)
    (case c31 => k_is)
    (case k31 => k_is)
    (case a32 => k_is)
    (case i32 => k_is)
    (case l32 => k_is)
    (case c32 => k_is)
    (case k32 => k_is)
    (case a33 => k_is)
    (case i33 => k_is)
    (case l33 => k_is)
    (case c33 => k_is)
    (case k33 => k_is)
    (case a34 => k_is)
    (case i34 => k_is)
    (case l34 => k_is)
    (case c34 => k_is)
    (case k34 => k_is)
    (case a35 => k_is)
    (case l35 => k_is)
    (case c35 => k_is)
    (case k35 => k_is)
    (case a36 => k_is)
    (case i36 => k_is)
    (case l36 => k_is)
    (case c36 => k_is)
    (case k36 => k_is)
    (case a37 => k_is)
    (case i37 => k_is)
    (case l37 => k_is)
    (case c37 => k_is)
    (case k37 => k_is)
    (case a38 => k_is)
    (case i38 => k_is)
    (case l38 => k_is)
    (case c38 => k_is)
    (case k38 => k_is)
    (case a39 => k_is)
    (case i39 => k_is)
    (case l39 => k_is)
    (case c39 => k_is)
    (case k39 => k_is)
    (case a40 => k_is)
    (case i40 => k_is)
    (case l40 => k_is)
    (case c40 => k_is)
    (case k40 => k_is)
    (case a41 => k_is)
    (case i41 => k_is)
    (case l41 => k_is)
    (case c41 => k_is)
    (case k41 => k_is)
    (case a42 => k_is)
    (case i42 => k_is)
    (case l42 => k_is)
    (case c42 => k_is)
    (case k42 => k_is)
    (case a43 => k_is)
    (case i43 => k_is)
    (case l43 => k_is)
    (case c43 => k_is)
    (case k43 => k_is)
    (case a44 => k_is)
    (case i44 => k_is)
    (case l44 => k_is)
    (case c44 => k_is)
    (case k44 => k_is)
    (case a45 => k_is)
    (case i45 => k_is)
    (case l45 => k_is)
    (case c45 => k_is)
    (case k45 => k_is)
    (case a46 => k_is)
    (case i46 => k_is)
    (case l46 => k_is)
    (case c46 => k_is)
    (case k46 => k_is)
    (case a47 => k_is)
    (case i47 => k_is)
    (case l47 => k_is)
    (case c47 => k_is)
    (case k47 => k_is)
    (case a48 => k_is)
    (case i48 => k_is)
    (case l48 => k_is)
    (case c48 => k_is)
    (case k48 => k_is)
    (case a49 => k_is)
    (case i49 => k_is)
    (case l49 => k_is)
    (case c49 => k_is)
    (case k49 => k_is)
    (case a50 => k_is)
    (case i50 => k_is)
    (case l50 => k_is)
    (case c50 => k_is)
    (case k50 => k_is)
    (case a51 => k_is)
    (case i51 => k_is)
    (case l51 => k_is)
    (case c51 => k_is)
    (case k51 => k_is)
    (case a52 => k_is)
    (case l52 => k_is)
    (case c52 => k_is)
    (case k52 => k_is)
    (case a53 => k_is)
    (case l53 => k_is)
    (case c53 => k_is)
    (case k53 => k_is)
    (case a54 => k_is)
    (case l54 => k_is)
    (case c54 => k_is)
    (case k54 => k_is)
    (case a55 => k_is)
    (case l55 => k_is)
    (case c55 => k_is)
    (case k55 => k_is)
    (case a56 => k_is)
    (case l56 => k_is)
    (case c56 => k_is)
    (case k56 => k_is)
    (case a57 => k_is)
    (case l57 => k_is)
    (case c57 => k_is)
    (case k57 => k_is)
    (case a58 => k_is)
    (case l58 => k_is)
    (case c58 => k_is)
    (case k58 => k_is)
    (case pg0 => k_is)
    (case hd0 => k_is)
    (case po0 => k_is)
    (case sa0 => k_is)
    (case mk0 => k_is)
    (case kc0 => k_is)
    (case n0_0 => k_is)
    (case n0_1 => k_is)
    (case n0_2 => k_is)
    (case n0_3 => k_is)
    (case n0_4 => k_is)
    (case n0_5 => k_is)
    (case n0_6 => k_is)
    (case pg1 => k_is)
    (case hd1 => k_is)
    (case po1 => k_is)
    (case sa1 => k_is)
    (case mk1 => k_is)
    (case kc1 => k_is)
    (case n1_7 => k_is)
    (case n1_8 => k_is)
    (case pg4 => k_is)
    (case hd4 => k_is)
    (case po4 => k_is)
    (case sa4 => k_is)
    (case mk4 => k_is)
    (case kc4 => k_is)
    (case n4_9 => k_is)
    (case n4_0 => k_is)
    (case n4_7 => k_is)
    (case pg5 => k_is)
    (case hd5 => k_is)
    (case po5 => k_is)
    (case sa5 => k_is)
    (case mk5 => k_is)
    (case kc5 => k_is)
    (case n5_10 => k_is)
    (case n5_11 => k_is)
    (case pg6 => k_is)
    (case hd6 => k_is)
    (case po6 => k_is)
    (case sa6 => k_is)
    (case mk6 => k_is)
    (case kc6 => k_is)
    (case n6_12 => k_is)
    (case n6_13 => k_is)
    (case pg7 => k_is)
    (case hd7 => k_is)
    (case po7 => k_is)
    (case sa7 => k_is)
    (case mk7 => k_is)
    (case kc7 => k_is)
    (case n7_14 => k_is)
    (case n7_15 => k_is)
    (case n7_16 => k_is)
    (case n7_0 => k_is)
    (case n7_17 => k_is)
    (case n7_18 => k_is)
    (case z_abs => k_is)
    (case z_any => k_is)
    (case z_enumerate => k_is)
    (case z_int => k_is)
    (case z_len => k_is)
    (case z_list => k_is)
    (case z_max => k_is)
    (case z_min => k_is)
    (case z_range => k_is)
    (case z_sorted => k_is)
    (case q_UPPER => k_is)
